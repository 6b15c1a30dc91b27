import PyProof.Rows.All
import HandS.ForMost
import HandS.Exc
import HandS.TryOnly
import HandS.TryMany
import HandS.WordsExc
import HandS.CallSlots
import HandS.IsInst
import HandS.TupLe
import HandS.TupAny
import HandS.TupMul
import HandS.Style
import HandS.Flow
import HandS.SortInts
import HandS.Conv
import HandS.Walk
import HandS.Deep
import HandS.Zip
import HandS.Wide
import KE.DataMinMax
import KE.KTupSum
import PyProof.ReprRoads
import HandS.RaiseMore
import KE.GoesEnum
import PyProof.LongRange
import HandS.HeadEnd
import HandS.Head0
import HandS.Head1
import HandS.Head2
import HandS.HeadHook1
import HandS.HeadHook2
import HandS.Defaults
import KE.KStateDown
import HandS.StrMore
import HandS.Replace
import HandS.Text
import HandS.Call
import PySem.Challenge.RW_faxhouse_k43_whole_tellings_read
set_option Elab.async false
set_option linter.all false
set_option maxRecDepth 100000
/-! DD: deep data over the hand layer: values as trees, a small own heap for what may change, one rule a construct. -/
namespace DD
open PySem PySem.Spec PyProof.Rows L2

inductive D where
  | non | bl (b : Bool) | int (i : Int) | str (x : Str) | tup (ds : List D) | fl (ds : List D) | ref (n : Nat) | op (v : V)
inductive IO where
  | lst (ds : List D) | dic (kvs : List (Key × D))
abbrev IH := List IO
abbrev En := List (Option D)
/-- an exception: its class by name, its fields -/
structure XD where
  cls : Str
  fs : List (Str × D)
inductive Res (α : Type) where
  | val (a : α) (h : IH) | exc (x : XD) (h : IH) | stk
inductive Out where
  | nx (e : En) (h : IH) | rt (d : D) (h : IH) | bk (e : En) (h : IH) | ct (e : En) (h : IH) | exc (x : XD) (e : En) (h : IH) | stk

/-- a list that never changes: the script, a list of the module's -/
def FrzL (K : PySem.W.Frag) (H : Hp) (a : Addr) (vs : List V) : Prop :=
  (∃ o, H a = some (.frz o (.lst vs))) ∨ ∃ (o : Obj) (us : Array Value) (n : Nat), K.lookup a = some o ∧ o.cls = .type "list" ∧ o.dict = none ∧ o.data = .seq us n ∧ us.size ≤ sizeLine ∧ Vals vs us.toList
theorem FrzL.sq {K : PySem.W.Frag} {H : Hp} {a : Addr} {vs : List V} (h : FrzL K H a vs) : SqL K H a vs := by
  rcases h with h | h
  · exact .inl (.inr h)
  · exact .inr h
section
variable (K : PySem.W.Frag) (H : Hp) (μ : List Addr)
mutual
inductive Rp : V → D → Prop
  | non : Rp .non .non
  | bl (b : Bool) : Rp (.bl b) (.bl b)
  | int (i : Int) : Rp (.int i) (.int i)
  | str (x : Str) : Rp (.str x) (.str x)
  | tup {a : Addr} {vs : List V} {ds : List D} : SqT K H a vs → Rps vs ds → Rp (.ref a) (.tup ds)
  | fl {a : Addr} {vs : List V} {ds : List D} : FrzL K H a vs → Rps vs ds → Rp (.ref a) (.fl ds)
  | ref {a : Addr} {n : Nat} : μ[n]? = some a → Rp (.ref a) (.ref n)
  | op (v : V) : Rp v (.op v)
inductive Rps : List V → List D → Prop
  | nil : Rps [] []
  | cons {v : V} {d : D} {vs : List V} {ds : List D} : Rp v d → Rps vs ds → Rps (v :: vs) (d :: ds)
end
end
structure Mn (K : PySem.W.Frag) (H : Hp) (μ : List Addr) (H' : Hp) (μ' : List Addr) : Prop where
  tup : ∀ a xs, SqT K H a xs → SqT K H' a xs
  frz : ∀ a xs, FrzL K H a xs → FrzL K H' a xs
  pre : ∀ (n : Nat) a, μ[n]? = some a → μ'[n]? = some a
structure Ext (K : PySem.W.Frag) (H : Hp) (μ : List Addr) (H' : Hp) (μ' : List Addr) : Prop extends Mn K H μ H' μ' where
  keep : ∀ a o, H a = some o → a ∉ μ → H' a = some o
  fresh : ∀ a, a ∈ μ' → a ∉ μ → H a = none
section
variable {K : PySem.W.Frag} {H H' H2 : Hp} {μ μ' μ2 : List Addr}
mutual
theorem Rp.mn (x : Mn K H μ H' μ') : ∀ {v : V} {d : D}, Rp K H μ v d → Rp K H' μ' v d
  | _, _, .non => .non
  | _, _, .bl b => .bl b
  | _, _, .int i => .int i
  | _, _, .str z => .str z
  | _, _, .tup s r => .tup (x.tup _ _ s) (Rps.mn x r)
  | _, _, .fl s r => .fl (x.frz _ _ s) (Rps.mn x r)
  | _, _, .ref e => .ref (x.pre _ _ e)
  | _, _, .op v => .op v
theorem Rps.mn (x : Mn K H μ H' μ') : ∀ {vs : List V} {ds : List D}, Rps K H μ vs ds → Rps K H' μ' vs ds
  | _, _, .nil => .nil
  | _, _, .cons a b => .cons (Rp.mn x a) (Rps.mn x b)
end
theorem Rp.mono (x : Ext K H μ H' μ') {v : V} {d : D} (r : Rp K H μ v d) : Rp K H' μ' v d := r.mn x.toMn
theorem Rps.mono (x : Ext K H μ H' μ') {v : List V} {d : List D} (r : Rps K H μ v d) : Rps K H' μ' v d := r.mn x.toMn
theorem Ext.refl : Ext K H μ H μ := ⟨⟨fun _ _ h => h, fun _ _ h => h, fun _ _ h => h⟩, fun _ _ h _ => h, fun _ h g => absurd h g⟩
theorem Ext.trans (a : Ext K H μ H' μ') (b : Ext K H' μ' H2 μ2) : Ext K H μ H2 μ2 := by
  refine ⟨⟨fun c xs h => b.tup c xs (a.tup c xs h), fun c xs h => b.frz c xs (a.frz c xs h), fun n c h => b.pre n c (a.pre n c h)⟩, fun c o h g => ?_, fun c h g => ?_⟩
  · refine b.keep c o (a.keep c o h g) fun z => ?_
    have := a.fresh c z g
    rw [h] at this
    cases this
  · by_cases z : c ∈ μ'
    · exact a.fresh c z g
    · cases q : H c with
      | none => rfl
      | some o =>
        have e1 := a.keep c o q g
        rw [b.fresh c h z] at e1
        cases e1
theorem sqT_upd {a p : Addr} {xs : List V} {o : HO} (h : SqT K H a xs) (hp : H p = none) : SqT K (upd H p o) a xs := by
  rcases h with (h | ⟨f, h⟩) | h
  · exact .inl (.inl (by rw [upd_ne (ne_of_none h hp)]; exact h))
  · exact .inl (.inr ⟨f, by rw [upd_ne (ne_of_none h hp)]; exact h⟩)
  · exact .inr h
theorem frzL_upd {a p : Addr} {xs : List V} {o : HO} (h : FrzL K H a xs) (hp : H p = none) : FrzL K (upd H p o) a xs := by
  rcases h with ⟨f, h⟩ | h
  · exact .inl ⟨f, by rw [upd_ne (ne_of_none h hp)]; exact h⟩
  · exact .inr h
theorem Ext.new {p : Addr} {o : HO} (hp : H p = none) : Ext K H μ (upd H p o) μ := ⟨⟨fun _ _ h => sqT_upd h hp, fun _ _ h => frzL_upd h hp, fun _ _ h => h⟩, fun a o h _ => by rw [upd_ne (ne_of_none h hp)]; exact h, fun _ h g => absurd h g⟩
theorem Ext.newM {p : Addr} {o : HO} (hp : H p = none) : Ext K H μ (upd H p o) (μ ++ [p]) := by
  refine ⟨⟨fun _ _ h => sqT_upd h hp, fun _ _ h => frzL_upd h hp, fun n a h => ?_⟩, fun a o h _ => by rw [upd_ne (ne_of_none h hp)]; exact h, fun a h g => ?_⟩
  · rw [List.getElem?_append_left]
    · exact h
    · exact (List.getElem?_eq_some_iff.mp h).1
  · rcases List.mem_append.mp h with h | h
    · exact absurd h g
    · rw [List.mem_singleton.mp h]
      exact hp
/-- a list, a dict is written -/
theorem sqT_upd_mut {a p : Addr} {xs : List V} {o u : HO} (h : SqT K H a xs) (hp : H p = some u) (h1 : ∀ xs, u ≠ .tup xs) (h2 : ∀ b x, u ≠ .frz b x) : SqT K (upd H p o) a xs := by
  rcases h with (h | ⟨f, h⟩) | h
  · refine .inl (.inl ?_)
    rw [upd_ne]
    · exact h
    · exact ne_of h hp fun e => h1 _ e.symm
  · refine .inl (.inr ⟨f, ?_⟩)
    rw [upd_ne]
    · exact h
    · exact ne_of h hp fun e => h2 _ _ e.symm
  · exact .inr h
theorem frzL_upd_mut {a p : Addr} {xs : List V} {o u : HO} (h : FrzL K H a xs) (hp : H p = some u) (h2 : ∀ b x, u ≠ .frz b x) : FrzL K (upd H p o) a xs := by
  rcases h with ⟨f, h⟩ | h
  · refine .inl ⟨f, ?_⟩
    rw [upd_ne]
    · exact h
    · exact ne_of h hp fun e => h2 _ _ e.symm
  · exact .inr h
theorem Ext.mut {p : Addr} {o u : HO} {n : Nat} (hn : μ[n]? = some p) (hp : H p = some u) (h1 : ∀ xs, u ≠ .tup xs) (h2 : ∀ b x, u ≠ .frz b x) : Ext K H μ (upd H p o) μ :=
  ⟨⟨fun _ _ h => sqT_upd_mut h hp h1 h2, fun _ _ h => frzL_upd_mut h hp h2, fun _ _ h => h⟩, fun a o h g => by
    rw [upd_ne]
    · exact h
    · exact fun z => g (by rw [z]; exact List.mem_of_getElem? hn), fun _ h g => absurd h g⟩
theorem Rps.length : ∀ {vs : List V} {ds : List D}, Rps K H μ vs ds → vs.length = ds.length
  | _, _, .nil => rfl
  | _, _, .cons _ b => by rw [List.length_cons, List.length_cons, b.length]
theorem Rps.append : ∀ {vs ws : List V} {ds es : List D}, Rps K H μ vs ds → Rps K H μ ws es → Rps K H μ (vs ++ ws) (ds ++ es)
  | _, _, _, _, .nil, s => s
  | _, _, _, _, .cons a b, s => .cons a (b.append s)
theorem Rps.get : ∀ {vs : List V} {ds : List D} {i : Nat} {d : D}, Rps K H μ vs ds → ds[i]? = some d → ∃ v, vs[i]? = some v ∧ Rp K H μ v d
  | _, _, _, _, .nil, e => by simp at e
  | _, _, 0, _, .cons a _, e => by
    simp at e
    subst e
    exact ⟨_, rfl, a⟩
  | _, _, i + 1, _, .cons _ b, e => by
    obtain ⟨v, h1, h2⟩ := b.get (i := i) (by simpa using e)
    exact ⟨v, by simpa using h1, h2⟩
theorem Rps.getV : ∀ {vs : List V} {ds : List D} {i : Nat} {v : V}, Rps K H μ vs ds → vs[i]? = some v → ∃ d, ds[i]? = some d ∧ Rp K H μ v d
  | _, _, _, _, .nil, e => by simp at e
  | _, _, 0, _, .cons a _, e => by
    simp at e
    subst e
    exact ⟨_, rfl, a⟩
  | _, _, i + 1, _, .cons _ b, e => by
    obtain ⟨v, h1, h2⟩ := b.getV (i := i) (by simpa using e)
    exact ⟨v, by simpa using h1, h2⟩
theorem Rps.take : ∀ {vs : List V} {ds : List D} (n : Nat), Rps K H μ vs ds → Rps K H μ (vs.take n) (ds.take n)
  | _, _, 0, _ => .nil
  | _, _, _ + 1, .nil => .nil
  | _, _, n + 1, .cons a b => .cons a (b.take n)
theorem Rps.drop : ∀ {vs : List V} {ds : List D} (n : Nat), Rps K H μ vs ds → Rps K H μ (vs.drop n) (ds.drop n)
  | _, _, 0, r => r
  | _, _, _ + 1, .nil => .nil
  | _, _, n + 1, .cons _ b => b.drop n
theorem Rps.set : ∀ {vs : List V} {ds : List D} (n : Nat) {v : V} {d : D}, Rps K H μ vs ds → Rp K H μ v d → Rps K H μ (vs.set n v) (ds.set n d)
  | _, _, _, _, _, .nil, _ => .nil
  | _, _, 0, _, _, .cons _ b, r => .cons r b
  | _, _, n + 1, _, _, .cons a b, r => .cons a (b.set n r)
theorem Rps.reverse : ∀ {vs : List V} {ds : List D}, Rps K H μ vs ds → Rps K H μ vs.reverse ds.reverse
  | _, _, .nil => .nil
  | _, _, .cons a b => by
    rw [List.reverse_cons, List.reverse_cons]
    exact b.reverse.append (.cons a .nil)

/-! ### the own heap -/
def OkO (K : PySem.W.Frag) (H : Hp) (μ : List Addr) (a : Addr) : IO → Prop
  | .lst ds => ∃ vs, H a = some (.lst vs) ∧ Rps K H μ vs ds
  | .dic kvs => ∃ kws : List (Key × V), H a = some (.dK kws) ∧ kws.map (·.1) = kvs.map (·.1) ∧ Rps K H μ (kws.map (·.2)) (kvs.map (·.2))
structure Rl (K : PySem.W.Frag) (H : Hp) (μ : List Addr) (h : IH) : Prop where
  nd : μ.Nodup
  len : μ.length = h.length
  ok : ∀ (n : Nat) a o, μ[n]? = some a → h[n]? = some o → OkO K H μ a o
def EnvR (K : PySem.W.Frag) (H : Hp) (μ : List Addr) (σ : L2.St) (env : En) : Prop := σ.length = env.length ∧ ∀ (i : Nat) d, env[i]? = some (some d) → ∃ v, σ[i]? = some (some v) ∧ Rp K H μ v d
theorem EnvR.mono {σ : L2.St} {env : En} (x : Ext K H μ H' μ') (r : EnvR K H μ σ env) : EnvR K H' μ' σ env := ⟨r.1, fun i d e => by
  obtain ⟨v, h1, h2⟩ := r.2 i d e
  exact ⟨v, h1, h2.mono x⟩⟩
theorem EnvR.set {σ : L2.St} {env : En} {i : Nat} {v : V} {d : D} (r : EnvR K H μ σ env) (q : Rp K H μ v d) : EnvR K H μ (σ.set i (some v)) (env.set i (some d)) := by
  refine ⟨by rw [List.length_set, List.length_set]; exact r.1, fun j d' e => ?_⟩
  rw [List.getElem?_set] at e ⊢
  by_cases hij : i = j
  · subst hij
    rw [if_pos rfl] at e ⊢
    by_cases hi : i < env.length
    · rw [if_pos hi] at e
      rw [if_pos (by rw [r.1]; exact hi)]
      cases e
      exact ⟨v, rfl, q⟩
    · rw [if_neg hi] at e
      cases e
  · rw [if_neg hij] at e ⊢
    exact r.2 j d' e
theorem OkO.mn {a : Addr} {o : IO} (x : Mn K H μ H' μ') (e : H' a = H a) : OkO K H μ a o → OkO K H' μ' a o := by
  intro q
  cases o with
  | lst ds =>
    obtain ⟨vs, h1, h2⟩ := q
    exact ⟨vs, e.trans h1, h2.mn x⟩
  | dic kvs =>
    obtain ⟨kws, h1, h2, h3⟩ := q
    exact ⟨kws, e.trans h1, h2, h3.mn x⟩
theorem OkO.mono {a : Addr} {o : IO} (x : Ext K H μ H' μ') (e : H' a = H a) (q : OkO K H μ a o) : OkO K H' μ' a o := q.mn x.toMn e
theorem OkO.some {a : Addr} {o : IO} (q : OkO K H μ a o) : ∃ u, H a = some u ∧ ∀ xs, u ≠ .tup xs := by
  cases o with
  | lst ds =>
    obtain ⟨vs, h1, h2⟩ := q
    exact ⟨_, h1, fun _ e => by cases e⟩
  | dic kvs =>
    obtain ⟨kws, h1, h2, h3⟩ := q
    exact ⟨_, h1, fun _ e => by cases e⟩
theorem Rl.at {h : IH} {n : Nat} {a : Addr} (r : Rl K H μ h) (e : μ[n]? = some a) : ∃ o, h[n]? = some o ∧ OkO K H μ a o := by
  have hn : n < h.length := by
    rw [← r.len]
    exact (List.getElem?_eq_some_iff.mp e).1
  exact ⟨h[n], List.getElem?_eq_getElem hn, r.ok n a _ e (List.getElem?_eq_getElem hn)⟩
theorem Rl.addr {h : IH} {n : Nat} {o : IO} (r : Rl K H μ h) (e : h[n]? = some o) : ∃ a, μ[n]? = some a ∧ OkO K H μ a o := by
  have hn : n < μ.length := by
    rw [r.len]
    exact (List.getElem?_eq_some_iff.mp e).1
  exact ⟨μ[n], List.getElem?_eq_getElem hn, r.ok n _ _ (List.getElem?_eq_getElem hn) e⟩
theorem Rl.old {h : IH} {n : Nat} {a p : Addr} (r : Rl K H μ h) (e : μ[n]? = some a) (hp : H p = none) : a ≠ p := by
  obtain ⟨o, _, q⟩ := r.at e
  obtain ⟨u, hu, _⟩ := q.some
  exact ne_of_none hu hp
/-- a new thing that the own heap does not hold -/
theorem Rl.new {h : IH} {p : Addr} {u : HO} (r : Rl K H μ h) (hp : H p = none) : Rl K (upd H p u) μ h :=
  ⟨r.nd, r.len, fun n a o e1 e2 => (r.ok n a o e1 e2).mono (Ext.new hp) (upd_ne (r.old e1 hp))⟩
/-- a new thing that it holds -/
theorem Rl.newM {h : IH} {p : Addr} {u : HO} {o : IO} (r : Rl K H μ h) (hp : H p = none) (q : OkO K (upd H p u) (μ ++ [p]) p o) : Rl K (upd H p u) (μ ++ [p]) (h ++ [o]) := by
  refine ⟨?_, by rw [List.length_append, List.length_append, r.len]; rfl, fun n a o' e1 e2 => ?_⟩
  · rw [List.nodup_append]
    refine ⟨r.nd, by simp, fun a ha b hb => ?_⟩
    rw [List.mem_singleton] at hb
    subst hb
    obtain ⟨n, hn, e⟩ := List.mem_iff_getElem.mp ha
    exact r.old (n := n) (by rw [List.getElem?_eq_getElem hn, e]) hp
  · by_cases hn : n < μ.length
    · rw [List.getElem?_append_left hn] at e1
      rw [List.getElem?_append_left (by rw [← r.len]; exact hn)] at e2
      exact (r.ok n a o' e1 e2).mono (Ext.newM hp) (upd_ne (r.old e1 hp))
    · rw [List.getElem?_append_right (by omega)] at e1
      rw [List.getElem?_append_right (by rw [← r.len]; omega), ← r.len] at e2
      have hz : n - μ.length = 0 := by
        have := (List.getElem?_eq_some_iff.mp e1).1
        rw [List.length_singleton] at this
        omega
      rw [hz] at e1 e2
      cases e1
      cases e2
      exact q
/-- a thing that it holds is changed -/
theorem Rl.set {h : IH} {n : Nat} {a : Addr} {u : HO} {o : IO} (r : Rl K H μ h) (e : μ[n]? = some a) (x : Ext K H μ (upd H a u) μ) (q : OkO K (upd H a u) μ a o) : Rl K (upd H a u) μ (h.set n o) := by
  refine ⟨r.nd, by rw [List.length_set]; exact r.len, fun j b o' e1 e2 => ?_⟩
  by_cases hj : n = j
  · subst hj
    rw [e] at e1
    cases e1
    rw [List.getElem?_set_self (by rw [← r.len]; exact (List.getElem?_eq_some_iff.mp e).1)] at e2
    cases e2
    exact q
  · rw [List.getElem?_set_ne hj] at e2
    have hb : b ≠ a := fun z => by
      subst z
      have h1 := (List.getElem?_eq_some_iff.mp e)
      have h2 := (List.getElem?_eq_some_iff.mp e1)
      obtain ⟨l1, g1⟩ := h1
      obtain ⟨l2, g2⟩ := h2
      exact hj ((List.getElem_inj r.nd).mp (g1.trans g2.symm))
    exact (r.ok j b o' e1 e2).mono x (upd_ne hb)
theorem Rl.inj {h : IH} {n m : Nat} {a : Addr} (r : Rl K H μ h) (e1 : μ[n]? = some a) (e2 : μ[m]? = some a) : n = m := by
  obtain ⟨l1, g1⟩ := List.getElem?_eq_some_iff.mp e1
  obtain ⟨l2, g2⟩ := List.getElem?_eq_some_iff.mp e2
  exact (List.getElem_inj r.nd).mp (g1.trans g2.symm)
end

/-! ### exceptions, ends -/
abbrev MG := Str → Option Value
def XR (mg : MG) (K : PySem.W.Frag) (H : Hp) (μ : List Addr) (x : XD) (cls : Value) (dd : Option Addr) : Prop :=
  mg x.cls = some cls ∧ ((x.fs = [] ∧ dd = none) ∨ ∃ d ws, dd = some d ∧ H d = some (.xd ws) ∧ ws.map (·.1) = x.fs.map (·.1) ∧ Rps K H μ (ws.map (·.2)) (x.fs.map (·.2)))

section
variable (mg : MG) (K : PySem.W.Frag) (W : WX)
def Po {α β : Type} (R : Hp → List Addr → β → α → Prop) (σ : L2.St) (H : Hp) (μ : List Addr) : Res α → (β → Hp → Prop) → Prop
  | .val d h', Q => ∀ v μ' H', Ext K H μ H' μ' → Rl K H' μ' h' → R H' μ' v d → Q v H'
  | .exc x h', _ => ∀ cls dd μ' H', Ext K H μ H' μ' → Rl K H' μ' h' → XR mg K H' μ' x cls dd → W cls dd σ H'
  | .stk, _ => False
abbrev RpT : Hp → List Addr → Bool → Bool → Prop := fun _ _ b a => b = a
abbrev PoE := Po mg K W (Rp K)
abbrev PoA := Po mg K W (Rps K)
abbrev PoT := Po mg K W RpT
def PoS (H : Hp) (μ : List Addr) : Out → Ends → Prop
  | .nx e h', Z => ∀ σ' μ' H', Ext K H μ H' μ' → Rl K H' μ' h' → EnvR K H' μ' σ' e → Z.nx σ' H'
  | .rt d h', Z => ∀ v μ' H', Ext K H μ H' μ' → Rl K H' μ' h' → Rp K H' μ' v d → Z.rt v H'
  | .bk e h', Z => ∀ σ' μ' H', Ext K H μ H' μ' → Rl K H' μ' h' → EnvR K H' μ' σ' e → Z.bk σ' H'
  | .ct e h', Z => ∀ σ' μ' H', Ext K H μ H' μ' → Rl K H' μ' h' → EnvR K H' μ' σ' e → Z.ct σ' H'
  | .exc x e h', _ => ∀ cls dd σ' μ' H', Ext K H μ H' μ' → Rl K H' μ' h' → EnvR K H' μ' σ' e → XR mg K H' μ' x cls dd → W cls dd σ' H'
  | .stk, _ => False
abbrev ME := En → IH → Res D
abbrev MT := En → IH → Res Bool
abbrev MA := En → IH → Res (List D)
abbrev MS := En → IH → Out
def RE (m : ME) : TE := fun σ H Q => ∃ μ h env, Rl K H μ h ∧ EnvR K H μ σ env ∧ PoE mg K W σ H μ (m env h) Q
def RT (m : MT) : TT := fun σ H Q => ∃ μ h env, Rl K H μ h ∧ EnvR K H μ σ env ∧ PoT mg K W σ H μ (m env h) Q
def RA (m : MA) : TA := fun σ H Q => ∃ μ h env, Rl K H μ h ∧ EnvR K H μ σ env ∧ PoA mg K W σ H μ (m env h) Q
def RS (m : MS) : TS := fun Z σ H => ∃ μ h env, Rl K H μ h ∧ EnvR K H μ σ env ∧ PoS mg K W H μ (m env h) Z
end
def QE (X : Cx) (W : WX) (e : Expr) (m : ME) : Prop := PE X e (RE X.mg X.K W m)
def QT (X : Cx) (W : WX) (e : Expr) (m : MT) : Prop := PT X e (RT X.mg X.K W m)
def QA (X : Cx) (W : WX) (es : List Expr) (m : MA) : Prop := PA X es (RA X.mg X.K W m)
def QS (X : Cx) (W : WX) (s : Stmt) (m : MS) : Prop := PS X s (RS X.mg X.K W m)
def QSs (X : Cx) (W : WX) (s : List Stmt) (m : MS) : Prop := PSs X s (RS X.mg X.K W m)

section
variable {X : Cx}
theorem PE.imp {e : Expr} {t t' : TE} (h : PE X e t) (i : ∀ σ H Q, t' σ H Q → t σ H Q) : PE X e t' := ⟨fun pins s σ H Q I q => h.run pins s σ H Q I (i σ H Q q)⟩
theorem PT.imp {e : Expr} {t t' : TT} (h : PT X e t) (i : ∀ σ H Q, t' σ H Q → t σ H Q) : PT X e t' := ⟨fun pins s σ H Q I q => h.run pins s σ H Q I (i σ H Q q)⟩
theorem PW.imp {e : Expr} {t t' : TT} (h : PW X e t) (i : ∀ σ H Q, t' σ H Q → t σ H Q) : PW X e t' := ⟨fun wh pins s σ H Q I q => h.run wh pins s σ H Q I (i σ H Q q)⟩
theorem PA.imp {e : List Expr} {t t' : TA} (h : PA X e t) (i : ∀ σ H Q, t' σ H Q → t σ H Q) : PA X e t' := ⟨fun pos pins s σ H Q I q => h.run pos pins s σ H Q I (i σ H Q q)⟩
theorem PS.imp {e : Stmt} {t t' : TS} (h : PS X e t) (i : ∀ Z σ H, t' Z σ H → t Z σ H) : PS X e t' := ⟨fun pins s σ H Z I q => h.run pins s σ H Z I (i Z σ H q)⟩
theorem PSs.imp {e : List Stmt} {t t' : TS} (h : PSs X e t) (i : ∀ Z σ H, t' Z σ H → t Z σ H) : PSs X e t' := ⟨fun pins s σ H Z I q => h.run pins s σ H Z I (i Z σ H q)⟩
end

/-! ### the monad -/
def Res.bind {α β : Type} (r : Res α) (f : α → IH → Res β) : Res β := match r with
  | .val a h => f a h
  | .exc x h => .exc x h
  | .stk => .stk
def mVar (i : Nat) : ME := fun env h => match env[i]? with
  | some (some d) => .val d h
  | _ => .stk
def mC (d : D) : ME := fun _ h => .val d h
def mUn (f : D → IH → Res D) (a : ME) : ME := fun env h => (a env h).bind f
def mBin (f : D → D → IH → Res D) (a b : ME) : ME := fun env h => (a env h).bind fun x h1 => (b env h1).bind fun y h2 => f x y h2
def mNil : MA := fun _ h => .val [] h
def mCons (a : ME) (r : MA) : MA := fun env h => (a env h).bind fun x h1 => (r env h1).bind fun xs h2 => .val (x :: xs) h2
def mCall (f : List D → IH → Res D) (r : MA) : ME := fun env h => (r env h).bind f

section
variable {mg : MG} {K : PySem.W.Frag} {W : WX} {σ : L2.St} {H H' : Hp} {μ μ' : List Addr}
/-- an end behind an end -/
theorem Po.ext {α β : Type} {R : Hp → List Addr → β → α → Prop} {r : Res α} {Q : β → Hp → Prop} (x : Ext K H μ H' μ') (p : Po mg K W R σ H μ r Q) : Po mg K W R σ H' μ' r Q := by
  cases r with
  | val d h => exact fun v μ2 H2 y a b => p v μ2 H2 (x.trans y) a b
  | exc z h => exact fun c d μ2 H2 y a b => p c d μ2 H2 (x.trans y) a b
  | stk => exact p
theorem PoS.ext {r : Out} {Z : Ends} (x : Ext K H μ H' μ') (p : PoS mg K W H μ r Z) : PoS mg K W H' μ' r Z := by
  cases r with
  | nx e h => exact fun v μ2 H2 y a b => p v μ2 H2 (x.trans y) a b
  | rt d h => exact fun v μ2 H2 y a b => p v μ2 H2 (x.trans y) a b
  | bk e h => exact fun v μ2 H2 y a b => p v μ2 H2 (x.trans y) a b
  | ct e h => exact fun v μ2 H2 y a b => p v μ2 H2 (x.trans y) a b
  | exc z e h => exact fun c d s μ2 H2 y a b => p c d s μ2 H2 (x.trans y) a b
  | stk => exact p
/-- one thing behind another -/
theorem Po.then {α β α' β' : Type} {R : Hp → List Addr → β → α → Prop} {R' : Hp → List Addr → β' → α' → Prop} {r : Res α} {Q : β' → Hp → Prop} {f : α → IH → Res α'} (p : Po mg K W R' σ H μ (r.bind f) Q) {Q' : β → Hp → Prop}
    (h : ∀ d h' v μ' H', Ext K H μ H' μ' → Rl K H' μ' h' → R H' μ' v d → Po mg K W R' σ H' μ' (f d h') Q → Q' v H') : Po mg K W R σ H μ r Q' := by
  cases r with
  | val d h' => exact fun v μ' H' x rl rp => h d h' v μ' H' x rl rp (Po.ext x p)
  | exc x h' => exact p
  | stk => exact p
def Res.bindS {α : Type} (r : Res α) (env : En) (f : α → IH → Out) : Out := match r with
  | .val a h => f a h
  | .exc x h => .exc x env h
  | .stk => .stk
theorem Po.thenS {α β : Type} {R : Hp → List Addr → β → α → Prop} {r : Res α} {Z : Ends} {env : En} {f : α → IH → Out} (er : EnvR K H μ σ env) (p : PoS mg K W H μ (r.bindS env f) Z) {Q' : β → Hp → Prop}
    (h : ∀ d h' v μ' H', Ext K H μ H' μ' → Rl K H' μ' h' → R H' μ' v d → PoS mg K W H' μ' (f d h') Z → Q' v H') : Po mg K W R σ H μ r Q' := by
  cases r with
  | val d h' => exact fun v μ' H' x rl rp => h d h' v μ' H' x rl rp (PoS.ext x p)
  | exc x h' => exact fun cls dd μ' H' y rl xr => p cls dd σ μ' H' y rl (er.mono y) xr
  | stk => exact p
end
end DD
set_option Elab.async false
set_option linter.all false
set_option maxRecDepth 100000
namespace DD
open PySem PySem.Spec L2 PyProof.Rows

/-! ### where one stands -/
structure Ctx (X : Cx) (W : WX) (k : Nat) : Prop where
  tk : Takes X W
  po : PassesOwn (model X.prog X.w) X.A X.env X.xe
  room : Room k X.A
  gd : X.A.guards = some []
  calm : X.calm = true
  nd : X.N.Nodup
abbrev W0 : WX := fun _ _ _ _ => False
theorem Ctx.blk {X : Cx} {W : WX} {k : Nat} (C : Ctx X W k) {s : Shared} {H : Hp} {sc : Scope} {ce : Env} {fp : List Addr} : Ctx (X.blk s H sc ce fp) W0 k :=
  ⟨takes0, PassesOwn.never, C.room, C.gd, C.calm, C.nd⟩
theorem Ctx.mono {X : Cx} {W : WX} {j k : Nat} (C : Ctx X W k) (h : j ≤ k) : Ctx X W j := ⟨C.tk, C.po, C.room.mono h, C.gd, C.calm, C.nd⟩

/-! ### a def's promise where nothing is being shown (repr) -/
structure FnG (P : Program) (w : World) (K : PySem.W.Frag) (mg : MG) (base : Heap) (k : Nat) (f : Addr) (fd : FuncData) (ps : List Str) (sp : Sp) : Prop where
  len : ∀ vs H Q E, sp vs H Q E → vs.length = ps.length
  run : ∀ (A : Around) (out : List Env) (s : Shared) (H : Hp) (ar : Args) (us : List Value) (vs : List V) (Q : VK) (E : XK), A.guards = some [] → Room k A →
    Env0 P w K mg base A out s H → BindsTo s fd ar (ps.zip us) → Vals vs us → sp vs H Q E → codeAny (model P w) A (.call (.ref f) ar) (CR (CX P w) out P w H s Q E) s
theorem fnG_of {P : Program} {w : World} {K : PySem.W.Frag} {mg : MG} {base : Heap} {k : Nat} {f : Addr} {nm qu : Str} {pa : Arguments} {bo : List Stmt} {sc : Scope} {dV kV do' pm cv ct oc : Value} {an od : Option Addr}
    {sl : Array (Option Value)} {N ps : List Str} {sp : Sp} (lk : K.lookup f = some ⟨oc, od, .func (PySem.W.fnOf nm qu pa bo sc dV kV do' pm an cv ct), sl⟩) (hc : PySem.W.codeIn K cv qu = true) (S : FnScope N ps sc)
    (ln : ∀ vs H Q E, sp vs H Q E → vs.length = ps.length)
    (hb : ∀ (A : Around) (out : List Env) (s : Shared) (H : Hp) (vs : List V) (Q : VK) (E : XK), A.guards = some [] → Room k (A.deeper (envOfC qu sc s.heap.objs.size f cv)) → sp vs H Q E →
      ∃ t, PSs (cxOf (CX P w) P w K mg base N qu sc f cv A out s H E) bo t ∧ t { nx := fun _ H' => Q .non H', rt := Q } (start N vs) H) :
    FnG P w K mg base (k + 1) f (PySem.W.fnOf nm qu pa bo sc dV kV do' pm an cv ct) ps sp := by
  refine ⟨ln, fun A out s H ar us vs Q E gd ro e0 hbi rv hs => ?_⟩
  have le := ln _ _ _ _ hs
  have KI : K.In s.heap := e0.mod.kin.keeps fun b o z => (e0.bs b o z).1
  have nl : s.heap.NoLimit := e0.mod.nolimit.keeps fun b o z => (e0.bs b o z).1
  have kd : ∀ y ∈ ps.zip us, sc.names.lookup y.1 = some .local ∨ (sc.names.lookup y.1 = some .cell ∧ ((cellsFrom (s.heap.objs.size + 1) sc.names []).lookup y.1).isSome = true) := fun ⟨n, v⟩ hy => by
    rcases S.par n (List.of_mem_zip hy).1 with z | z
    · exact .inl z
    · exact .inr ⟨z, PySem.W.cellsFrom_some _ _ _ (.inl z)⟩
  refine codeAny_call_function ro.depth (KI _ _ lk) rfl S.co S.gen rfl (PySem.W.codeRec_of KI hc) (hbi _ _ _ _ ?_)
  refine wpAny_newFunctionEnv_cells S.kind kd fun env hen s1 ic => ?_
  subst hen
  refine ⟨nl.keeps ic.toInCall.keep, codeAny_func ?_⟩
  obtain ⟨t, ht, hq⟩ := hb A out s H vs Q E gd (ro.deeper _) hs
  have J : Inv (cxOf (CX P w) P w K mg base N qu sc f cv A out s H E) [] (start N vs) H s1 := inv_start S ro.hd e0 le rv ic
  refine wpAny_mono (ht.run [] s1 (start N vs) H _ J hq) (fun fl s2 hz => ?_) fun e s2 hz => hz
  cases fl with
  | ret u =>
    obtain ⟨v, σ2, H2, J2, rv2, q⟩ := hz
    exact ⟨v, H2, J2.os, J2.bare, J2.base, J2.hok, rv2, q⟩
  | next =>
    obtain ⟨σ2, H2, J2, q⟩ := hz
    exact ⟨.non, H2, J2.os, J2.bare, J2.base, J2.hok, rfl, q⟩
  | brk =>
    obtain ⟨_, _, _, q⟩ := hz
    exact q.elim
  | cont =>
    obtain ⟨_, _, _, q⟩ := hz
    exact q.elim
theorem run_fnG {X : Cx} {k : Nat} {f : Addr} {fd : FuncData} {ps : List Str} {sp : Sp} {pins : List (Addr × Obj)} {σ : L2.St} {H : Hp} {s : Shared} {Q : VK} {us : List Value} {vs : List V} {E : XK} (F : FnG X.prog X.w X.K X.mg X.base k f fd ps sp)
    (gd : X.A.guards = some []) (ro : Room k X.A) (hb : Binds X.K fd ps []) (hx : PassesAt (CX X.prog X.w) X σ E) (I : Inv X pins σ H s) (rv : Vals vs us) (hs : sp vs H Q E) : wpAny (model X.prog X.w) X.A (call (.ref f) us) (EP X pins σ Q) X.xe s := by
  have e1 : us.length = ps.length := by
    rw [← rv.length]
    exact F.len _ _ _ _ hs
  have e2 := hb s us I.kIn (by rw [List.append_nil]; exact e1)
  rw [List.append_nil] at e2
  refine wpAny_call (codeAny_mono (F.run X.A X.stack s H ⟨us, []⟩ us vs Q E gd ro I.env0 e2 rv hs) fun r s2 hq => ?_)
  cases r with
  | error e => exact hx pins H s e s2 I hq
  | ok fl =>
    cases fl with
    | ret u => exact I.after hq
    | next => exact hq.elim
    | brk => exact hq.elim
    | cont => exact hq.elim

/-! ### defs as functions on data -/
def spM (mg : MG) (K : PySem.W.Frag) (m : List D → IH → Res D) (n : Nat) : Sp := fun vs H Q E =>
  vs.length = n ∧ ∃ μ h ds, Rl K H μ h ∧ Rps K H μ vs ds ∧ Po mg K (fun c d _ H' => E c d H') (Rp K) [] H μ (m ds h) Q
def enOf (n : Nat) (ds : List D) : En := ds.map some ++ List.replicate (n - ds.length) none
def mBody (n : Nat) (m : MS) : List D → IH → Res D := fun ds h => match m (enOf n ds) h with
  | .nx _ h' => .val .non h'
  | .rt d h' => .val d h'
  | .exc x _ h' => .exc x h'
  | _ => .stk
theorem envR_start {K : PySem.W.Frag} {H : Hp} {μ : List Addr} {N : List Str} {vs : List V} {ds : List D} (r : Rps K H μ vs ds) (hl : ds.length ≤ N.length) : EnvR K H μ (start N vs) (enOf N.length ds) := by
  have e := r.length
  refine ⟨?_, fun i d q => ?_⟩
  · unfold L2.start enOf
    rw [List.length_append, List.length_append, List.length_map, List.length_map, List.length_replicate, List.length_replicate, e]
  · unfold enOf at q
    unfold L2.start
    by_cases hi : i < ds.length
    · rw [List.getElem?_append_left (by rw [List.length_map]; exact hi), List.getElem?_map] at q
      rw [List.getElem?_append_left (by rw [List.length_map, e]; exact hi), List.getElem?_map]
      cases z : ds[i]? with
      | none =>
        rw [z] at q
        cases q
      | some x =>
        rw [z] at q
        cases q
        obtain ⟨v, h1, h2⟩ := r.get z
        exact ⟨v, by rw [h1]; rfl, h2⟩
    · rw [List.getElem?_append_right (by rw [List.length_map]; omega), List.getElem?_replicate] at q
      split at q <;> cases q
/-- what is known of a def: where it stands, what it does -/
structure Fn (P : Program) (w : World) (K : PySem.W.Frag) (mg : MG) (base : Heap) (k : Nat) (x : Str) (m : List D → IH → Res D) (n : Nat) : Prop where
  ex : ∃ (f : Addr) (fd : FuncData) (ps : List Str), FnG P w K mg base k f fd ps (spM mg K m n) ∧ mg x = some (.ref f) ∧ PySem.W.keepIn K (.ref f) = true ∧ Binds K fd ps []
/-- THE RULE for a def -/
theorem fn_ok {P : Program} {w : World} {K : PySem.W.Frag} {mg : MG} {base : Heap} {k : Nat} {x qu : Str} {st : Stmt} {f : Addr} {fd : FuncData} {N ps : List Str} {m : MS} (F : Fun K x qu st f fd) (S : FnScope N ps (defScope st))
    (hb : ∀ (cv : Value) (A : Around) (out : List Env) (s : Shared) (H : Hp) (E : XK), Ctx (cxOf (CX P w) P w K mg base N qu (defScope st) f cv A out s H E) (fun c d _ H' => E c d H') k →
      QSs (cxOf (CX P w) P w K mg base N qu (defScope st) f cv A out s H E) (fun c d _ H' => E c d H') (defBody st) m) :
    FnG P w K mg base (k + 1) f fd ps (spM mg K (mBody N.length m) ps.length) := by
  obtain ⟨oc, od, kV, do', pm, an, cv, ct, sl, rfl, lk, hc⟩ := F.ex
  have hpl : ps.length ≤ N.length := by
    have := congrArg List.length S.pre
    rw [List.length_take] at this
    omega
  refine fnG_of lk hc S (fun vs H Q E h => h.1) fun A out s H vs Q E gd ro hs => ?_
  have C : Ctx (cxOf (CX P w) P w K mg base N qu (defScope st) f cv A out s H E) (fun c d _ H' => E c d H') k :=
    ⟨takes_of rfl rfl rfl rfl, passes_of rfl, ro, gd, rfl, S.nd⟩
  refine ⟨_, hb cv A out s H E C, ?_⟩
  obtain ⟨hl, μ, h, ds, rl, rp, po⟩ := hs
  refine ⟨μ, h, enOf N.length ds, rl, envR_start rp (by rw [← rp.length, hl]; exact hpl), ?_⟩
  unfold mBody at po
  revert po
  cases m (enOf N.length ds) h with
  | nx e h' => exact fun po σ' μ' H' x1 rl1 er1 => po .non μ' H' x1 rl1 .non
  | rt d h' => exact fun po v μ' H' x1 rl1 rp1 => po v μ' H' x1 rl1 rp1
  | bk e h' => exact fun po => po.elim
  | ct e h' => exact fun po => po.elim
  | exc z e h' => exact fun po c d σ' μ' H' x1 rl1 er1 xr => po c d μ' H' x1 rl1 xr
  | stk => exact fun po => po.elim

def ALen (m : MA) (n : Nat) : Prop := ∀ env h ds h', m env h = .val ds h' → ds.length = n
theorem alen_nil : ALen mNil 0 := fun env h ds h' e => by
  cases e
  rfl
theorem alen_cons {a : ME} {m : MA} {n : Nat} (q : ALen m n) : ALen (mCons a m) (n + 1) := fun env h ds h' e => by
  unfold mCons Res.bind at e
  split at e
  · dsimp only at e
    split at e
    · rename_i z
      cases e
      rw [List.length_cons, q _ _ _ _ z]
    · cases e
    · cases e
  · cases e
  · cases e
/-! ### expressions -/
section
variable {X : Cx} {W : WX} {a b c : Expr} {ma mb mc : ME} {pos : Pos}
theorem qe_var (i : Nat) {x : Str} (hN : X.N[i]? = some x := by rfl) (hv : Vis X.env.scope x := by first | exact Or.inl rfl | exact Or.inr (Or.inl rfl) | exact Or.inr (Or.inr rfl)) (hd : (x == ("__debug__" : Str)) = false := by decide)
    (hcd : (x == ("__classdict__" : Str)) = false := by decide) : QE X W (.Name x pos) (mVar i) := PE.imp (pe_var hN hv hd hcd) fun σ H Q ⟨μ, h, env, rl, er, p⟩ => by
  unfold mVar at p
  split at p
  · rename_i d e
    obtain ⟨v, h1, h2⟩ := er.2 i d e
    exact ⟨v, h1, p v μ H .refl rl h2⟩
  · exact p.elim
theorem qe_C {e : Expr} {v : V} {d : D} (h : PE X e (tC v)) (r : ∀ H μ, Rp X.K H μ v d) : QE X W e (mC d) := PE.imp h fun σ H Q ⟨μ, h, env, rl, er, p⟩ => p v μ H .refl rl (r H μ)
theorem qe_int {i j} : QE X W (.Constant (.int i) j pos) (mC (.int i)) := qe_C pe_int fun _ _ => .int i
theorem qe_bl {i j} : QE X W (.Constant (.bool i) j pos) (mC (.bl i)) := qe_C pe_bl fun _ _ => .bl i
theorem qe_non {j} : QE X W (.Constant .none j pos) (mC .non) := qe_C pe_non fun _ _ => .non
theorem qe_str {i j} : QE X W (.Constant (.str i) j pos) (mC (.str i)) := qe_C pe_str fun _ _ => .str i
theorem qe_glob {x : Str} {v : V} {u : Value} {d : D} (hm : X.mg x = some u) (r : RelV v u) (rd : ∀ H μ, Rp X.K H μ v d) (hg : Gl X x := by rfl) (hd : (x == ("__debug__" : Str)) = false := by decide) : QE X W (.Name x pos) (mC d) := qe_C (pe_glob hg hm r hd) rd
theorem qe_ty {x : Str} {T : String} (hm : X.mg x = none) (hv : bootBuiltins x = some (.type T)) (hg : Gl X x := by rfl) (hn : x ≠ "__name__" := by decide) (hd : (x == ("__debug__" : Str)) = false := by decide) : QE X W (.Name x pos) (mC (.op (.ty T))) :=
  qe_C (pe_bltn hg hm hv (show RelV (.ty T) _ from rfl) hn hd) fun _ _ => .op _
/-- an operation by values: r reads what f does -/
def Sd2 (X : Cx) (r : R2) (f : D → D → IH → Res D) : Prop := ∀ (W : WX) (σ : L2.St) (x y : V) (a b : D) (H : Hp) (μ : List Addr) (h : IH) (Q : VK), Rl X.K H μ h → Rp X.K H μ x a → Rp X.K H μ y b → Po X.mg X.K W (Rp X.K) σ H μ (f a b h) Q → r x y H Q
def Sd1 (X : Cx) (r : V → Hp → VK → Prop) (f : D → IH → Res D) : Prop := ∀ (W : WX) (σ : L2.St) (x : V) (a : D) (H : Hp) (μ : List Addr) (h : IH) (Q : VK), Rl X.K H μ h → Rp X.K H μ x a → Po X.mg X.K W (Rp X.K) σ H μ (f a h) Q → r x H Q
def SdC (X : Cx) (r : List V → Hp → VK → Prop) (f : List D → IH → Res D) : Prop := ∀ (W : WX) (σ : L2.St) (xs : List V) (as : List D) (H : Hp) (μ : List Addr) (h : IH) (Q : VK), Rl X.K H μ h → Rps X.K H μ xs as → Po X.mg X.K W (Rp X.K) σ H μ (f as h) Q → r xs H Q
theorem op2 {r : R2} {f : D → D → IH → Res D} (sd : Sd2 X r f) : ∀ σ H Q, RE X.mg X.K W (mBin f ma mb) σ H Q → tOp r (RE X.mg X.K W ma) (RE X.mg X.K W mb) σ H Q := fun σ H Q ⟨μ, h, env, rl, er, p⟩ =>
  ⟨μ, h, env, rl, er, Po.then (R := Rp X.K) p fun x h1 v μ1 H1 x1 rl1 rp1 p1 => ⟨μ1, h1, env, rl1, er.mono x1, Po.then (R := Rp X.K) p1 fun y h2 v2 μ2 H2 x2 rl2 rp2 p2 => sd W σ v v2 x y H2 μ2 h2 Q rl2 (rp1.mono x2) rp2 p2⟩⟩
theorem qe_bin {op : Operator} {r : R2} {f : D → D → IH → Res D} (ho : OpR X (binaryOp op) r) (sd : Sd2 X r f) (ha : QE X W a ma) (hb : QE X W b mb) : QE X W (.BinOp a op b pos) (mBin f ma mb) := PE.imp (pe_op ho ha hb) (op2 sd)
theorem qe_cmp {op : CmpOp} {r : R2} {f : D → D → IH → Res D} (ho : OpR X (compareOp op) r) (sd : Sd2 X r f) (ha : QE X W a ma) (hb : QE X W b mb) (hm : behindInMarks op b = false) : QE X W (.Compare a [op] [b] pos) (mBin f ma mb) := PE.imp (pe_cmpR ho ha hb hm) (op2 sd)
theorem qe_ix {r : R2} {f : D → D → IH → Res D} (ho : IxR X r) (sd : Sd2 X r f) (ha : QE X W a ma) (hb : QE X W b mb) (hs : PlainIx b) : QE X W (.Subscript a b pos) (mBin f ma mb) := PE.imp (pe_ix ho ha hb hs) (op2 sd)
theorem qe_un {op : UnaryOp} {r : V → Hp → VK → Prop} {f : D → IH → Res D} (ho : UnR X (unaryOp op) r) (sd : Sd1 X r f) (ha : QE X W a ma) : QE X W (.UnaryOp op a pos) (mUn f ma) := PE.imp (pe_un ho ha) fun σ H Q ⟨μ, h, env, rl, er, p⟩ =>
  ⟨μ, h, env, rl, er, Po.then (R := Rp X.K) p fun x h1 v μ1 H1 x1 rl1 rp1 p1 => sd W σ v x H1 μ1 h1 Q rl1 rp1 p1⟩
theorem qa_nil : QA X W [] mNil := PA.imp pa_nil fun σ H Q ⟨μ, h, env, rl, er, p⟩ => p [] μ H .refl rl .nil
theorem qa_cons {e : Expr} {es : List Expr} {me : ME} {mr : MA} (he : QE X W e me) (hr : QA X W es mr) (hs : starEach (e :: es) X.env = (false, eval e X.env) :: starEach es X.env := by rfl) : QA X W (e :: es) (mCons me mr) :=
  PA.imp (pa_cons he hr hs) fun σ H Q ⟨μ, h, env, rl, er, p⟩ =>
    ⟨μ, h, env, rl, er, Po.then (R := Rp X.K) p fun x h1 v μ1 H1 x1 rl1 rp1 p1 => ⟨μ1, h1, env, rl1, er.mono x1, Po.then (R := Rps X.K) p1 fun xs h2 vs μ2 H2 x2 rl2 rp2 p2 => p2 (v :: vs) μ2 H2 .refl rl2 (.cons (rp1.mono x2) rp2)⟩⟩
/-- a built-in by its name -/
theorem qe_callB {x : Str} {id : String} {r : List V → Hp → VK → Prop} {f : List D → IH → Res D} {p : Pos} {e : Expr} {es : List Expr} {mr : MA} (hc : CallR X (.builtin id) r) (sd : SdC X r f) (hm : X.mg x = none) (hv : bootBuiltins x = some (.builtin id)) (ha : QA X W (e :: es) mr)
    (hg : Gl X x := by rfl) (hn : x ≠ "__name__" := by decide) (hdb : (x == ("__debug__" : Str)) = false := by decide) (he : starEach (e :: es) X.env = (false, eval e X.env) :: starEach es X.env := by rfl) (hpl : (backTo pos (starEach es X.env)).any (·.1) = false := by rfl) :
    QE X W (.Call (.Name x p) (e :: es) [] pos) (mCall f mr) := PE.imp (pe_callB hc hg hm hv ha hn hdb he hpl) fun σ H Q ⟨μ, h, env, rl, er, p⟩ =>
  ⟨μ, h, env, rl, er, Po.then (R := Rps X.K) p fun xs h1 vs μ1 H1 x1 rl1 rp1 p1 => sd W σ vs xs H1 μ1 h1 Q rl1 rp1 p1⟩
theorem qe_callT {x : Str} {T : String} {r : List V → Hp → VK → Prop} {f : List D → IH → Res D} {p : Pos} {e : Expr} {es : List Expr} {mr : MA} (hc : CallR X (.type T) r) (sd : SdC X r f) (hm : X.mg x = none) (hv : bootBuiltins x = some (.type T)) (ha : QA X W (e :: es) mr)
    (hg : Gl X x := by rfl) (hn : x ≠ "__name__" := by decide) (hdb : (x == ("__debug__" : Str)) = false := by decide) (he : starEach (e :: es) X.env = (false, eval e X.env) :: starEach es X.env := by rfl) (hpl : (backTo pos (starEach es X.env)).any (·.1) = false := by rfl) :
    QE X W (.Call (.Name x p) (e :: es) [] pos) (mCall f mr) := PE.imp (pe_callTy hc hg hm hv ha hn hdb he hpl) fun σ H Q ⟨μ, h, env, rl, er, p⟩ =>
  ⟨μ, h, env, rl, er, Po.then (R := Rps X.K) p fun xs h1 vs μ1 H1 x1 rl1 rp1 p1 => sd W σ vs xs H1 μ1 h1 Q rl1 rp1 p1⟩
/-- a def of the program -/
theorem qe_call {k j n : Nat} {x : Str} {m : List D → IH → Res D} {p : Pos} {e : Expr} {es : List Expr} {mr : MA} (C : Ctx X W k) (F : Fn X.prog X.w X.K X.mg X.base j x m n) (ha : QA X W (e :: es) mr) (hj : j ≤ k := by decide) (hn : n = (e :: es).length := by rfl) (hg : Gl X x := by rfl)
    (hdb : (x == ("__debug__" : Str)) = false := by decide) (he : starEach (e :: es) X.env = (false, eval e X.env) :: starEach es X.env := by rfl) (hpl : (backTo pos (starEach es X.env)).any (·.1) = false := by rfl)
    (hlen : ALen mr n := by repeat (first | exact alen_nil | apply alen_cons)) :
    QE X W (.Call (.Name x p) (e :: es) [] pos) (mCall m mr) := by
  obtain ⟨f, fd, ps, G, hm, hk, hb⟩ := F.ex
  refine ⟨fun pins s σ H Q I ⟨μ, h, env, rl, er, po⟩ => ?_⟩
  refine wpAny_Call_Name_kw (ld_glob I hg hm ?_ hdb)
  have pa : RA X.mg X.K W mr σ H fun vs H1 => spM X.mg X.K m n vs H1 Q (WE W σ) := by
    refine ⟨μ, h, env, rl, er, ?_⟩
    unfold mCall at po
    cases z : mr env h with
    | val ds h1 =>
      rw [z] at po
      intro vs μ1 H1 x1 rl1 rp1
      refine ⟨by rw [rp1.length]; exact hlen _ _ _ _ z, μ1, h1, ds, rl1, rp1, ?_⟩
      have po2 := Po.ext x1 (show Po X.mg X.K W (Rp X.K) σ H μ (m ds h1) Q from po)
      revert po2
      cases m ds h1 with
      | val d h2 => exact fun q => q
      | exc y h2 => exact fun q => q
      | stk => exact fun q => q
    | exc y h1 =>
      rw [z] at po
      exact po
    | stk =>
      rw [z] at po
      exact po
  refine PySem.W.callWith_K (h₀ := X.base) I.ok.mod.kin hk (thn (ha.run pos pins s σ H _ I pa) fun us s1 ⟨vs, H1, I1, rv, q⟩ => ⟨I1.kIn, ?_⟩) he hpl
  exact run_fnG G C.gd (C.room.mono hj) hb (passAt C.tk σ) I1 rv q
end
end DD
set_option Elab.async false
set_option linter.all false
set_option maxRecDepth 100000
namespace DD
open PySem PySem.Spec L2 PyProof.Rows

/-! ### data by the own heap -/
def lstAt (h : IH) (n : Nat) : Option (List D) := match h[n]? with
  | some (.lst ds) => some ds
  | _ => none
def dicAt (h : IH) (n : Nat) : Option (List (Key × D)) := match h[n]? with
  | some (.dic ds) => some ds
  | _ => none
/-- a list to be read -/
def seqL (h : IH) : D → Option (List D)
  | .fl ds => some ds
  | .ref n => lstAt h n
  | _ => none
section
variable {K : PySem.W.Frag} {H : Hp} {μ : List Addr} {h : IH} {v : V} {d : D} {ds : List D}
theorem lstAt_ok {n : Nat} {a : Addr} (rl : Rl K H μ h) (e : μ[n]? = some a) (z : lstAt h n = some ds) : ∃ vs, H a = some (.lst vs) ∧ Rps K H μ vs ds := by
  obtain ⟨o, ho, q⟩ := rl.at e
  unfold lstAt at z
  rw [ho] at z
  cases o with
  | lst es =>
    cases z
    exact q
  | dic es => cases z
theorem dicAt_ok {n : Nat} {a : Addr} {kvs : List (Key × D)} (rl : Rl K H μ h) (e : μ[n]? = some a) (z : dicAt h n = some kvs) : ∃ kws : List (Key × V), H a = some (.dK kws) ∧ kws.map (·.1) = kvs.map (·.1) ∧ Rps K H μ (kws.map (·.2)) (kvs.map (·.2)) := by
  obtain ⟨o, ho, q⟩ := rl.at e
  unfold dicAt at z
  rw [ho] at z
  cases o with
  | dic es =>
    cases z
    exact q
  | lst es => cases z
theorem seqL_ok (rl : Rl K H μ h) (r : Rp K H μ v d) (z : seqL h d = some ds) : ∃ a vs, v = .ref a ∧ SqL K H a vs ∧ Rps K H μ vs ds := by
  cases r with
  | fl s q =>
    cases z
    exact ⟨_, _, rfl, s.sq, q⟩
  | ref e =>
    obtain ⟨vs, h1, h2⟩ := lstAt_ok rl e z
    exact ⟨_, vs, rfl, SqL.of h1, h2⟩
  | _ => cases z
end
/-- truth -/
def truD (h : IH) : D → Option Bool
  | .non => some false
  | .bl b => some b
  | .int i => some (i != 0)
  | .str x => if x.length ≤ sizeLine then some ((x.length : Int) != 0) else none
  | .tup ds => some !ds.isEmpty
  | .fl ds => some !ds.isEmpty
  | .ref n => match h[n]? with
    | some (.lst ds) => some !ds.isEmpty
    | some (.dic ds) => some !ds.isEmpty
    | _ => none
  | .op _ => none
theorem Rps.isEmpty {K : PySem.W.Frag} {H : Hp} {μ : List Addr} {vs : List V} {ds : List D} (r : Rps K H μ vs ds) : vs.isEmpty = ds.isEmpty := by
  cases r <;> rfl
theorem truD_ok {K : PySem.W.Frag} {H : Hp} {μ : List Addr} {h : IH} {v : V} {d : D} {k : Bool} (rl : Rl K H μ h) (r : Rp K H μ v d) (z : truD h d = some k) : TruV K v H k := by
  cases r with
  | non =>
    cases z
    rfl
  | bl b =>
    cases z
    rfl
  | int i =>
    cases z
    rfl
  | str x =>
    simp only [truD] at z
    split at z
    · cases z
      exact ⟨by assumption, rfl⟩
    · cases z
  | tup s q =>
    cases z
    exact .inr (.inl ⟨_, s, by rw [q.isEmpty]⟩)
  | fl s q =>
    cases z
    exact .inl ⟨_, s.sq, by rw [q.isEmpty]⟩
  | ref e =>
    obtain ⟨o, ho, q⟩ := rl.at e
    simp only [truD, ho] at z
    cases o with
    | lst es =>
      cases z
      obtain ⟨vs, h1, h2⟩ := q
      exact .inl ⟨vs, SqL.of h1, by rw [h2.isEmpty]⟩
    | dic es =>
      cases z
      obtain ⟨kws, h1, h2, h3⟩ := q
      refine .inr (.inr ⟨kws, h1, ?_⟩)
      have e1 := congrArg List.length h2
      rw [List.length_map, List.length_map] at e1
      cases kws <;> cases es <;> first | rfl | (simp at e1)
  | op v => cases z

/-! ### displays, tests, conditional values -/
def mTup (m : MA) : ME := fun env h => (m env h).bind fun ds h1 => if ds.length ≤ sizeLine then .val (.tup ds) h1 else .stk
def mLst (m : MA) : ME := fun env h => (m env h).bind fun ds h1 => if ds.length ≤ sizeLine then .val (.ref h1.length) (h1 ++ [.lst ds]) else .stk
def mTru (a : ME) : MT := fun env h => (a env h).bind fun d h1 => match truD h1 d with
  | some b => .val b h1
  | none => .stk
def mTst (a : ME) : MT := fun env h => (a env h).bind fun d h1 => match d with
  | .bl b => .val b h1
  | _ => .stk
def mAnd (a b : MT) : MT := fun env h => (a env h).bind fun k h1 => if k then b env h1 else .val false h1
def mOr (a b : MT) : MT := fun env h => (a env h).bind fun k h1 => if k then .val true h1 else b env h1
def mNot (a : MT) : MT := fun env h => (a env h).bind fun k h1 => .val (!k) h1
def mAndV (a b : ME) : ME := fun env h => (a env h).bind fun d h1 => match truD h1 d with
  | some true => b env h1
  | some false => .val d h1
  | none => .stk
def mOrV (a b : ME) : ME := fun env h => (a env h).bind fun d h1 => match truD h1 d with
  | some true => .val d h1
  | some false => b env h1
  | none => .stk
def mNotV (a : ME) : ME := fun env h => (a env h).bind fun d h1 => match truD h1 d with
  | some k => .val (.bl !k) h1
  | none => .stk
def mIf (c : MT) (a b : ME) : ME := fun env h => (c env h).bind fun k h1 => if k then a env h1 else b env h1
def mChain (f f' : D → D → IH → Res D) (a b c : ME) : ME := fun env h => (a env h).bind fun x h1 => (b env h1).bind fun y h2 => (f x y h2).bind fun z h3 => match z with
  | .bl true => (c env h3).bind fun w h4 => f' y w h4
  | .bl false => .val (.bl false) h3
  | _ => .stk
section
variable {K : PySem.W.Frag} {H H' : Hp} {μ μ' : List Addr} {h : IH}
theorem new_lst {vs : List V} {ds : List D} {p : Addr} (rl : Rl K H μ h) (r : Rps K H μ vs ds) (hp : H p = none) : Ext K H μ (upd H p (.lst vs)) (μ ++ [p]) ∧ Rl K (upd H p (.lst vs)) (μ ++ [p]) (h ++ [.lst ds]) ∧ Rp K (upd H p (.lst vs)) (μ ++ [p]) (.ref p) (.ref h.length) := by
  have x : Ext K H μ (upd H p (.lst vs)) (μ ++ [p]) := Ext.newM hp
  refine ⟨x, rl.newM hp ⟨vs, upd_same, r.mono x⟩, .ref ?_⟩
  rw [← rl.len, List.getElem?_append_right (Nat.le_refl _), Nat.sub_self]
  rfl
theorem new_tup {vs : List V} {ds : List D} {p : Addr} (rl : Rl K H μ h) (r : Rps K H μ vs ds) (hp : H p = none) : Ext K H μ (upd H p (.tup vs)) μ ∧ Rl K (upd H p (.tup vs)) μ h ∧ Rp K (upd H p (.tup vs)) μ (.ref p) (.tup ds) :=
  ⟨Ext.new hp, rl.new hp, .tup (SqT.of upd_same) (r.mono (Ext.new hp))⟩
end
section
variable {X : Cx} {W : WX} {a b c : Expr} {ma mb mc : ME} {pos : Pos} {es : List Expr} {mr : MA}
theorem Rp.bl_inv {K : PySem.W.Frag} {H : Hp} {μ : List Addr} {v : V} {b : Bool} (r : Rp K H μ v (.bl b)) : v = .bl b := by
  cases r
  rfl
theorem qe_tup {k : Nat} (ha : QA X W es mr) : QE X W (.Tuple es k pos) (mTup mr) := PE.imp (pe_tup ha) fun σ H Q ⟨μ, h, env, rl, er, p⟩ =>
  ⟨μ, h, env, rl, er, Po.then (R := Rps X.K) p fun ds h1 vs μ1 H1 x1 rl1 rp1 p1 => by
    split at p1
    · rename_i z
      refine ⟨by rw [rp1.length]; exact z, fun p hp => ?_⟩
      obtain ⟨x2, rl2, rp2⟩ := new_tup rl1 rp1 hp
      exact p1 _ _ _ x2 rl2 rp2
    · exact p1.elim⟩
theorem qe_lst (ha : QA X W es mr) : QE X W (.List es pos) (mLst mr) := PE.imp (pe_lst ha) fun σ H Q ⟨μ, h, env, rl, er, p⟩ =>
  ⟨μ, h, env, rl, er, Po.then (R := Rps X.K) p fun ds h1 vs μ1 H1 x1 rl1 rp1 p1 => by
    split at p1
    · rename_i z
      refine ⟨by rw [rp1.length]; exact z, fun p hp => ?_⟩
      obtain ⟨x2, rl2, rp2⟩ := new_lst rl1 rp1 hp
      exact p1 _ _ _ x2 rl2 rp2
    · exact p1.elim⟩
theorem qt_tru (ha : QE X W a ma) (he : ∀ whole, isTrue a X.env whole = (do let v ← whole; standAt a.pos; holding [v] (truthy v)) := by intro _; rfl) : QT X W a (mTru ma) := PT.imp (pt_truth ha he) fun σ H Q ⟨μ, h, env, rl, er, p⟩ =>
  ⟨μ, h, env, rl, er, Po.then (R := Rp X.K) p fun d h1 v μ1 H1 x1 rl1 rp1 p1 => by
    split at p1
    · rename_i k z
      exact ⟨k, truD_ok rl1 rp1 z, p1 _ _ _ .refl rl1 rfl⟩
    · exact p1.elim⟩
theorem tst_imp {t : TE} {m : ME} (i : ∀ σ H Q, RE X.mg X.K W m σ H Q → t σ H Q) : ∀ σ H Q, RT X.mg X.K W (mTst m) σ H Q → tTest t σ H Q := fun σ H Q ⟨μ, h, env, rl, er, p⟩ =>
  i σ H _ ⟨μ, h, env, rl, er, Po.then (R := Rp X.K) p fun d h1 v μ1 H1 x1 rl1 rp1 p1 => by
    split at p1
    · rename_i k
      exact ⟨k, rp1.bl_inv, p1 _ _ _ .refl rl1 rfl⟩
    · exact p1.elim⟩
theorem qt_cmp {op : CmpOp} {r : R2} {f : D → D → IH → Res D} (ho : OpR X (compareOp op) r) (sd : Sd2 X r f) (ha : QE X W a ma) (hb : QE X W b mb) (hm : behindInMarks op b = false) : QT X W (.Compare a [op] [b] pos) (mTst (mBin f ma mb)) :=
  PT.imp (pt_cmpR ho ha hb hm) (tst_imp (op2 sd))
theorem chain_imp {r r' : R2} {f f' : D → D → IH → Res D} (sd : Sd2 X r f) (sd' : Sd2 X r' f') : ∀ σ H Q, RE X.mg X.K W (mChain f f' ma mb mc) σ H Q → tChain r r' (RE X.mg X.K W ma) (RE X.mg X.K W mb) (RE X.mg X.K W mc) σ H Q := fun σ H Q ⟨μ, h, env, rl, er, p⟩ =>
  ⟨μ, h, env, rl, er, Po.then (R := Rp X.K) p fun x h1 v μ1 H1 x1 rl1 rp1 p1 => ⟨μ1, h1, env, rl1, er.mono x1, Po.then (R := Rp X.K) p1 fun y h2 v2 μ2 H2 x2 rl2 rp2 p2 =>
    sd W σ v v2 x y H2 μ2 h2 _ rl2 (rp1.mono x2) rp2 (Po.then (R := Rp X.K) p2 fun z h3 v3 μ3 H3 x3 rl3 rp3 p3 => by
      split at p3
      · refine ⟨true, rp3.bl_inv, ?_⟩
        rw [if_pos rfl]
        exact ⟨μ3, h3, env, rl3, (er.mono x1).mono (x2.trans x3), Po.then (R := Rp X.K) p3 fun w h4 v4 μ4 H4 x4 rl4 rp4 p4 => sd' W σ v2 v4 y w H4 μ4 h4 Q rl4 (rp2.mono (x3.trans x4)) rp4 p4⟩
      · refine ⟨false, rp3.bl_inv, ?_⟩
        rw [if_neg Bool.false_ne_true]
        exact p3 _ _ _ .refl rl3 (.bl false)
      · exact p3.elim)⟩⟩
theorem qe_chain {op op' : CmpOp} {r r' : R2} {f f' : D → D → IH → Res D} (ho : OpR X (compareOp op) r) (sd : Sd2 X r f) (ho' : OpR X (compareOp op') r') (sd' : Sd2 X r' f') (ha : QE X W a ma) (hb : QE X W b mb) (hc : QE X W c mc)
    (hm : lastMarks [op, op'] [b, c] = false := by with_unfolding_all rfl) : QE X W (.Compare a [op, op'] [b, c] pos) (mChain f f' ma mb mc) := PE.imp (pe_chain ho ho' ha hb hc hm) (chain_imp sd sd')
theorem qt_chain {op op' : CmpOp} {r r' : R2} {f f' : D → D → IH → Res D} (ho : OpR X (compareOp op) r) (sd : Sd2 X r f) (ho' : OpR X (compareOp op') r') (sd' : Sd2 X r' f') (ha : QE X W a ma) (hb : QE X W b mb) (hc : QE X W c mc)
    (hm : lastMarks [op, op'] [b, c] = false := by with_unfolding_all rfl) : QT X W (.Compare a [op, op'] [b, c] pos) (mTst (mChain f f' ma mb mc)) := PT.imp (pt_chain ho ho' ha hb hc hm) (tst_imp (chain_imp sd sd'))
def QW (X : Cx) (W : WX) (e : Expr) (m : MT) : Prop := PW X e (RT X.mg X.K W m)
variable {ta tb : MT} {rest : List Expr}
theorem QW.qt {e : Expr} {m : MT} (h : QW X W e m) : QT X W e m := PW.pt h
theorem qw_and1 (ha : QT X W a ta) : QW X W (.BoolOp .And [a] pos) ta := pw_and1 ha
theorem qw_or1 (ha : QT X W a ta) : QW X W (.BoolOp .Or [a] pos) ta := pw_or1 ha
theorem qw_and (ha : QT X W a ta) (hb : QW X W (.BoolOp .And (b :: rest) pos) tb) : QW X W (.BoolOp .And (a :: b :: rest) pos) (mAnd ta tb) := PW.imp (pw_and ha hb) fun σ H Q ⟨μ, h, env, rl, er, p⟩ =>
  ⟨μ, h, env, rl, er, Po.then (R := RpT) p fun k h1 v μ1 H1 x1 rl1 e p1 => by
    subst e
    cases v with
    | true =>
      rw [if_pos rfl] at p1 ⊢
      exact ⟨μ1, h1, env, rl1, er.mono x1, p1⟩
    | false =>
      rw [if_neg Bool.false_ne_true] at p1 ⊢
      exact p1 _ _ _ .refl rl1 rfl⟩
theorem qw_or (ha : QT X W a ta) (hb : QW X W (.BoolOp .Or (b :: rest) pos) tb) : QW X W (.BoolOp .Or (a :: b :: rest) pos) (mOr ta tb) := PW.imp (pw_or ha hb) fun σ H Q ⟨μ, h, env, rl, er, p⟩ =>
  ⟨μ, h, env, rl, er, Po.then (R := RpT) p fun k h1 v μ1 H1 x1 rl1 e p1 => by
    subst e
    cases v with
    | false =>
      rw [if_neg Bool.false_ne_true] at p1 ⊢
      exact ⟨μ1, h1, env, rl1, er.mono x1, p1⟩
    | true =>
      rw [if_pos rfl] at p1 ⊢
      exact p1 _ _ _ .refl rl1 rfl⟩
theorem qt_not (ha : QT X W a ta) : QT X W (.UnaryOp .Not a pos) (mNot ta) := PT.imp (pt_not ha) fun σ H Q ⟨μ, h, env, rl, er, p⟩ =>
  ⟨μ, h, env, rl, er, Po.then (R := RpT) p fun k h1 v μ1 H1 x1 rl1 e p1 => by
    subst e
    exact p1 _ _ _ .refl rl1 rfl⟩
theorem qe_one {op} (h : QE X W a ma) : QE X W (.BoolOp op [a] pos) ma := pe_one h
theorem qe_and (ha : QE X W a ma) (hb : QE X W (.BoolOp .And (b :: rest) pos) mb) : QE X W (.BoolOp .And (a :: b :: rest) pos) (mAndV ma mb) := PE.imp (pe_andT ha hb) fun σ H Q ⟨μ, h, env, rl, er, p⟩ =>
  ⟨μ, h, env, rl, er, Po.then (R := Rp X.K) p fun d h1 v μ1 H1 x1 rl1 rp1 p1 => by
    split at p1
    · rename_i z
      refine ⟨true, truD_ok rl1 rp1 z, ?_⟩
      rw [if_pos rfl]
      exact ⟨μ1, h1, env, rl1, er.mono x1, p1⟩
    · rename_i z
      refine ⟨false, truD_ok rl1 rp1 z, ?_⟩
      rw [if_neg Bool.false_ne_true]
      exact p1 _ _ _ .refl rl1 rp1
    · exact p1.elim⟩
theorem qe_or (ha : QE X W a ma) (hb : QE X W (.BoolOp .Or (b :: rest) pos) mb) : QE X W (.BoolOp .Or (a :: b :: rest) pos) (mOrV ma mb) := PE.imp (pe_orT ha hb) fun σ H Q ⟨μ, h, env, rl, er, p⟩ =>
  ⟨μ, h, env, rl, er, Po.then (R := Rp X.K) p fun d h1 v μ1 H1 x1 rl1 rp1 p1 => by
    split at p1
    · rename_i z
      refine ⟨true, truD_ok rl1 rp1 z, ?_⟩
      rw [if_pos rfl]
      exact p1 _ _ _ .refl rl1 rp1
    · rename_i z
      refine ⟨false, truD_ok rl1 rp1 z, ?_⟩
      rw [if_neg Bool.false_ne_true]
      exact ⟨μ1, h1, env, rl1, er.mono x1, p1⟩
    · exact p1.elim⟩
theorem qe_not (ha : QE X W a ma) : QE X W (.UnaryOp .Not a pos) (mNotV ma) := PE.imp (pe_notT ha) fun σ H Q ⟨μ, h, env, rl, er, p⟩ =>
  ⟨μ, h, env, rl, er, Po.then (R := Rp X.K) p fun d h1 v μ1 H1 x1 rl1 rp1 p1 => by
    split at p1
    · rename_i k z
      exact ⟨k, truD_ok rl1 rp1 z, p1 _ _ _ .refl rl1 (.bl _)⟩
    · exact p1.elim⟩
theorem qe_if (hc : QT X W c ta) (ha : QE X W a ma) (hb : QE X W b mb) : QE X W (.IfExp c a b pos) (mIf ta ma mb) := PE.imp (pe_ifExp hc ha hb) fun σ H Q ⟨μ, h, env, rl, er, p⟩ =>
  ⟨μ, h, env, rl, er, Po.then (R := RpT) p fun k h1 v μ1 H1 x1 rl1 e p1 => by
    subst e
    cases v with
    | true =>
      rw [if_pos rfl] at p1 ⊢
      exact ⟨μ1, h1, env, rl1, er.mono x1, p1⟩
    | false =>
      rw [if_neg Bool.false_ne_true] at p1 ⊢
      exact ⟨μ1, h1, env, rl1, er.mono x1, p1⟩⟩
end

/-! ### statements -/
abbrev MTg := D → En → IH → Option (En × IH)
abbrev MTs := List D → En → IH → Option (En × IH)
def Out.then (o : Out) (f : En → IH → Out) : Out := match o with
  | .nx e h => f e h
  | .rt d h => .rt d h
  | .bk e h => .bk e h
  | .ct e h => .ct e h
  | .exc x e h => .exc x e h
  | .stk => .stk
section
variable (K : PySem.W.Frag)
def PoG (H : Hp) (μ : List Addr) : Option (En × IH) → (L2.St → Hp → Prop) → Prop
  | some (e, h'), Q => ∀ σ' μ' H', Ext K H μ H' μ' → Rl K H' μ' h' → EnvR K H' μ' σ' e → Q σ' H'
  | none, _ => False
def RG (m : MTg) : TG := fun v σ H Q => ∃ μ h env d, Rl K H μ h ∧ EnvR K H μ σ env ∧ Rp K H μ v d ∧ PoG K H μ (m d env h) Q
def RGs (m : MTs) : TGs := fun v σ H Q => ∃ μ h env d, Rl K H μ h ∧ EnvR K H μ σ env ∧ Rps K H μ v d ∧ PoG K H μ (m d env h) Q
end
theorem PoG.ext {K : PySem.W.Frag} {H H' : Hp} {μ μ' : List Addr} {o : Option (En × IH)} {Q : L2.St → Hp → Prop} (x : Ext K H μ H' μ') (p : PoG K H μ o Q) : PoG K H' μ' o Q := by
  cases o with
  | some z => exact fun σ2 μ2 H2 y a b => p σ2 μ2 H2 (x.trans y) a b
  | none => exact p
def QG (X : Cx) (e : Expr) (m : MTg) : Prop := PG X e (RG X.K m)
def QGs (X : Cx) (e : List Expr) (m : MTs) : Prop := PGs X e (RGs X.K m)
def gN (i : Nat) : MTg := fun d env h => some (env.set i (some d), h)
def gsNil : MTs := fun ds env h => match ds with
  | [] => some (env, h)
  | _ => none
def gsCons (t : MTg) (r : MTs) : MTs := fun ds env h => match ds with
  | d :: ds => match t d env h with
    | some (e, h1) => r ds e h1
    | none => none
  | [] => none
def gT (n : Nat) (r : MTs) : MTg := fun d env h => match d with
  | .tup ds => if ds.length = n then r ds env h else none
  | _ => none
def toOut : Option (En × IH) → Out
  | some (e, h) => .nx e h
  | none => .stk
def sNil : MS := fun env h => .nx env h
def sSeq (a b : MS) : MS := fun env h => (a env h).then b
def sAsg (e : ME) (t : MTg) : MS := fun env h => (e env h).bindS env fun d h1 => toOut (t d env h1)
def sExpr (e : ME) : MS := fun env h => (e env h).bindS env fun _ h1 => .nx env h1
def sRet (e : ME) : MS := fun env h => (e env h).bindS env fun d h1 => .rt d h1
def sRetN : MS := fun _ h => .rt .non h
def sIf (c : MT) (a b : MS) : MS := fun env h => (c env h).bindS env fun k h1 => if k then a env h1 else b env h1
def sBrk : MS := fun env h => .bk env h
def sCnt : MS := fun env h => .ct env h
def sAug (i : Nat) (f : D → D → IH → Res D) (e : ME) : MS := fun env h => (mBin f (mVar i) e env h).bindS env fun d h1 => .nx (env.set i (some d)) h1
def sPar (i j : Nat) (m : MA) : MS := fun env h => (m env h).bindS env fun ds h1 => match ds with
  | [d, e] => .nx ((env.set i (some d)).set j (some e)) h1
  | _ => .stk
def sPar3 (i j k : Nat) (m : MA) : MS := fun env h => (m env h).bindS env fun ds h1 => match ds with
  | [d, e, f] => .nx (((env.set i (some d)).set j (some e)).set k (some f)) h1
  | _ => .stk
def whileM : Nat → MT → MS → MS
  | 0, _, _ => fun _ _ => .stk
  | n + 1, c, b => fun env h => (c env h).bindS env fun t h1 => if t then (match b env h1 with
    | .nx e h2 => whileM n c b e h2
    | .ct e h2 => whileM n c b e h2
    | .bk e h2 => .nx e h2
    | .rt d h2 => .rt d h2
    | .exc x e h2 => .exc x e h2
    | .stk => .stk) else .nx env h1

section
variable {X : Cx} {W : WX} {pos : Pos} {st : Stmt} {rest : List Stmt} {m m' : MS}
theorem PoS.then {mg : MG} {K : PySem.W.Frag} {W : WX} {H : Hp} {μ : List Addr} {o : Out} {f : En → IH → Out} {Z : Ends} {Q : L2.St → Hp → Prop} (p : PoS mg K W H μ (o.then f) Z)
    (q : ∀ e h σ' μ' H', Ext K H μ H' μ' → Rl K H' μ' h → EnvR K H' μ' σ' e → PoS mg K W H' μ' (f e h) Z → Q σ' H') : PoS mg K W H μ o { Z with nx := Q } := by
  cases o with
  | nx e h => exact fun σ' μ' H' x rl er => q e h σ' μ' H' x rl er (PoS.ext x p)
  | rt d h => exact p
  | bk e h => exact p
  | ct e h => exact p
  | exc z e h => exact p
  | stk => exact p
theorem qss_nil : QSs X W [] sNil := PSs.imp pss_nil fun Z σ H ⟨μ, h, env, rl, er, p⟩ => p σ μ H .refl rl er
theorem qss_one (h : QS X W st m) : QSs X W [st] m := pss_one h
theorem qss_cons (h1 : QS X W st m) (h2 : QSs X W rest m') : QSs X W (st :: rest) (sSeq m m') := PSs.imp (pss_cons h1 h2) fun Z σ H ⟨μ, h, env, rl, er, p⟩ =>
  ⟨μ, h, env, rl, er, PoS.then p fun e h' σ' μ' H' x rl' er' p' => ⟨μ', h', e, rl', er', p'⟩⟩
variable {e : Expr} {me : ME}
theorem qs_expr (he : QE X W e me) (hs : swapsWith e none pos.line X.env = pure false := by rfl) : QS X W (.Expr e pos) (sExpr me) := PS.imp (ps_expr he hs) fun Z σ H ⟨μ, h, env, rl, er, p⟩ =>
  ⟨μ, h, env, rl, er, Po.thenS er p fun d h1 v μ1 H1 x1 rl1 rp1 p1 => p1 σ μ1 H1 .refl rl1 (er.mono x1)⟩
theorem qs_ret (he : QE X W e me) : QS X W (.Return (some e) pos) (sRet me) := PS.imp (ps_ret he) fun Z σ H ⟨μ, h, env, rl, er, p⟩ =>
  ⟨μ, h, env, rl, er, Po.thenS er p fun d h1 v μ1 H1 x1 rl1 rp1 p1 => p1 v μ1 H1 .refl rl1 rp1⟩
theorem qs_retN : QS X W (.Return none pos) sRetN := PS.imp ps_retN fun Z σ H ⟨μ, h, env, rl, er, p⟩ => p .non μ H .refl rl .non
theorem qs_pass : QS X W (.Pass pos) sNil := PS.imp ps_pass fun Z σ H ⟨μ, h, env, rl, er, p⟩ => p σ μ H .refl rl er
theorem qs_brk : QS X W (.Break pos) sBrk := PS.imp ps_break fun Z σ H ⟨μ, h, env, rl, er, p⟩ => p σ μ H .refl rl er
theorem qs_cnt : QS X W (.Continue pos) sCnt := PS.imp ps_continue fun Z σ H ⟨μ, h, env, rl, er, p⟩ => p σ μ H .refl rl er
theorem qs_if {c : Expr} {a b : List Stmt} {tc : MT} (hc : QT X W c tc) (ha : QSs X W a m) (hb : QSs X W b m') : QS X W (.If c a b pos) (sIf tc m m') := PS.imp (ps_if hc ha hb) fun Z σ H ⟨μ, h, env, rl, er, p⟩ =>
  ⟨μ, h, env, rl, er, Po.thenS er p fun k h1 v μ1 H1 x1 rl1 e1 p1 => by
    have e2 : v = k := e1
    subst e2
    cases v with
    | true =>
      rw [if_pos rfl] at p1 ⊢
      exact ⟨μ1, h1, env, rl1, er.mono x1, p1⟩
    | false =>
      rw [if_neg Bool.false_ne_true] at p1 ⊢
      exact ⟨μ1, h1, env, rl1, er.mono x1, p1⟩⟩
/-- a statement that is never reached -/
theorem qs_never : QS X W st (fun _ _ => .stk) := PS.imp ps_never fun Z σ H ⟨μ, h, env, rl, er, p⟩ => p
theorem qg_name (i : Nat) {x : Str} (hN : X.N.Nodup) (hi : X.N[i]? = some x := by rfl) (hx : Loc X.env.scope x := by first | exact Or.inl rfl | exact Or.inr rfl) (hf : X.fn x = true ∨ X.env.scope.names.lookup x = some .local := by first | exact .inl rfl | exact .inr rfl | assumption) : QG X (.Name x pos) (gN i) :=
  ⟨fun pins s σ H v u Q I r ⟨μ, h, env, d, rl, er, rp, p⟩ => (pg_name hN hi hx hf).run pins s σ H v u Q I r (p _ μ H .refl rl (er.set rp))⟩
theorem qgs_nil : QGs X [] gsNil := ⟨fun pins s σ H vs us Q I r ⟨μ, h, env, d, rl, er, rp, p⟩ => pgs_nil.run pins s σ H vs us Q I r (by
  cases rp with
  | nil => exact ⟨rfl, p σ μ H .refl rl er⟩
  | cons a b => exact p.elim)⟩
theorem qgs_cons {tg : Expr} {ts : List Expr} {g : MTg} {gs : MTs} (h1 : QG X tg g) (h2 : QGs X ts gs) (hs : (assignEach (tg :: ts) X.env).map (·.2) = assign tg X.env :: (assignEach ts X.env).map (·.2) := by rfl) : QGs X (tg :: ts) (gsCons g gs) :=
  ⟨fun pins s σ H vs us Q I r ⟨μ, h, env, ds, rl, er, rp, p⟩ => (pgs_cons h1 h2 hs).run pins s σ H vs us Q I r (by
    cases rp with
    | nil => exact p.elim
    | cons a b =>
      refine ⟨_, _, rfl, μ, h, env, _, rl, er, a, ?_⟩
      simp only [gsCons] at p
      split at p
      · rename_i e h3 z
        rw [z]
        exact fun σ' μ' H' x rl' er' => ⟨μ', h3, e, _, rl', er', b.mono x, PoG.ext x p⟩
      · exact p.elim)⟩
theorem qg_tup {ts : List Expr} {k n : Nat} {gs : MTs} (hc : X.calm = true) (h : QGs X ts gs) (hn : (assignEach ts X.env).length = n := by rfl) (hst : (assignEach ts X.env).findIdx? (·.1) = none := by rfl) : QG X (.Tuple ts k pos) (gT n gs) :=
  ⟨fun pins s σ H v u Q I r ⟨μ, h', env, d, rl, er, rp, p⟩ => (pg_tup hc h hn hst).run pins s σ H v u Q I r (by
    cases rp with
    | tup s1 q =>
      simp only [gT] at p
      split at p
      · rename_i z
        exact ⟨_, _, rfl, s1, by rw [q.length]; exact z, μ, h', env, _, rl, er, q, p⟩
      · exact p.elim
    | _ => exact p.elim)⟩
theorem PoS.tg {mg : MG} {K : PySem.W.Frag} {W : WX} {H : Hp} {μ : List Addr} {o : Option (En × IH)} {Z : Ends} (p : PoS mg K W H μ (toOut o) Z) : PoG K H μ o Z.nx := by
  cases o with
  | some z => exact p
  | none => exact p
theorem qs_asg {tg : Expr} {g : MTg} (he : QE X W e me) (hg : QG X tg g) (hs : swapsWithSole [tg] e pos.line X.env = pure false := by rfl) (hw : swappedStores [tg] e X.env = pure none := by rfl)
    (h1 : (assignEach [tg] X.env).map (·.2) = [assign tg X.env] := by rfl) : QS X W (.Assign [tg] e pos) (sAsg me g) := PS.imp (ps_asg he hg hs hw h1) fun Z σ H ⟨μ, h, env, rl, er, p⟩ =>
  ⟨μ, h, env, rl, er, Po.thenS er p fun d h2 v μ1 H1 x1 rl1 rp1 p1 => ⟨μ1, h2, env, d, rl1, er.mono x1, rp1, p1.tg⟩⟩
theorem qs_set (i : Nat) {x : Str} {pos' : Pos} (hN : X.N.Nodup) (he : QE X W e me) (hi : X.N[i]? = some x := by rfl) (hx : Loc X.env.scope x := by first | exact Or.inl rfl | exact Or.inr rfl) (hs : swapsWith e (some (.Name x pos')) pos.line X.env = pure false := by rfl)
    (hf : X.fn x = true ∨ X.env.scope.names.lookup x = some .local := by first | exact .inl rfl | exact .inr rfl | assumption) : QS X W (.Assign [.Name x pos'] e pos) (sAsg me (gN i)) := PS.imp (ps_set hN hi hx he hs hf) fun Z σ H ⟨μ, h, env, rl, er, p⟩ =>
  ⟨μ, h, env, rl, er, Po.thenS er p fun d h2 v μ1 H1 x1 rl1 rp1 p1 => p1 _ _ _ .refl rl1 ((er.mono x1).set rp1)⟩
theorem qs_par (i j : Nat) {x y : Str} {a b : Expr} {ma : MA} {px py pt : Pos} {kt k2 pt2} (hc : X.calm = true) (hN : X.N.Nodup) (ha : QA X W [a, b] ma) (hi : X.N[i]? = some x := by rfl) (hj : X.N[j]? = some y := by rfl) (hij : i ≠ j := by decide)
    (hx : X.env.scope.names.lookup x = some .local := by rfl) (hy : X.env.scope.names.lookup y = some .local := by rfl) (hw : swappedStores [.Tuple [.Name x px, .Name y py] kt pt] (.Tuple [a, b] k2 pt2) X.env = pure (some [x, y]) := by rfl)
    (hs : swapsWithSole [.Tuple [.Name x px, .Name y py] kt pt] (.Tuple [a, b] k2 pt2) pos.line X.env = pure false := by rfl) : QS X W (.Assign [.Tuple [.Name x px, .Name y py] kt pt] (.Tuple [a, b] k2 pt2) pos) (sPar i j ma) :=
  PS.imp (ps_par hc hN hi hj hij hx hy ha hw hs) fun Z σ H ⟨μ, h, env, rl, er, p⟩ => ⟨μ, h, env, rl, er, Po.thenS er p fun ds h1 vs μ1 H1 x1 rl1 rp1 p1 => by
    split at p1
    · cases rp1 with
      | cons r1 q1 =>
        cases q1 with
        | cons r2 q2 =>
          cases q2
          exact ⟨_, _, rfl, p1 _ _ _ .refl rl1 (((er.mono x1).set r1).set r2)⟩
    · exact p1.elim⟩
theorem qs_par3 (i j l : Nat) {x y z : Str} {a b c : Expr} {ma : MA} {px py pz pt : Pos} {kt k2 pt2} (hc : X.calm = true) (hN : X.N.Nodup) (ha : QA X W [a, b, c] ma) (hi : X.N[i]? = some x := by rfl) (hj : X.N[j]? = some y := by rfl) (hl : X.N[l]? = some z := by rfl)
    (hij : i ≠ j := by decide) (hil : i ≠ l := by decide) (hjl : j ≠ l := by decide)
    (hx : X.env.scope.names.lookup x = some .local := by rfl) (hy : X.env.scope.names.lookup y = some .local := by rfl) (hz : X.env.scope.names.lookup z = some .local := by rfl) (hw : swappedStores [.Tuple [.Name x px, .Name y py, .Name z pz] kt pt] (.Tuple [a, b, c] k2 pt2) X.env = pure (some [x, y, z]) := by rfl)
    (hs : swapsWithSole [.Tuple [.Name x px, .Name y py, .Name z pz] kt pt] (.Tuple [a, b, c] k2 pt2) pos.line X.env = pure false := by rfl) : QS X W (.Assign [.Tuple [.Name x px, .Name y py, .Name z pz] kt pt] (.Tuple [a, b, c] k2 pt2) pos) (sPar3 i j l ma) :=
  PS.imp (ps_par3 hc hN hi hj hl hij hil hjl hx hy hz ha hw hs) fun Z σ H ⟨μ, h, env, rl, er, p⟩ => ⟨μ, h, env, rl, er, Po.thenS er p fun ds h1 vs μ1 H1 x1 rl1 rp1 p1 => by
    split at p1
    · cases rp1 with
      | cons r1 q1 =>
        cases q1 with
        | cons r2 q2 =>
          cases q2 with
          | cons r3 q3 =>
            cases q3
            exact ⟨_, _, _, rfl, p1 _ _ _ .refl rl1 ((((er.mono x1).set r1).set r2).set r3)⟩
    · exact p1.elim⟩
/-- name op= e -/
theorem qs_aug (i : Nat) {x : Str} {op : Operator} {r : TIp} {f : D → D → IH → Res D} {pos' : Pos} (hN : X.N.Nodup) (ho : PIp X op r) (sd : Sd2 X r f) (he : QE X W e me) (hi : X.N[i]? = some x := by rfl) (hx : Loc X.env.scope x := by first | exact Or.inl rfl | exact Or.inr rfl)
    (hf : X.fn x = true ∨ X.env.scope.names.lookup x = some .local := by first | exact .inl rfl | exact .inr rfl | assumption) : QS X W (.AugAssign (.Name x pos') op e pos) (sAug i f me) := PS.imp (ps_aug hN hi hx he ho hf) fun Z σ H ⟨μ, h, env, rl, er, p⟩ => by
  simp only [sAug, mBin, mVar] at p
  split at p
  · rename_i d z
    obtain ⟨v, h1, h2⟩ := er.2 i d z
    have p' : PoS X.mg X.K W H μ (((me env h).bind fun y h2 => f d y h2).bindS env fun d h1 => .nx (env.set i (some d)) h1) Z := p
    refine ⟨v, h1, μ, h, env, rl, er, ?_⟩
    have key := Po.thenS (R := Rp X.K) er p' (Q' := fun w H' => Z.nx (σ.set i (some w)) H') fun d' h3 v3 μ3 H3 x3 rl3 rp3 p3 => p3 _ _ _ .refl rl3 ((er.mono x3).set rp3)
    exact Po.then (R := Rp X.K) key fun y h4 v4 μ4 H4 x4 rl4 rp4 p4 => sd W σ v v4 d y H4 μ4 h4 _ rl4 (h2.mono x4) rp4 p4
  · exact p.elim
/-- while -/
theorem qs_while {k : Nat} {c : Expr} {body : List Stmt} {mc : MT} {mb : MS} (fuel : Nat) (C : Ctx X W k) (hc : QT X W c mc) (hb : QSs X W body mb) : QS X W (.While c body [] pos) (whileM fuel mc mb) := PS.imp (ps_while C.po hc hb) fun Z σ H ⟨μ, h, env, rl, er, p⟩ => by
  refine ⟨fun n σ H => ∃ μ h env, Rl X.K H μ h ∧ EnvR X.K H μ σ env ∧ PoS X.mg X.K W H μ (whileM n mc mb env h) Z, ⟨fuel, μ, h, env, rl, er, p⟩, fun n σ H hw => ?_⟩
  obtain ⟨μ, h, env, rl, er, p⟩ := hw
  cases n with
  | zero => exact p.elim
  | succ n =>
    simp only [whileM] at p
    refine ⟨μ, h, env, rl, er, Po.thenS er p fun t h1 v μ1 H1 x1 rl1 e1 p1 => ?_⟩
    have e2 : v = t := e1
    subst e2
    cases v with
    | false =>
      rw [if_neg Bool.false_ne_true] at p1 ⊢
      exact p1 _ _ _ .refl rl1 (er.mono x1)
    | true =>
      rw [if_pos rfl] at p1 ⊢
      refine ⟨fun σ' H' => ∃ μ h env, Rl X.K H' μ h ∧ EnvR X.K H' μ σ' env ∧ PoS X.mg X.K W H' μ (whileM n mc mb env h) Z, fun σ' H' q => ⟨n, Nat.lt_succ_self n, q⟩, μ1, h1, env, rl1, er.mono x1, ?_⟩
      revert p1
      cases mb env h1 with
      | nx e h2 => exact fun q σ' μ' H' x rl er => ⟨μ', h2, e, rl, er, PoS.ext x q⟩
      | ct e h2 => exact fun q σ' μ' H' x rl er => ⟨μ', h2, e, rl, er, PoS.ext x q⟩
      | bk e h2 => exact fun q => q
      | rt d h2 => exact fun q => q
      | exc z e h2 => exact fun q => q
      | stk => exact fun q => q
end
end DD
set_option Elab.async false
set_option linter.all false
set_option maxRecDepth 100000
namespace DD
open PySem PySem.Spec L2 PyProof.Rows

/-! ### what is walked -/
inductive Src where
  | st (ds : List D) | lv (get : IH → Option (List D))
def Src.get : Src → IH → Option (List D)
  | .st ds, _ => some ds
  | .lv g, h => g h
def Src.endAt (s : Src) (n i : Nat) : Prop := match s with
  | .st _ => i = n
  | .lv _ => n ≤ i
def JOk (K : PySem.W.Frag) (H0 : Hp) (μ0 : List Addr) (J : It) (s : Src) : Prop := ∀ H μ h es, Ext K H0 μ0 H μ → Rl K H μ h → s.get h = some es →
  (∀ (i : Nat) d, es[i]? = some d → J.go i H ∧ ∀ x H', J.yld i H x H' → Ext K H μ H' μ ∧ Rl K H' μ h ∧ Rp K H' μ x d) ∧ ∀ i, s.endAt es.length i → J.stop i H
abbrev MI := En → IH → Res Src
def RI (mg : MG) (K : PySem.W.Frag) (W : WX) (m : MI) : TI := fun σ H R => ∃ μ h env, Rl K H μ h ∧ EnvR K H μ σ env ∧ Po mg K W (JOk K) σ H μ (m env h) R
def QI (X : Cx) (W : WX) (tg iter : Expr) (m : MI) : Prop := PI X tg iter (RI X.mg X.K W m)
theorem PI.imp {X : Cx} {tg iter : Expr} {t t' : TI} (h : PI X tg iter t) (i : ∀ σ H R, t' σ H R → t σ H R) : PI X tg iter t' := ⟨fun pins s σ H R I q => h.run pins s σ H R I (i σ H R q)⟩
theorem PI.or {X : Cx} {tg iter : Expr} {t t' : TI} (h : PI X tg iter t) (h' : PI X tg iter t') : PI X tg iter (fun σ H R => t σ H R ∨ t' σ H R) := ⟨fun pins s σ H R I q => q.elim (h.run pins s σ H R I) (h'.run pins s σ H R I)⟩

/-! ### for -/
def forS (t : MTg) (b : MS) : List D → MS
  | [] => fun env h => .nx env h
  | d :: ds => fun env h => match t d env h with
    | none => .stk
    | some (e, h1) => match b e h1 with
      | .nx e h2 => forS t b ds e h2
      | .ct e h2 => forS t b ds e h2
      | .bk e h2 => .nx e h2
      | .rt d h2 => .rt d h2
      | .exc x e h2 => .exc x e h2
      | .stk => .stk
def forL (get : IH → Option (List D)) (t : MTg) (b : MS) : Nat → Nat → MS
  | 0, _ => fun _ _ => .stk
  | n + 1, i => fun env h => match get h with
    | none => .stk
    | some es => match es[i]? with
      | none => .nx env h
      | some d => match t d env h with
        | none => .stk
        | some (e, h1) => match b e h1 with
          | .nx e h2 => forL get t b n (i + 1) e h2
          | .ct e h2 => forL get t b n (i + 1) e h2
          | .bk e h2 => .nx e h2
          | .rt d h2 => .rt d h2
          | .exc x e h2 => .exc x e h2
          | .stk => .stk
def sFor (it : MI) (t : MTg) (b : MS) : MS := fun env h => (it env h).bindS env fun s h1 => match s with
  | .st ds => forS t b ds env h1
  | .lv get => match get h1 with
    | some es => forL get t b (es.length + 1) 0 env h1
    | none => .stk
section
variable {X : Cx} {W : WX} {pos : Pos}
theorem qs_for {k : Nat} {tg iter : Expr} {body : List Stmt} {mi : MI} {g : MTg} {mb : MS} (C : Ctx X W k) (hi : QI X W tg iter mi) (hg : QG X tg g) (hb : QSs X W body mb) (hs : ∀ x, foldedSetIterable iter X.env x = pure x := by intro _; rfl) :
    QS X W (.For tg iter body [] pos) (sFor mi g mb) := PS.imp (ps_for C.po C.calm hi hg hb hs) fun Z σ H ⟨μ, h, env, rl, er, p⟩ => by
  refine ⟨μ, h, env, rl, er, Po.thenS er p fun s h1 J μ1 H1 x1 rl1 jo p1 => ?_⟩
  cases s with
  | st ds =>
    refine ⟨fun i m σ H => ∃ μ h env, Ext X.K H1 μ1 H μ ∧ Rl X.K H μ h ∧ EnvR X.K H μ σ env ∧ i + m = ds.length ∧ PoS X.mg X.K W H μ (forS g mb (ds.drop i) env h) Z,
      ⟨ds.length, μ1, h1, env, .refl, rl1, er.mono x1, Nat.zero_add _, p1⟩, fun i m σ H hw => ?_⟩
    obtain ⟨μ, h, env, x, rl, er, em, p⟩ := hw
    obtain ⟨j1, j2⟩ := jo H μ h ds x rl rfl
    by_cases hlt : i < ds.length
    · refine .inr ⟨(j1 i ds[i] (List.getElem?_eq_getElem hlt)).1, fun σ' H' => ∃ μ h env, Ext X.K H1 μ1 H' μ ∧ Rl X.K H' μ h ∧ EnvR X.K H' μ σ' env ∧ PoS X.mg X.K W H' μ (forS g mb (ds.drop (i + 1)) env h) Z, fun σ' H' hn => ?_, fun v H' hy => ?_⟩
      · obtain ⟨μ, h, env, x, rl, er, p⟩ := hn
        exact ⟨m - 1, by omega, μ, h, env, x, rl, er, by omega, p⟩
      · obtain ⟨y1, y2, y3⟩ := (j1 i ds[i] (List.getElem?_eq_getElem hlt)).2 v H' hy
        refine ⟨μ, h, env, ds[i], y2, er.mono y1, y3, ?_⟩
        rw [List.drop_eq_getElem_cons hlt] at p
        simp only [forS] at p
        revert p
        cases g ds[i] env h with
        | none => exact fun q => q
        | some eh =>
          obtain ⟨e, h2⟩ := eh
          intro q σ2 μ2 H2 x2 rl2 er2
          refine ⟨μ2, h2, e, rl2, er2, ?_⟩
          revert q
          show PoS X.mg X.K W H μ (match mb e h2 with
            | .nx e h2 => forS g mb (ds.drop (i + 1)) e h2
            | .ct e h2 => forS g mb (ds.drop (i + 1)) e h2
            | .bk e h2 => .nx e h2
            | .rt d h2 => .rt d h2
            | .exc x e h2 => .exc x e h2
            | .stk => .stk) Z → _
          cases mb e h2 with
          | nx e h3 => exact fun q σ' μ' H' x3 rl er => ⟨μ', h3, e, x.trans (y1.trans (x2.trans x3)), rl, er, PoS.ext (y1.trans (x2.trans x3)) q⟩
          | ct e h3 => exact fun q σ' μ' H' x3 rl er => ⟨μ', h3, e, x.trans (y1.trans (x2.trans x3)), rl, er, PoS.ext (y1.trans (x2.trans x3)) q⟩
          | bk e h3 => exact fun q => PoS.ext (y1.trans x2) q
          | rt d h3 => exact fun q => PoS.ext (y1.trans x2) q
          | exc z e h3 => exact fun q => PoS.ext (y1.trans x2) q
          | stk => exact fun q => q
    · rw [List.drop_eq_nil_of_le (by omega)] at p
      exact .inl ⟨j2 i (show i = ds.length by omega), p σ μ H .refl rl er⟩
  | lv get =>
    simp only at p1
    split at p1
    · rename_i es0 z0
      refine ⟨fun i m σ H => ∃ μ h env, Ext X.K H1 μ1 H μ ∧ Rl X.K H μ h ∧ EnvR X.K H μ σ env ∧ PoS X.mg X.K W H μ (forL get g mb m i env h) Z,
        ⟨es0.length + 1, μ1, h1, env, .refl, rl1, er.mono x1, p1⟩, fun i m σ H hw => ?_⟩
      obtain ⟨μ, h, env, x, rl, er, p⟩ := hw
      cases m with
      | zero => exact p.elim
      | succ m =>
        simp only [forL] at p
        cases zg : get h with
        | none =>
          rw [zg] at p
          exact p.elim
        | some es =>
          rw [zg] at p
          obtain ⟨j1, j2⟩ := jo H μ h es x rl zg
          simp only at p
          cases zi : es[i]? with
          | none =>
            rw [zi] at p
            exact .inl ⟨j2 i (List.getElem?_eq_none_iff.mp zi), p σ μ H .refl rl er⟩
          | some d =>
            rw [zi] at p
            refine .inr ⟨(j1 i d zi).1, fun σ' H' => ∃ μ h env, Ext X.K H1 μ1 H' μ ∧ Rl X.K H' μ h ∧ EnvR X.K H' μ σ' env ∧ PoS X.mg X.K W H' μ (forL get g mb m (i + 1) env h) Z, fun σ' H' hn => ⟨m, Nat.lt_succ_self m, hn⟩, fun v H' hy => ?_⟩
            obtain ⟨y1, y2, y3⟩ := (j1 i d zi).2 v H' hy
            refine ⟨μ, h, env, d, y2, er.mono y1, y3, ?_⟩
            revert p
            simp only
            cases g d env h with
            | none => exact fun q => q
            | some eh =>
              obtain ⟨e, h2⟩ := eh
              intro q σ2 μ2 H2 x2 rl2 er2
              refine ⟨μ2, h2, e, rl2, er2, ?_⟩
              revert q
              simp only
              cases mb e h2 with
              | nx e h3 => exact fun q σ' μ' H' x3 rl er => ⟨μ', h3, e, x.trans (y1.trans (x2.trans x3)), rl, er, PoS.ext (y1.trans (x2.trans x3)) q⟩
              | ct e h3 => exact fun q σ' μ' H' x3 rl er => ⟨μ', h3, e, x.trans (y1.trans (x2.trans x3)), rl, er, PoS.ext (y1.trans (x2.trans x3)) q⟩
              | bk e h3 => exact fun q => PoS.ext (y1.trans x2) q
              | rt d h3 => exact fun q => PoS.ext (y1.trans x2) q
              | exc z e h3 => exact fun q => PoS.ext (y1.trans x2) q
              | stk => exact fun q => q
    · exact p1.elim
end

/-! ### comprehensions: the new list is laid down behind the last item -/
def wipeE (env : En) : List Nat → En
  | [] => env
  | v :: vs => (wipeE env vs).set v none
theorem wipeE_length (env : En) : ∀ vs : List Nat, (wipeE env vs).length = env.length
  | [] => rfl
  | v :: vs => by
    unfold wipeE
    rw [List.length_set, wipeE_length env vs]
theorem wipeE_some {env : En} {i : Nat} {d : D} : ∀ {vs : List Nat}, (wipeE env vs)[i]? = some (some d) → env[i]? = some (some d) ∧ i ∉ vs
  | [], h => ⟨h, by simp⟩
  | v :: vs, h => by
    unfold wipeE at h
    rw [List.getElem?_set] at h
    split at h
    · split at h <;> cases h
    · rename_i hv
      obtain ⟨h1, h2⟩ := wipeE_some h
      exact ⟨h1, fun z => (List.mem_cons.mp z).elim (fun z => hv z.symm) h2⟩
theorem wipe_get {σ : L2.St} {i : Nat} : ∀ {vs : List Nat}, i ∉ vs → (wipe σ vs)[i]? = σ[i]?
  | [], _ => rfl
  | v :: vs, h => by
    unfold wipe
    rw [List.getElem?_set_ne (fun z => h (by rw [z]; exact List.mem_cons_self)), wipe_get fun z => h (List.mem_cons_of_mem _ z)]
theorem wipe_set {σ : L2.St} {i : Nat} {x : Option V} : ∀ {vs : List Nat}, i ∈ vs → wipe (σ.set i x) vs = wipe σ vs
  | [], h => by simp at h
  | v :: vs, h => by
    have key : ∀ (ws : List Nat) (i : Nat), wipe (σ.set i x) ws = (if i ∈ ws then wipe σ ws else (wipe σ ws).set i x) := by
      intro ws
      induction ws with
      | nil =>
        intro i
        rfl
      | cons w ws ih =>
        intro i
        unfold wipe
        rw [ih i]
        by_cases h1 : i ∈ ws
        · rw [if_pos h1, if_pos (List.mem_cons_of_mem _ h1)]
        · rw [if_neg h1]
          by_cases h2 : i = w
          · subst h2
            rw [if_pos List.mem_cons_self, List.set_set]
          · rw [if_neg (fun z => (List.mem_cons.mp z).elim h2 h1), List.set_comm _ _ h2]
    rw [key, if_pos h]
theorem wipe_wipe {σ : L2.St} {vs : List Nat} : wipe (wipe σ vs) vs = wipe σ vs := by
  have key : ∀ ws : List Nat, (∀ i ∈ ws, i ∈ vs) → wipe (wipe σ ws) vs = wipe σ vs := by
    intro ws
    induction ws with
    | nil =>
      intro _
      rfl
    | cons w ws ih =>
      intro h
      show wipe ((wipe σ ws).set w none) vs = _
      rw [wipe_set (h w List.mem_cons_self)]
      exact ih fun i hi => h i (List.mem_cons_of_mem _ hi)
  exact key vs fun _ h => h
theorem EnvR.wipe {K : PySem.W.Frag} {H : Hp} {μ : List Addr} {σ : L2.St} {env : En} (er : EnvR K H μ σ env) (vs : List Nat) : EnvR K H μ (L2.wipe σ vs) (wipeE env vs) := by
  refine ⟨by rw [wipe_length, wipeE_length]; exact er.1, fun i d e => ?_⟩
  obtain ⟨h1, h2⟩ := wipeE_some e
  rw [wipe_get h2]
  exact er.2 i d h1
/-- a target whose names are the block's own -/
def RX (K : PySem.W.Frag) (own : List Nat) (m : MTg) : TG := fun v σ H Q => ∃ μ h env d, Rl K H μ h ∧ EnvR K H μ σ env ∧ Rp K H μ v d ∧ PoG K H μ (m d env h) fun σ' H' => L2.wipe σ' own = L2.wipe σ own → Q σ' H'
def RXs (K : PySem.W.Frag) (own : List Nat) (m : MTs) : TGs := fun v σ H Q => ∃ μ h env d, Rl K H μ h ∧ EnvR K H μ σ env ∧ Rps K H μ v d ∧ PoG K H μ (m d env h) fun σ' H' => L2.wipe σ' own = L2.wipe σ own → Q σ' H'
def QX (X : Cx) (own : List Nat) (e : Expr) (m : MTg) : Prop := PG X e (RX X.K own m)
def QXs (X : Cx) (own : List Nat) (e : List Expr) (m : MTs) : Prop := PGs X e (RXs X.K own m)
section
variable {X : Cx} {pos : Pos} {own : List Nat}
theorem qx_name (i : Nat) {x : Str} (hN : X.N.Nodup) (ho : i ∈ own := by decide) (hi : X.N[i]? = some x := by rfl) (hx : Loc X.env.scope x := by first | exact Or.inl rfl | exact Or.inr rfl) (hf : X.fn x = true ∨ X.env.scope.names.lookup x = some .local := by first | exact .inl rfl | exact .inr rfl | assumption) : QX X own (.Name x pos) (gN i) :=
  ⟨fun pins s σ H v u Q I r ⟨μ, h, env, d, rl, er, rp, p⟩ => (pg_name hN hi hx hf).run pins s σ H v u Q I r (p _ μ H .refl rl (er.set rp) (wipe_set ho))⟩
theorem qxs_nil : QXs X own [] gsNil := ⟨fun pins s σ H vs us Q I r ⟨μ, h, env, d, rl, er, rp, p⟩ => pgs_nil.run pins s σ H vs us Q I r (by
  cases rp with
  | nil => exact ⟨rfl, p σ μ H .refl rl er rfl⟩
  | cons a b => exact p.elim)⟩
theorem qxs_cons {tg : Expr} {ts : List Expr} {g : MTg} {gs : MTs} (h1 : QX X own tg g) (h2 : QXs X own ts gs) (hs : (assignEach (tg :: ts) X.env).map (·.2) = assign tg X.env :: (assignEach ts X.env).map (·.2) := by rfl) : QXs X own (tg :: ts) (gsCons g gs) :=
  ⟨fun pins s σ H vs us Q I r ⟨μ, h, env, ds, rl, er, rp, p⟩ => (pgs_cons h1 h2 hs).run pins s σ H vs us Q I r (by
    cases rp with
    | nil => exact p.elim
    | cons a b =>
      refine ⟨_, _, rfl, μ, h, env, _, rl, er, a, ?_⟩
      simp only [gsCons] at p
      split at p
      · rename_i e h3 z
        rw [z]
        refine fun σ' μ' H' x rl' er' ew => ⟨μ', h3, e, _, rl', er', b.mono x, ?_⟩
        have p2 := PoG.ext x p
        revert p2
        cases gs _ e h3 with
        | none => exact fun q => q
        | some z => exact fun q σ2 μ2 H2 x2 rl2 er2 ew2 => q σ2 μ2 H2 x2 rl2 er2 (ew2.trans ew)
      · exact p.elim)⟩
theorem qx_tup {ts : List Expr} {k n : Nat} {gs : MTs} (hc : X.calm = true) (h : QXs X own ts gs) (hn : (assignEach ts X.env).length = n := by rfl) (hst : (assignEach ts X.env).findIdx? (·.1) = none := by rfl) : QX X own (.Tuple ts k pos) (gT n gs) :=
  ⟨fun pins s σ H v u Q I r ⟨μ, h', env, d, rl, er, rp, p⟩ => (pg_tup hc h hn hst).run pins s σ H v u Q I r (by
    cases rp with
    | tup s1 q =>
      simp only [gT] at p
      split at p
      · rename_i z
        exact ⟨_, _, rfl, s1, by rw [q.length]; exact z, μ, h', env, _, rl, er, q, p⟩
      · exact p.elim
    | _ => exact p.elim)⟩
end
/-- one turn -/
def lcT (t : MTg) (c : MT) (e : ME) (env : En) (d : D) (acc : List D) (h : IH) : Res (List D) := match t d env h with
  | none => .stk
  | some (e1, h1) => match c e1 h1 with
    | .val true h2 => (match e e1 h2 with
      | .val y h3 => if acc.length < sizeLine then .val (acc ++ [y]) h3 else .stk
      | _ => .stk)
    | .val false h2 => .val acc h2
    | _ => .stk
def lcS (t : MTg) (c : MT) (e : ME) (env : En) : List D → List D → IH → Res (List D)
  | [], acc, h => .val acc h
  | d :: ds, acc, h => match lcT t c e env d acc h with
    | .val acc' h' => lcS t c e env ds acc' h'
    | _ => .stk
def lcL (get : IH → Option (List D)) (t : MTg) (c : MT) (e : ME) (env : En) : Nat → Nat → List D → IH → Res (List D)
  | 0, _, _, _ => .stk
  | n + 1, i, acc, h => match get h with
    | none => .stk
    | some es => match es[i]? with
      | none => .val acc h
      | some d => match lcT t c e env d acc h with
        | .val acc' h' => lcL get t c e env n (i + 1) acc' h'
        | _ => .stk
def lcRun (t : MTg) (c : MT) (e : ME) (env : En) (s : Src) (h1 : IH) : Res (List D) := match s with
  | .st ds => lcS t c e env ds [] h1
  | .lv get => match get h1 with
    | some es => lcL get t c e env (es.length + 1) 0 [] h1
    | none => .stk
def mLc (it : MI) (t : MTg) (c : MT) (e : ME) (own : List Nat) : ME := fun env h => (it env h).bind fun s h1 => (lcRun t c e (wipeE env own) s h1).bind fun ys h2 => .val (.ref h2.length) (h2 ++ [.lst ys])
def mYes : MT := fun _ h => .val true h
/-- the state between two turns: the new list stands at p, outside the own heap -/
structure LcI (K : PySem.W.Frag) (H1 : Hp) (μ1 : List Addr) (p : Addr) (H : Hp) (μ : List Addr) (h : IH) (acc : List D) : Prop where
  x : Ext K H1 μ1 H μ
  rl : Rl K H μ h
  np : p ∉ μ
  l : ∃ avs, H p = some (.lst avs) ∧ Rps K H μ avs acc
section
variable {K : PySem.W.Frag} {H1 H H2 : Hp} {μ1 μ μ2 : List Addr} {p : Addr} {h h2 : IH} {acc : List D}
theorem LcI.go (s : LcI K H1 μ1 p H μ h acc) (x : Ext K H μ H2 μ2) (rl : Rl K H2 μ2 h2) : LcI K H1 μ1 p H2 μ2 h2 acc := by
  obtain ⟨avs, h1, h3⟩ := s.l
  refine ⟨s.x.trans x, rl, fun z => ?_, avs, x.keep p _ h1 s.np, h3.mono x⟩
  have := x.fresh p z s.np
  rw [h1] at this
  cases this
theorem LcI.start (rl : Rl K H1 μ1 h) (hp : H1 p = none) : LcI K H1 μ1 p (upd H1 p (.lst [])) μ1 h [] := by
  refine ⟨Ext.new hp, rl.new hp, fun z => ?_, [], upd_same, .nil⟩
  obtain ⟨n, hn, e⟩ := List.mem_iff_getElem.mp z
  exact rl.old (n := n) (by rw [List.getElem?_eq_getElem hn, e]) hp rfl
theorem LcI.app {y : V} {d : D} (s : LcI K H1 μ1 p H μ h acc) (hp : H1 p = none) (r : Rp K H μ y d) : ∃ avs, H p = some (.lst avs) ∧ avs.length = acc.length ∧ LcI K H1 μ1 p (upd H p (.lst (avs ++ [y]))) μ h (acc ++ [d]) := by
  obtain ⟨avs, h1, h3⟩ := s.l
  have m : Mn K H μ (upd H p (.lst (avs ++ [y]))) μ := ⟨fun _ _ q => sqT_upd_mut q h1 (fun _ z => nomatch z) (fun _ _ z => nomatch z), fun _ _ q => frzL_upd_mut q h1 (fun _ _ z => nomatch z), fun _ _ q => q⟩
  refine ⟨avs, h1, h3.length, ⟨⟨fun a xs q => m.tup a xs (s.x.tup a xs q), fun a xs q => m.frz a xs (s.x.frz a xs q), s.x.pre⟩, fun a o q g => ?_, s.x.fresh⟩, ⟨s.rl.nd, s.rl.len, fun n a o e1 e2 => ?_⟩, s.np, _, upd_same, (h3.append (.cons r .nil)).mn m⟩
  · rw [upd_ne (ne_of_none q hp)]
    exact s.x.keep a o q g
  · refine (s.rl.ok n a o e1 e2).mn m (upd_ne fun z => s.np ?_)
    rw [← z]
    exact List.mem_of_getElem? e1
theorem LcI.fin (s : LcI K H1 μ1 p H μ h acc) (hp : H1 p = none) : Ext K H1 μ1 H (μ ++ [p]) ∧ Rl K H (μ ++ [p]) (h ++ [.lst acc]) ∧ Rp K H (μ ++ [p]) (.ref p) (.ref h.length) := by
  obtain ⟨avs, h1, h3⟩ := s.l
  have m : Mn K H μ H (μ ++ [p]) := ⟨fun _ _ q => q, fun _ _ q => q, fun n a q => by
    rw [List.getElem?_append_left (List.getElem?_eq_some_iff.mp q).1]
    exact q⟩
  refine ⟨⟨⟨s.x.tup, s.x.frz, fun n a q => m.pre n a (s.x.pre n a q)⟩, s.x.keep, fun a q g => ?_⟩, ⟨?_, by rw [List.length_append, List.length_append, s.rl.len]; rfl, fun n a o e1 e2 => ?_⟩, .ref ?_⟩
  · rcases List.mem_append.mp q with q | q
    · exact s.x.fresh a q g
    · rw [List.mem_singleton.mp q]
      exact hp
  · rw [List.nodup_append]
    exact ⟨s.rl.nd, by simp, fun a ha b hb z => s.np (by rw [← List.mem_singleton.mp hb, ← z]; exact ha)⟩
  · by_cases hn : n < μ.length
    · rw [List.getElem?_append_left hn] at e1
      rw [List.getElem?_append_left (by rw [← s.rl.len]; exact hn)] at e2
      exact (s.rl.ok n a o e1 e2).mn m rfl
    · rw [List.getElem?_append_right (by omega)] at e1
      rw [List.getElem?_append_right (by rw [← s.rl.len]; omega), ← s.rl.len] at e2
      have hz : n - μ.length = 0 := by
        have := (List.getElem?_eq_some_iff.mp e1).1
        rw [List.length_singleton] at this
        omega
      rw [hz] at e1 e2
      cases e1
      cases e2
      exact ⟨avs, h1, h3.mn m⟩
  · rw [← s.rl.len, List.getElem?_append_right (Nat.le_refl _), Nat.sub_self]
    rfl
theorem LcI.turn {mg : MG} {t : MTg} {c : MT} {e : ME} {own : List Nat} {env : En} {σ : L2.St} {d : D} {v : V} {acc' : List D} {h' : IH} (s : LcI K H1 μ1 p H μ h acc) (hp : H1 p = none) (er : EnvR K H1 μ1 (wipe σ own) env) (r : Rp K H μ v d) (z : lcT t c e env d acc h = .val acc' h') :
    RX K own t v (wipe σ own) H fun σ2 H2 => wipe σ2 own = wipe σ own ∧ RT mg K W0 c σ2 H2 fun b H3 => if b = true then RE mg K W0 e σ2 H3 fun y H4 => ∃ ac, H4 p = some (.lst ac) ∧ ac.length < sizeLine ∧ (∃ μ5, LcI K H1 μ1 p (upd H4 p (.lst (ac ++ [y]))) μ5 h' acc')
      else ∃ μ5, LcI K H1 μ1 p H3 μ5 h' acc' := by
  refine ⟨μ, h, env, d, s.rl, er.mono s.x, r, ?_⟩
  unfold lcT at z
  split at z
  · cases z
  · rename_i e1 h1 z1
    rw [z1]
    refine fun σ2 μ2 H2 x2 rl2 er2 ew => ⟨ew.trans wipe_wipe, μ2, h1, e1, rl2, er2, ?_⟩
    split at z
    · rename_i h3 z3
      rw [z3]
      refine fun b μ3 H3 x3 rl3 eb => ?_
      have eb2 : b = true := eb
      subst eb2
      dsimp only
      rw [if_pos rfl]
      refine ⟨μ3, h3, e1, rl3, er2.mono x3, ?_⟩
      split at z
      · rename_i y h4 z4
        rw [z4]
        split at z
        · rename_i z5
          cases z
          refine fun v4 μ4 H4 x4 rl4 r4 => ?_
          obtain ⟨avs, q1, q2, q3⟩ := ((s.go (x2.trans (x3.trans x4)) rl4).app hp r4)
          exact ⟨avs, q1, by rw [q2]; exact z5, μ4, q3⟩
        · cases z
      · cases z
    · rename_i h3 z3
      rw [z3]
      cases z
      refine fun b μ3 H3 x3 rl3 eb => ?_
      have eb2 : b = false := eb
      subst eb2
      dsimp only
      rw [if_neg Bool.false_ne_true]
      exact ⟨μ3, s.go (x2.trans x3) rl3⟩
    · cases z
end
def QTs (X : Cx) (W : WX) (es : List Expr) (m : MT) : Prop := PTs X es (RT X.mg X.K W m)
theorem qts_nil {X : Cx} {W : WX} : QTs X W [] mYes := ⟨fun pins s σ H Q I ⟨μ, h, env, rl, er, p⟩ => pts_nil.run pins s σ H Q I (p true μ H .refl rl rfl)⟩
theorem qts_one {X : Cx} {W : WX} {c : Expr} {m : MT} (h : QT X W c m) : QTs X W [c] m := pts_one h
theorem lc_imp {mg : MG} {K : PySem.W.Frag} {W : WX} {mi : MI} {t : MTg} {c : MT} {e : ME} {own : List Nat} : ∀ σ H Q, RE mg K W (mLc mi t c e own) σ H Q → tLc (RI mg K W mi) (RX K own t) (RT mg K W0 c) (RE mg K W0 e) own σ H Q := fun σ H Q ⟨μ, h, env, rl, er, po⟩ => by
  refine ⟨μ, h, env, rl, er, Po.then (R := JOk K) po fun s h1 J μ1 H1 x1 rl1 jo p1 p hp => ?_⟩
  have er1 : EnvR K H1 μ1 (L2.wipe σ own) (wipeE env own) := (er.mono x1).wipe own
  cases s with
  | st ds =>
    refine ⟨fun i m H => ∃ μ h acc, LcI K H1 μ1 p H μ h acc ∧ i + m = ds.length ∧ Po mg K W (Rp K) σ H1 μ1 ((lcS t c e (wipeE env own) (ds.drop i) acc h).bind fun ys h2 => .val (.ref h2.length) (h2 ++ [IO.lst ys])) Q,
      ⟨ds.length, μ1, h1, [], LcI.start rl1 hp, Nat.zero_add _, p1⟩, fun i m H hw => ?_⟩
    obtain ⟨μ, h, acc, s, em, po⟩ := hw
    obtain ⟨j1, j2⟩ := jo H μ h ds s.x s.rl rfl
    by_cases hlt : i < ds.length
    · rw [List.drop_eq_getElem_cons hlt] at po
      simp only [lcS] at po
      cases z : lcT t c e (wipeE env own) ds[i] acc h with
      | val acc' h' =>
        rw [z] at po
        refine .inr ⟨(j1 i ds[i] (List.getElem?_eq_getElem hlt)).1, fun H' => ∃ μ5, LcI K H1 μ1 p H' μ5 h' acc', fun H' hn => ?_, fun v H' hy => ?_⟩
        · obtain ⟨μ5, s5⟩ := hn
          exact ⟨m - 1, by omega, μ5, h', acc', s5, by omega, po⟩
        · obtain ⟨y1, y2, y3⟩ := (j1 i ds[i] (List.getElem?_eq_getElem hlt)).2 v H' hy
          exact (s.go y1 y2).turn hp er1 y3 z
      | exc x hh =>
        rw [z] at po
        exact po.elim
      | stk =>
        rw [z] at po
        exact po.elim
    · rw [List.drop_eq_nil_of_le (by omega)] at po
      obtain ⟨f1, f2, f3⟩ := s.fin hp
      exact .inl ⟨j2 i (show i = ds.length by omega), po _ _ _ f1 f2 f3⟩
  | lv get =>
    simp only [lcRun] at p1
    cases z0 : get h1 with
    | none =>
      rw [z0] at p1
      exact p1.elim
    | some es0 =>
      rw [z0] at p1
      refine ⟨fun i m H => ∃ μ h acc, LcI K H1 μ1 p H μ h acc ∧ Po mg K W (Rp K) σ H1 μ1 ((lcL get t c e (wipeE env own) m i acc h).bind fun ys h2 => .val (.ref h2.length) (h2 ++ [IO.lst ys])) Q,
        ⟨es0.length + 1, μ1, h1, [], LcI.start rl1 hp, p1⟩, fun i m H hw => ?_⟩
      obtain ⟨μ, h, acc, s, po⟩ := hw
      cases m with
      | zero => exact po.elim
      | succ m =>
        simp only [lcL] at po
        cases zg : get h with
        | none =>
          rw [zg] at po
          exact po.elim
        | some es =>
          rw [zg] at po
          obtain ⟨j1, j2⟩ := jo H μ h es s.x s.rl zg
          simp only at po
          cases zi : es[i]? with
          | none =>
            rw [zi] at po
            obtain ⟨f1, f2, f3⟩ := s.fin hp
            exact .inl ⟨j2 i (List.getElem?_eq_none_iff.mp zi), po _ _ _ f1 f2 f3⟩
          | some d =>
            rw [zi] at po
            simp only at po
            cases z : lcT t c e (wipeE env own) d acc h with
            | val acc' h' =>
              rw [z] at po
              refine .inr ⟨(j1 i d zi).1, fun H' => ∃ μ5, LcI K H1 μ1 p H' μ5 h' acc', fun H' hn => ?_, fun v H' hy => ?_⟩
              · obtain ⟨μ5, s5⟩ := hn
                exact ⟨m, Nat.lt_succ_self m, μ5, h', acc', s5, po⟩
              · obtain ⟨y1, y2, y3⟩ := (j1 i d zi).2 v H' hy
                exact (s.go y1 y2).turn hp er1 y3 z
            | exc x hh =>
              rw [z] at po
              exact po.elim
            | stk =>
              rw [z] at po
              exact po.elim
section
variable {X : Cx} {W : WX} {pos : Pos}
theorem qe_lc {k : Nat} {elt tg iter : Expr} {ifs : List Expr} {scope : Scope} (own : List (Str × Nat)) {mi : MI} {t : MTg} {c : MT} {e : ME} (C : Ctx X W k) (hi : QI X W tg iter mi) (ok : BlkOk X.N X.env.scope scope own)
    (hg : ∀ (s : Shared) (H : Hp) (c : Addr) (cl : List (Str × Addr)) (fp : List Addr), Ctx (X.blk s H scope (compEnvC scope cl c X.env) fp) W0 k → QX (X.blk s H scope (compEnvC scope cl c X.env) fp) (own.map (·.2)) tg t)
    (ht : ∀ (s : Shared) (H : Hp) (b : Addr) (cl : List (Str × Addr)) (fp : List Addr), Ctx (X.blk s H scope (compEnvC scope cl b X.env) fp) W0 k → QTs (X.blk s H scope (compEnvC scope cl b X.env) fp) W0 ifs c)
    (he : ∀ (s : Shared) (H : Hp) (b : Addr) (cl : List (Str × Addr)) (fp : List Addr), Ctx (X.blk s H scope (compEnvC scope cl b X.env) fp) W0 k → QE (X.blk s H scope (compEnvC scope cl b X.env) fp) W0 elt e)
    (hs : ∀ x, foldedSetIterable iter X.env x = pure x := by intro _; rfl) : QE X W (.ListComp elt [⟨tg, iter, ifs, 0⟩] scope pos) (mLc mi t c e (own.map (·.2))) :=
  PE.imp (pe_lc (own := own) (g := RX X.K (own.map (fun z : Str × Nat => z.2)) t) (tt := RT X.mg X.K W0 c) (te := RE X.mg X.K W0 e) C.calm C.nd hi ok (fun s H b cl fp => hg s H b cl fp C.blk) (fun s H b cl fp => ht s H b cl fp C.blk) (fun s H b cl fp => he s H b cl fp C.blk) hs) lc_imp
theorem qs_setLc (i : Nat) {y : Str} {py spos : Pos} {k : Nat} {elt tg iter : Expr} {ifs : List Expr} {scope : Scope} (own : List (Str × Nat)) {mi : MI} {t : MTg} {c : MT} {e : ME} (C : Ctx X W k) (hi : QI X W tg iter mi) (ok : BlkOk X.N X.env.scope scope own)
    (hg : ∀ (s : Shared) (H : Hp) (c : Addr) (cl : List (Str × Addr)) (fp : List Addr), Ctx (X.blk s H scope (compEnvC scope cl c X.env) fp) W0 k → QX (X.blk s H scope (compEnvC scope cl c X.env) fp) (own.map (·.2)) tg t)
    (ht : ∀ (s : Shared) (H : Hp) (b : Addr) (cl : List (Str × Addr)) (fp : List Addr), Ctx (X.blk s H scope (compEnvC scope cl b X.env) fp) W0 k → QTs (X.blk s H scope (compEnvC scope cl b X.env) fp) W0 ifs c)
    (he : ∀ (s : Shared) (H : Hp) (b : Addr) (cl : List (Str × Addr)) (fp : List Addr), Ctx (X.blk s H scope (compEnvC scope cl b X.env) fp) W0 k → QE (X.blk s H scope (compEnvC scope cl b X.env) fp) W0 elt e)
    (hy : X.N[i]? = some y := by rfl) (hyl : X.env.scope.names.lookup y = some .local := by rfl) (hsw : swapsWith (.ListComp elt [⟨tg, iter, ifs, 0⟩] scope pos) (some (.Name y py)) spos.line X.env = pure true := by exact sw_true rfl rfl rfl (by decide +kernel))
    (hs : ∀ x, foldedSetIterable iter X.env x = pure x := by intro _; rfl) : QS X W (.Assign [.Name y py] (.ListComp elt [⟨tg, iter, ifs, 0⟩] scope pos) spos) (sAsg (mLc mi t c e (own.map (·.2))) (gN i)) :=
  PS.imp (ps_setLc (own := own) (g := RX X.K (own.map (fun z : Str × Nat => z.2)) t) (tt := RT X.mg X.K W0 c) (te := RE X.mg X.K W0 e) C.calm C.nd hy hyl hsw hi ok (fun s H b cl fp => hg s H b cl fp C.blk) (fun s H b cl fp => ht s H b cl fp C.blk) (fun s H b cl fp => he s H b cl fp C.blk) hs) fun Z σ H ⟨μ, h, env, rl, er, p⟩ =>
    lc_imp (W := W) (mg := X.mg) σ H _ ⟨μ, h, env, rl, er, Po.thenS er p fun d h2 v μ1 H1 x1 rl1 rp1 p1 => p1 _ _ _ .refl rl1 ((er.mono x1).set rp1)⟩
end
end DD
set_option Elab.async false
set_option linter.all false
set_option maxRecDepth 100000
namespace DD
open PySem PySem.Spec L2 PyProof.Rows

section
variable {X : Cx} {W : WX}
theorem OpR.or {f : Value → Value → Sem Value} {r r' : R2} (h : OpR X f r) (h' : OpR X f r') : OpR X f (fun x y H Q => r x y H Q ∨ r' x y H Q) := fun pins s σ H x y v u Q I rx ry q =>
  q.elim (h pins s σ H x y v u Q I rx ry) (h' pins s σ H x y v u Q I rx ry)
theorem CallR.or {f : Value} {r r' : List V → Hp → VK → Prop} (h : CallR X f r) (h' : CallR X f r') : CallR X f (fun xs H Q => r xs H Q ∨ r' xs H Q) := fun pins s σ H xs us Q I rv q =>
  q.elim (h pins s σ H xs us Q I rv) (h' pins s σ H xs us Q I rv)
/-- nothing new, nothing changed -/
theorem Po.at {mg : MG} {K : PySem.W.Frag} {σ : L2.St} {H : Hp} {μ : List Addr} {d : D} {v : V} {h : IH} {Q : VK} (p : Po mg K W (Rp K) σ H μ (.val d h) Q) (rl : Rl K H μ h) (r : Rp K H μ v d) : Q v H := p v μ H .refl rl r

/-! ### ints -/
def pySub : D → D → IH → Res D
  | .int i, .int j, h => .val (.int (i - j)) h
  | _, _, _ => .stk
def pyMod : D → D → IH → Res D
  | .int i, .int j, h => if 0 < j then .val (.int (i % j)) h else .stk
  | _, _, _ => .stk
def pyDiv : D → D → IH → Res D
  | .int i, .int j, h => if 0 < j ∧ (j < 1073741824 ∨ j.natAbs.log2 < 9000) then .val (.int (i / j)) h else .stk
  | _, _, _ => .stk
def pyPow : D → D → IH → Res D
  | .int i, .int j, h => if 0 ≤ j ∧ j ≤ 1000000 ∧ i.natAbs < 2 ^ 64 then .val (.int (i ^ j.toNat)) h else .stk
  | _, _, _ => .stk
def pyNeg : D → IH → Res D
  | .int i, h => .val (.int (-i)) h
  | _, _ => .stk
def pyCmp (p : Int → Int → Bool) : D → D → IH → Res D
  | .int i, .int j, h => .val (.bl (p i j)) h
  | _, _, _ => .stk
abbrev pyLt := pyCmp fun i j => decide (i < j)
abbrev pyLe := pyCmp fun i j => decide (i ≤ j)
abbrev pyGt := pyCmp fun i j => decide (j < i)
abbrev pyGe := pyCmp fun i j => decide (j ≤ i)
theorem sd_sub : Sd2 X (rI0 fun i j => .int (i - j)) pySub := by
  intro W σ x y a b H μ h Q rl ra rb p
  cases ra <;> first | exact p.elim | skip
  cases rb <;> first | exact p.elim | skip
  exact ⟨_, _, rfl, rfl, p.at rl (.int _)⟩
theorem sd_mod : Sd2 X (rI (fun _ j => 0 < j) fun i j => .int (i % j)) pyMod := by
  intro W σ x y a b H μ h Q rl ra rb p
  cases ra <;> first | exact p.elim | skip
  cases rb <;> first | exact p.elim | skip
  simp only [pyMod] at p
  split at p
  · exact ⟨_, _, rfl, rfl, by assumption, p.at rl (.int _)⟩
  · exact p.elim
theorem sd_div : Sd2 X (rI CDivW fun i j => .int (i / j)) pyDiv := by
  intro W σ x y a b H μ h Q rl ra rb p
  cases ra <;> first | exact p.elim | skip
  cases rb <;> first | exact p.elim | skip
  simp only [pyDiv] at p
  split at p
  · rename_i j z
    refine ⟨_, _, rfl, rfl, ⟨z.1, ?_⟩, p.at rl (.int _)⟩
    rcases z.2 with z2 | z2
    · have z1 := z.1
      refine Nat.lt_of_lt_of_le ((Nat.log2_lt (k := 30) (by omega)).mpr ?_) (by decide)
      have : (2 ^ 30 : Nat) = 1073741824 := by decide
      omega
    · exact z2
  · exact p.elim
theorem sd_pow : Sd2 X (rI CPow fun i j => .int (i ^ j.toNat)) pyPow := by
  intro W σ x y a b H μ h Q rl ra rb p
  cases ra <;> first | exact p.elim | skip
  cases rb <;> first | exact p.elim | skip
  simp only [pyPow] at p
  split at p
  · exact ⟨_, _, rfl, rfl, by assumption, p.at rl (.int _)⟩
  · exact p.elim
theorem sd_neg : Sd1 X (rU fun i => .int (-i)) pyNeg := by
  intro W σ x a H μ h Q rl ra p
  cases ra <;> first | exact p.elim | skip
  exact ⟨_, rfl, p.at rl (.int _)⟩
theorem sd_cmp {p : Int → Int → Bool} : Sd2 X (rI0 fun i j => .bl (p i j)) (pyCmp p) := by
  intro W σ x y a b H μ h Q rl ra rb p
  cases ra <;> first | exact p.elim | skip
  cases rb <;> first | exact p.elim | skip
  exact ⟨_, _, rfl, rfl, p.at rl (.bl _)⟩
theorem units_of {k : Nat} (C : Ctx X W k) : X.A.units + 64 < cLine := C.room.units
theorem units1_of {k : Nat} (C : Ctx X W k) : X.A.units + 1 < cLine := by
  have := C.room.units
  omega

/-! ### + * -/
def pyAdd : D → D → IH → Res D
  | .int i, .int j, h => .val (.int (i + j)) h
  | .str x, .str y, h => if x.length + y.length ≤ sizeLine then .val (.str (x ++ y)) h else .stk
  | .tup xs, .tup ys, h => if xs.length + ys.length ≤ sizeLine then .val (.tup (xs ++ ys)) h else .stk
  | .ref n, .ref m, h => match lstAt h n, lstAt h m with
    | some xs, some ys => if xs.length + ys.length ≤ sizeLine then .val (.ref h.length) (h ++ [.lst (xs ++ ys)]) else .stk
    | _, _ => .stk
  | _, _, _ => .stk
def rAddD (X : Cx) : R2 := fun x y H Q => (rI0 (fun i j => .int (i + j)) x y H Q ∨ (∃ i j, x = .str i ∧ y = .str j ∧ i.length + j.length ≤ sizeLine ∧ Q (.str (i ++ j)) H)) ∨ (rCatA X.K x y H Q ∨ rCat x y H Q)
theorem op_addD : OpR X (binaryOp .Add) (rAddD X) := (op_add.or op_add_str).or (op_catA.or op_cat)
theorem Rps.ne_nil {K : PySem.W.Frag} {H : Hp} {μ : List Addr} {vs : List V} {ds : List D} (r : Rps K H μ vs ds) : vs = [] ↔ ds = [] := by
  cases r <;> simp
theorem sd_add : Sd2 X (rAddD X) pyAdd := by
  intro W σ x y a b H μ h Q rl ra rb p
  cases ra with
  | int i =>
    cases rb <;> first | exact p.elim | skip
    exact .inl (.inl ⟨_, _, rfl, rfl, p.at rl (.int _)⟩)
  | str i =>
    cases rb <;> first | exact p.elim | skip
    simp only [pyAdd] at p
    split at p
    · exact .inl (.inr ⟨_, _, rfl, rfl, by assumption, p.at rl (.str _)⟩)
    · exact p.elim
  | @tup a vs ds s1 q1 =>
    cases rb <;> first | exact p.elim | skip
    rename_i b ws es s2 q2
    simp only [pyAdd] at p
    split at p
    · rename_i z
      refine .inr (.inl ⟨_, _, _, _, rfl, rfl, s1, s2, by rw [q1.length, q2.length]; exact z, fun e => ?_, fun _ e => ?_, fun _ _ pp hp => ?_⟩)
      · rw [q1.ne_nil.mp e, List.nil_append] at p
        exact p.at rl (.tup s2 q2)
      · rw [q2.ne_nil.mp e, List.append_nil] at p
        exact p.at rl (.tup s1 q1)
      · obtain ⟨x2, rl2, rp2⟩ := new_tup rl (q1.append q2) hp
        exact p _ _ _ x2 rl2 rp2
    · exact p.elim
  | ref e1 =>
    cases rb <;> first | exact p.elim | skip
    rename_i m b e2
    simp only [pyAdd] at p
    split at p
    · rename_i xs ys z1 z2
      obtain ⟨vs, h1, r1⟩ := lstAt_ok rl e1 z1
      obtain ⟨ws, h2, r2⟩ := lstAt_ok rl e2 z2
      split at p
      · rename_i z
        refine .inr (.inr ⟨_, _, vs, ws, rfl, rfl, h1, h2, by rw [r1.length, r2.length]; exact z, fun pp hp => ?_⟩)
        obtain ⟨x2, rl2, rp2⟩ := new_lst rl (r1.append r2) hp
        exact p _ _ _ x2 rl2 rp2
      · exact p.elim
    · exact p.elim
  | _ => exact p.elim
def pyMul : D → D → IH → Res D
  | .int i, .int j, h => if (-(2 ^ 64) < i ∧ i < 2 ^ 64) ∨ (-(2 ^ 64) < j ∧ j < 2 ^ 64) then .val (.int (i * j)) h else .stk
  | .str z, .int k, h => if -1000000 ≤ k ∧ k ≤ 1000000 ∧ z.length ≤ 1000000 ∧ z.length * k.toNat ≤ sizeLine then .val (.str (Txt.mul z k)) h else .stk
  | .tup ds, .int k, h => if 0 < ds.length ∧ 2 ≤ k ∧ k ≤ 1000 ∧ ds.length ≤ 1000 then .val (.tup (List.replicate k.toNat ds).flatten) h else .stk
  | .ref n, .int k, h => match lstAt h n with
    | some xs => if -(2 ^ 63) ≤ k ∧ k < 2 ^ 63 ∧ xs.length * k.toNat ≤ sizeLine then .val (.ref h.length) (h ++ [.lst (List.replicate k.toNat xs).flatten]) else .stk
    | none => .stk
  | _, _, _ => .stk
theorem Rps.replicate {K : PySem.W.Frag} {H : Hp} {μ : List Addr} {vs : List V} {ds : List D} (r : Rps K H μ vs ds) : ∀ n : Nat, Rps K H μ (List.replicate n vs).flatten (List.replicate n ds).flatten
  | 0 => .nil
  | n + 1 => by
    rw [List.replicate_succ, List.replicate_succ, List.flatten_cons, List.flatten_cons]
    exact r.append (r.replicate n)
theorem mulOk_of {z : Str} {k : Int} (h1 : -1000000 ≤ k) (h2 : k ≤ 1000000) (h3 : z.length ≤ 1000000) (h4 : z.length * k.toNat ≤ sizeLine) : MulOk z k := by
  refine ⟨?_, fun h _ => ?_, fun _ _ => PyProof.Rows.short24 (by have e := sizeLine_eq; omega)⟩
  · rw [decide_eq_false (by omega), decide_eq_false (by omega)]
    rfl
  · intro g
    have hk : 0 < k := by omega
    have e : (1000000 : Int) ≤ (2 ^ 63 - 1) / k := by
      rw [Int.le_ediv_iff_mul_le hk]
      have : 1000000 * k ≤ 1000000 * 1000000 := Int.mul_le_mul_of_nonneg_left h2 (by decide)
      omega
    omega
def rMulS : R2 := fun x y H Q => ∃ z k, x = .str z ∧ y = .int k ∧ MulOk z k ∧ Q (.str (Txt.mul z k)) H
theorem op_mulS : OpR X (binaryOp .Mult) rMulS := by
  intro pins s σ H x y v u Q I rx ry h
  obtain ⟨i, j, rfl, rfl, hz, q⟩ := h
  obtain ⟨t, rfl⟩ := rx
  obtain ⟨t', rfl⟩ := ry
  exact SB.mul hz fun t' k => ⟨.str _, H, I.tok _, ⟨_, rfl⟩, q⟩
def rMulA (X : Cx) : R2 := fun x y H Q => (rI CMul (fun i j => .int (i * j)) x y H Q ∨ rRep x y H Q) ∨ (rMulS x y H Q ∨ rRepT X.K x y H Q)
theorem op_mulD : OpR X (binaryOp .Mult) (rMulA X) := (op_mul.or op_rep).or (op_mulS.or op_repT)
theorem sd_mul : Sd2 X (rMulA X) pyMul := by
  intro W σ x y a b H μ h Q rl ra rb p
  cases ra with
  | int i =>
    cases rb <;> first | exact p.elim | skip
    simp only [pyMul] at p
    split at p
    · exact .inl (.inl ⟨_, _, rfl, rfl, by assumption, p.at rl (.int _)⟩)
    · exact p.elim
  | str z =>
    cases rb <;> first | exact p.elim | skip
    simp only [pyMul] at p
    split at p
    · rename_i c
      exact .inr (.inl ⟨_, _, rfl, rfl, mulOk_of c.1 c.2.1 c.2.2.1 c.2.2.2, p.at rl (.str _)⟩)
    · exact p.elim
  | tup s q =>
    cases rb <;> first | exact p.elim | skip
    simp only [pyMul] at p
    split at p
    · rename_i c
      refine .inr (.inr ⟨_, _, _, rfl, rfl, s, ?_, c.2.1, c.2.2.1, by rw [q.length]; exact c.2.2.2, fun pp hp => ?_⟩)
      · intro e
        have := q.length
        rw [e] at this
        have := c.1
        simp at *
        omega
      · obtain ⟨x2, rl2, rp2⟩ := new_tup rl (q.replicate _) hp
        exact p _ _ _ x2 rl2 rp2
    · exact p.elim
  | ref e1 =>
    cases rb <;> first | exact p.elim | skip
    simp only [pyMul] at p
    split at p
    · rename_i xs z1
      obtain ⟨vs, h1, r1⟩ := lstAt_ok rl e1 z1
      split at p
      · rename_i z
        refine .inl (.inr ⟨_, _, vs, rfl, rfl, h1, z.1, z.2.1, by rw [r1.length]; exact z.2.2, fun pp hp => ?_⟩)
        obtain ⟨x2, rl2, rp2⟩ := new_lst rl (r1.replicate _) hp
        exact p _ _ _ x2 rl2 rp2
      · exact p.elim
    · exact p.elim
  | _ => exact p.elim

/-! ### data as one tree -/
def mapO {α β : Type} (f : α → Option β) : List α → Option (List β)
  | [] => some []
  | d :: ds => match f d, mapO f ds with
    | some a, some b => some (a :: b)
    | _, _ => none
def toPy : Nat → IH → D → Option PyData
  | 0, _, _ => none
  | n + 1, h, d => match d with
    | .non => some .none
    | .bl b => some (.bool b)
    | .int i => some (.int i)
    | .str x => some (.str x)
    | .tup ds => (mapO (toPy n h) ds).map .tuple
    | .fl ds => (mapO (toPy n h) ds).map .list
    | .ref k => match lstAt h k with
      | some ds => (mapO (toPy n h) ds).map .list
      | none => none
    | .op _ => none
theorem toPys_ok {K : PySem.W.Frag} {H : Hp} {μ : List Addr} {f : D → Option PyData} (hf : ∀ v d p, Rp K H μ v d → f d = some p → Dp K H v p) : ∀ {vs : List V} {ds : List D} {ps : List PyData}, Rps K H μ vs ds → mapO f ds = some ps → DpAll K H vs ps
  | _, _, _, .nil, e => by
    cases e
    exact .nil
  | _, _, _, .cons a b, e => by
    unfold mapO at e
    split at e
    · rename_i p ps z1 z2
      cases e
      exact .cons (hf _ _ _ a z1) (toPys_ok hf b z2)
    · cases e
theorem toPy_ok {K : PySem.W.Frag} {H : Hp} {μ : List Addr} {h : IH} (rl : Rl K H μ h) : ∀ (n : Nat) (v : V) (d : D) (p : PyData), Rp K H μ v d → toPy n h d = some p → Dp K H v p
  | 0, _, _, _, _, e => by cases e
  | n + 1, v, d, p, r, e => by
    cases r with
    | non =>
      cases e
      exact .non
    | bl b =>
      cases e
      exact .bl b
    | int i =>
      cases e
      exact .int i
    | str x =>
      cases e
      exact .str x
    | tup s q =>
      simp only [toPy] at e
      obtain ⟨ps, z, e⟩ := Option.map_eq_some_iff.mp e
      subst e
      exact .tup s (toPys_ok (toPy_ok rl n) q z)
    | fl s q =>
      simp only [toPy] at e
      obtain ⟨ps, z, e⟩ := Option.map_eq_some_iff.mp e
      subst e
      exact .lst s.sq (toPys_ok (toPy_ok rl n) q z)
    | ref e1 =>
      simp only [toPy] at e
      split at e
      · rename_i ds z1
        obtain ⟨ps, z, e⟩ := Option.map_eq_some_iff.mp e
        subst e
        obtain ⟨vs, h1, q⟩ := lstAt_ok rl e1 z1
        exact .lst (SqL.of h1) (toPys_ok (toPy_ok rl n) q z)
      · cases e
    | op v => cases e
def eqT (h : IH) (a b : D) : Option Bool := match toPy 12 h a, toPy 12 h b with
  | some p, some q => if (SeqAt.shaped p && SeqAt.shaped q) = true then some (PyData.eqv p q) else none
  | _, _ => none
def eqO (h : IH) (a b : D) : Option Bool := match a, b with
  | .int i, .int j => some (decide (i = j))
  | .str x, .str y => some (decide (x = y))
  | a, b => eqT h a b
def pyEq (a b : D) (h : IH) : Res D := match eqO h a b with
  | some k => .val (.bl k) h
  | none => .stk
def pyNe (a b : D) (h : IH) : Res D := match eqO h a b with
  | some k => .val (.bl !k) h
  | none => .stk
theorem eqT_ok {K : PySem.W.Frag} {H : Hp} {μ : List Addr} {h : IH} {x y : V} {a b : D} {k : Bool} (rl : Rl K H μ h) (ra : Rp K H μ x a) (rb : Rp K H μ y b) (e : eqT h a b = some k) : ∃ d e, Dp K H x d ∧ Dp K H y e ∧ SeqAt.shaped d = true ∧ SeqAt.shaped e = true ∧ PyData.eqv d e = k := by
  unfold eqT at e
  split at e
  · rename_i p q z1 z2
    split at e
    · rename_i z
      rw [Bool.and_eq_true] at z
      cases e
      exact ⟨p, q, toPy_ok rl 12 _ _ _ ra z1, toPy_ok rl 12 _ _ _ rb z2, z.1, z.2, rfl⟩
    · cases e
  · cases e
theorem eqO_ok {K : PySem.W.Frag} {H : Hp} {μ : List Addr} {h : IH} {x y : V} {a b : D} {k : Bool} (rl : Rl K H μ h) (ra : Rp K H μ x a) (rb : Rp K H μ y b) (e : eqO h a b = some k) : (scal x y = true ∧ decide (x = y) = k) ∨ ∃ d e, Dp K H x d ∧ Dp K H y e ∧ SeqAt.shaped d = true ∧ SeqAt.shaped e = true ∧ PyData.eqv d e = k := by
  unfold eqO at e
  split at e
  · cases e
    cases ra
    cases rb
    refine .inl ⟨rfl, ?_⟩
    simp
  · cases e
    cases ra
    cases rb
    refine .inl ⟨rfl, ?_⟩
    simp
  · exact .inr (eqT_ok rl ra rb e)
def rEqA (X : Cx) : R2 := fun x y H Q => rEq x y H Q ∨ rEqD X.K x y H Q
def rNeA (X : Cx) : R2 := fun x y H Q => rNe x y H Q ∨ rNeD X.K x y H Q
theorem op_eqA (hu : X.A.units + 64 < cLine) : OpR X (compareOp .Eq) (rEqA X) := OpR.or op_eq (op_eqD hu)
theorem op_neA (hu : X.A.units + 64 < cLine) : OpR X (compareOp .NotEq) (rNeA X) := OpR.or op_ne (op_neD hu)
theorem sd_eq : Sd2 X (rEqA X) pyEq := by
  intro W σ x y a b H μ h Q rl ra rb p
  unfold pyEq at p
  split at p
  · rename_i k z
    rcases eqO_ok rl ra rb z with ⟨h1, h2⟩ | ⟨d, e, h1, h2, h3, h4, rfl⟩
    · subst h2
      exact .inl ⟨h1, p.at rl (.bl _)⟩
    · exact .inr ⟨d, e, h1, h2, h3, h4, p.at rl (.bl _)⟩
  · exact p.elim
theorem sd_ne : Sd2 X (rNeA X) pyNe := by
  intro W σ x y a b H μ h Q rl ra rb p
  unfold pyNe at p
  split at p
  · rename_i k z
    rcases eqO_ok rl ra rb z with ⟨h1, h2⟩ | ⟨d, e, h1, h2, h3, h4, rfl⟩
    · subst h2
      exact .inl ⟨h1, p.at rl (.bl _)⟩
    · exact .inr ⟨d, e, h1, h2, h3, h4, p.at rl (.bl _)⟩
  · exact p.elim
def isNon : D → Option Bool
  | .non => some true
  | .op v => none
  | _ => some false
def pyIs : D → D → IH → Res D := fun a b h => match isNon a, b with
  | some k, .non => .val (.bl k) h
  | _, _ => .stk
def pyIsNot : D → D → IH → Res D := fun a b h => match isNon a, b with
  | some k, .non => .val (.bl !k) h
  | _, _ => .stk
theorem isNon_ok {K : PySem.W.Frag} {H : Hp} {μ : List Addr} {x : V} {a : D} {k : Bool} (r : Rp K H μ x a) (e : isNon a = some k) : decide (x = .non) = k := by
  cases r <;> cases e <;> rfl
theorem sd_is : Sd2 X (fun x y H Q => y = V.non ∧ Q (V.bl (decide (x = V.non))) H) pyIs := by
  intro W σ x y a b H μ h Q rl ra rb p
  unfold pyIs at p
  split at p
  · rename_i k z
    cases rb
    rw [isNon_ok ra z]
    exact ⟨rfl, p.at rl (.bl _)⟩
  · exact p.elim
theorem sd_isNot : Sd2 X (fun x y H Q => y = V.non ∧ Q (V.bl (!decide (x = V.non))) H) pyIsNot := by
  intro W σ x y a b H μ h Q rl ra rb p
  unfold pyIsNot at p
  split at p
  · rename_i k z
    cases rb
    rw [isNon_ok ra z]
    exact ⟨rfl, p.at rl (.bl _)⟩
  · exact p.elim

/-! ### built-ins of one value -/
def tyD (h : IH) : D → Option String
  | .non => some "NoneType"
  | .bl _ => some "bool"
  | .int _ => some "int"
  | .str _ => some "str"
  | .tup _ => some "tuple"
  | .fl _ => some "list"
  | .ref n => match h[n]? with
    | some (.lst _) => some "list"
    | some (.dic _) => some "dict"
    | none => none
  | .op _ => none
theorem tyD_ok {K : PySem.W.Frag} {H : Hp} {μ : List Addr} {h : IH} {v : V} {d : D} {t : String} (rl : Rl K H μ h) (r : Rp K H μ v d) (e : tyD h d = some t) : TyX K H v (.type t) := by
  cases r with
  | non =>
    cases e
    exact .base .non
  | bl b =>
    cases e
    exact .base (.bl b)
  | int i =>
    cases e
    exact .base (.int i)
  | str x =>
    cases e
    exact .base (.str x)
  | tup s q =>
    cases e
    rcases s with (s | ⟨o, s⟩) | ⟨o, its, n, s1, s2, _⟩
    · exact .base (.tup s)
    · exact .fTuple s
    · exact .kTuple s1 s2
  | fl s q =>
    cases e
    rcases s with ⟨o, s⟩ | ⟨o, its, n, s1, s2, _⟩
    · exact .base (.frz s)
    · exact .kList s1 s2
  | ref e1 =>
    obtain ⟨o, ho, q⟩ := rl.at e1
    simp only [tyD, ho] at e
    cases o with
    | lst ds =>
      cases e
      obtain ⟨vs, h1, _⟩ := q
      exact .base (.lst h1)
    | dic ds =>
      cases e
      obtain ⟨vs, h1, _⟩ := q
      exact .base (.dK h1)
  | op v => cases e
def isiB (t u : String) : Bool := t == u || (t == "bool" && u == "int")
def knownT (t : String) : Bool := t == "NoneType" || t == "bool" || t == "int" || t == "str" || t == "tuple" || t == "list" || t == "dict"
theorem isiB_ok {t u : String} (h1 : knownT t = true) (h2 : knownT u = true) (h3 : u ≠ "NoneType") : kitB t u = some (isiB t u) := by
  simp only [knownT, Bool.or_eq_true, beq_iff_eq] at h1 h2
  rcases h1 with (((((rfl | rfl) | rfl) | rfl) | rfl) | rfl) | rfl <;> rcases h2 with (((((rfl | rfl) | rfl) | rfl) | rfl) | rfl) | rfl <;> first | exact absurd rfl h3 | decide +kernel
def pyIsi : List D → IH → Res D := fun as h => match as with
  | [x, .op (.ty u)] => match tyD h x with
    | some t => if (knownT t && knownT u && u != "NoneType") = true then .val (.bl (isiB t u)) h else .stk
    | none => .stk
  | _ => .stk
theorem sd_isi : SdC X (rIsi X.K) pyIsi := by
  intro W σ xs as H μ h Q rl rs p
  unfold pyIsi at p
  split at p
  · rename_i x u
    split at p
    · rename_i t z
      split at p
      · rename_i zz
        simp only [Bool.and_eq_true, bne_iff_ne, ne_eq] at zz
        cases rs with
        | cons r1 q1 =>
          cases q1 with
          | cons r2 q2 =>
            cases q2
            cases r2
            exact ⟨_, _, _, _, _, rfl, .ty u, tyD_ok rl r1 z, kit_ty (isiB_ok zz.1.1 zz.1.2 zz.2), p.at rl (.bl _)⟩
      · exact p.elim
    · exact p.elim
  · exact p.elim
def lenD (h : IH) : D → Option Nat
  | .str x => if x.length ≤ sizeLine then some x.length else none
  | .tup ds => some ds.length
  | .fl ds => some ds.length
  | .ref n => (lstAt h n).map List.length
  | _ => none
def pyLen : List D → IH → Res D := fun as h => match as with
  | [x] => match lenD h x with
    | some n => .val (.int n) h
    | none => .stk
  | _ => .stk
theorem lenD_ok {K : PySem.W.Frag} {H : Hp} {μ : List Addr} {h : IH} {v : V} {d : D} {n : Nat} (rl : Rl K H μ h) (r : Rp K H μ v d) (e : lenD h d = some n) : LenV K v H n := by
  cases r with
  | str x =>
    simp only [lenD] at e
    split at e
    · cases e
      exact ⟨by assumption, rfl⟩
    · cases e
  | tup s q =>
    cases e
    exact .inr ⟨_, s, q.length.symm⟩
  | fl s q =>
    cases e
    exact .inl ⟨_, s.sq, q.length.symm⟩
  | ref e1 =>
    obtain ⟨ds, z, rfl⟩ := Option.map_eq_some_iff.mp e
    obtain ⟨vs, h1, q⟩ := lstAt_ok rl e1 z
    exact .inl ⟨vs, SqL.of h1, q.length.symm⟩
  | _ => cases e
theorem sd_len : SdC X (fun xs H Q => ∃ x n, xs = [x] ∧ LenV X.K x H n ∧ Q (V.int (n : Nat)) H) pyLen := by
  intro W σ xs as H μ h Q rl rs p
  unfold pyLen at p
  split at p
  · split at p
    · rename_i n z
      cases rs with
      | cons r1 q1 =>
        cases q1
        exact ⟨_, n, rfl, lenD_ok rl r1 z, p.at rl (.int _)⟩
    · exact p.elim
  · exact p.elim
def pyInt : List D → IH → Res D := fun as h => match as with
  | [.int i] => .val (.int i) h
  | [.bl k] => .val (.int (if k = true then 1 else 0)) h
  | _ => .stk
theorem sd_int : SdC X (fun xs H Q => (∃ i, xs = [V.int i] ∧ Q (V.int i) H) ∨ ∃ k, xs = [V.bl k] ∧ Q (V.int (if k = true then 1 else 0)) H) pyInt := by
  intro W σ xs as H μ h Q rl rs p
  unfold pyInt at p
  split at p
  · cases rs with
    | cons r1 q1 =>
      cases q1
      cases r1
      exact .inl ⟨_, rfl, p.at rl (.int _)⟩
  · cases rs with
    | cons r1 q1 =>
      cases q1
      cases r1
      exact .inr ⟨_, rfl, p.at rl (.int _)⟩
  · exact p.elim
/-- a list or a tuple, read as a whole -/
def seqD (h : IH) : D → Option (List D)
  | .tup ds => some ds
  | d => seqL h d
theorem seqD_ok {K : PySem.W.Frag} {H : Hp} {μ : List Addr} {h : IH} {v : V} {d : D} {ds : List D} (rl : Rl K H μ h) (r : Rp K H μ v d) (e : seqD h d = some ds) : ∃ a vs, v = .ref a ∧ (SqL K H a vs ∨ SqT K H a vs) ∧ Rps K H μ vs ds := by
  cases r with
  | tup s q =>
    cases e
    exact ⟨_, _, rfl, .inr s, q⟩
  | fl s q =>
    cases e
    exact ⟨_, _, rfl, .inl s.sq, q⟩
  | ref e1 =>
    obtain ⟨vs, h1, q⟩ := lstAt_ok rl e1 e
    exact ⟨_, vs, rfl, .inl (SqL.of h1), q⟩
  | _ => cases e
def pyTuple : List D → IH → Res D := fun as h => match as with
  | [.tup ds] => .val (.tup ds) h
  | [x] => match seqL h x with
    | some ds => .val (.tup ds) h
    | none => .stk
  | _ => .stk
theorem sd_tuple : SdC X (fun xs H Q => ∃ p ys, xs = [V.ref p] ∧ ((SqL X.K H p ys ∧ ∀ (l : Addr), H l = none → Q (V.ref l) (upd H l (HO.tup ys))) ∨ SqT X.K H p ys ∧ Q (V.ref p) H)) pyTuple := by
  intro W σ xs as H μ h Q rl rs p
  unfold pyTuple at p
  split at p
  · cases rs with
    | cons r1 q1 =>
      cases q1
      cases r1 with
      | tup s q => exact ⟨_, _, rfl, .inr ⟨s, p.at rl (.tup s q)⟩⟩
  · split at p
    · rename_i z
      cases rs with
      | cons r1 q1 =>
        cases q1
        obtain ⟨a, vs, rfl, s, q⟩ := seqL_ok rl r1 z
        refine ⟨a, vs, rfl, .inl ⟨s, fun l hl => ?_⟩⟩
        obtain ⟨x2, rl2, rp2⟩ := new_tup rl q hl
        exact p _ _ _ x2 rl2 rp2
    · exact p.elim
  · exact p.elim
def pyList : List D → IH → Res D := fun as h => match as with
  | [x] => match seqD h x with
    | some ds => .val (.ref h.length) (h ++ [.lst ds])
    | none => .stk
  | _ => .stk
theorem sd_list : SdC X (fun xs H Q => ∃ p ys, xs = [V.ref p] ∧ (SqL X.K H p ys ∨ SqT X.K H p ys) ∧ ∀ (l : Addr), H l = none → Q (V.ref l) (upd H l (HO.lst ys))) pyList := by
  intro W σ xs as H μ h Q rl rs p
  unfold pyList at p
  split at p
  · split at p
    · rename_i z
      cases rs with
      | cons r1 q1 =>
        cases q1
        obtain ⟨a, vs, rfl, s, q⟩ := seqD_ok rl r1 z
        refine ⟨a, vs, rfl, s, fun l hl => ?_⟩
        obtain ⟨x2, rl2, rp2⟩ := new_lst rl q hl
        exact p _ _ _ x2 rl2 rp2
    · exact p.elim
  · exact p.elim
/-- all ints -/
def intsD : List D → Option (List Int) := mapO fun d => match d with
  | .int i => some i
  | _ => none
def boolsD : List D → Option (List Bool) := mapO fun d => match d with
  | .bl i => some i
  | _ => none
theorem intsD_ok {K : PySem.W.Frag} {H : Hp} {μ : List Addr} : ∀ {vs : List V} {ds : List D} {ns : List Int}, Rps K H μ vs ds → intsD ds = some ns → vs = ns.map V.int ∧ ds = ns.map D.int
  | _, _, _, .nil, e => by
    cases e
    exact ⟨rfl, rfl⟩
  | _, _, _, .cons (d := d) a b, e => by
    unfold intsD mapO at e
    split at e
    · rename_i p ps z1 z2
      cases e
      cases d <;> first | cases z1 | skip
      cases a
      obtain ⟨e1, e2⟩ := intsD_ok b z2
      rw [e1, e2]
      exact ⟨rfl, rfl⟩
    · cases e
theorem boolsD_ok {K : PySem.W.Frag} {H : Hp} {μ : List Addr} : ∀ {vs : List V} {ds : List D} {ns : List Bool}, Rps K H μ vs ds → boolsD ds = some ns → vs = ns.map V.bl ∧ ds = ns.map D.bl
  | _, _, _, .nil, e => by
    cases e
    exact ⟨rfl, rfl⟩
  | _, _, _, .cons (d := d) a b, e => by
    unfold boolsD mapO at e
    split at e
    · rename_i p ps z1 z2
      cases e
      cases d <;> first | cases z1 | skip
      cases a
      obtain ⟨e1, e2⟩ := boolsD_ok b z2
      rw [e1, e2]
      exact ⟨rfl, rfl⟩
    · cases e
end
end DD
set_option Elab.async false
set_option linter.all false
set_option maxRecDepth 100000
/-! enumerate of a tuple, of a text -/
namespace DD
open PySem PySem.Spec L2 PyProof.Rows

theorem meets_en1 {v : Value} {o : Obj} {G : Heap → Prop} (B : Begins v o G) :
    Meets (Builtin.«enumerate.__new__» ⟨[.type "enumerate", v], []⟩) (fun _ R s => G s.heap ∧
      R (.ok (.ret (.ref (s.heap.push o).objs.size))) { s with heap := (s.heap.push o).push { cls := .type "enumerate", data := .fields #[.none, .bool false, .ref s.heap.objs.size, rawInt 0, .none, .none] } }) :=
  .of_wp fun P w A R s h => by
    obtain ⟨hp, g, d, tk, os⟩ := s
    obtain ⟨h1, h⟩ := h
    have hsub := sub_enumerate
    have q1 : ∀ {A' : Around} {E : Value → Shared → Prop} {Q : Value → Shared → Prop}, Q (.ref hp.objs.size) ⟨hp.push o, g, d, tk, os⟩ → wpAny (model P w) A' (pyIter v) Q E ⟨hp, g, d, tk, os⟩ :=
      fun q => B.iter P w _ _ ⟨hp, g, d, tk, os⟩ _ h1 q
    wp_walk using q1
    refine wpAny_stack_any fun st => wpAny_pure ?_
    split
    · rename_i c _ _ _ _ _
      cases (c == Value.type "enumerate") <;> (wp_walk using q1; exact ⟨_, rfl, h⟩)
    · wp_walk using q1
      exact ⟨_, rfl, h⟩
theorem en1 {P : Program} {w : World} {A : Around} {E : Value → Shared → Prop} {s : Shared} {v : Value} {o : Obj} {G : Heap → Prop} {Q : Value → Shared → Prop} (B : Begins v o G) (h1 : G s.heap)
    (h : ∀ h', IsEnum h' (s.heap.objs.size + 1) s.heap.objs.size 0 .none → h'.get? s.heap.objs.size = some o → h'.objs.size = s.heap.objs.size + 2 → (∀ b u, s.heap.get? b = some u → h'.get? b = some u) → Q (.ref (s.heap.objs.size + 1)) { s with heap := h' }) :
    wpAny (model P w) A (call (.type "enumerate") [v]) Q E s := by
  refine callType_new F.called_enumerate (by decide) (F.typeCall_enumerate_1 _) (F.newCall_enumerate_1 _) (fun ob => F.args_object_init_2 ob _) F.entry_enumerate_new (meets_en1 B) ⟨h1, ?_⟩
  have hz : (s.heap.push o).objs.size = s.heap.objs.size + 1 := Heap.size_push ..
  show _ ∧ _
  rw [hz]
  have e1 : IsEnum ((s.heap.push o).push { cls := .type "enumerate", data := .fields #[.none, .bool false, .ref s.heap.objs.size, rawInt 0, .none, .none] }) (s.heap.objs.size + 1) s.heap.objs.size 0 .none := by
    have z := Heap.get?_push_size (s.heap.push o) (o := { cls := .type "enumerate", data := .fields #[.none, .bool false, .ref s.heap.objs.size, rawInt 0, .none, .none] }) rfl
    rw [hz] at z
    exact z
  exact ⟨⟨_, e1, rfl⟩, h _ e1 (Heap.get?_push_of_some _ (Heap.get?_push_size _ B.free)) (by rw [Heap.size_push, hz]) fun b u x => Heap.get?_push_of_some _ (Heap.get?_push_of_some _ x)⟩
/-- the tuple at a, each item in a new pair -/
def IenT (K : PySem.W.Frag) (a : Addr) : It :=
  ⟨fun i H => ∃ (xs : List V) (x : V), SqT K H a xs ∧ xs[i]? = some x, fun i H v H' => ∃ T x, v = .ref T ∧ H T = none ∧ H' = upd H T (.tup [.int (i : Nat), x]) ∧ ∀ xs, SqT K H a xs → xs[i]? = some x, fun i H => ∃ xs : List V, SqT K H a xs ∧ xs.length = i⟩
/-- a text -/
def IenS (z : Str) : It :=
  ⟨fun i _ => i < z.cps.size, fun i H v H' => ∃ T c, v = .ref T ∧ H T = none ∧ H' = upd H T (.tup [.int (i : Nat), .str ⟨#[c]⟩]) ∧ z.cps[i]? = some c, fun i _ => i = z.cps.size⟩
section
variable {P : Program} {w : World} {K : PySem.W.Frag} {elts : List Expr} {kk : Nat} {tpos : Pos}
theorem turn_enT (a e it : Addr) (hai : a ≠ it) (hae : a ≠ e) :
    Turn P w K (.Tuple elts kk tpos) (IenT K a) [e, it] e (fun i h => (∃ old, IsEnum h e it ((i : Nat) : Int) old) ∧ h.IsTupleIter it a i ∧ e ≠ it) where
  mem := by simp
  obj := fun i h st b hb => by
    obtain ⟨⟨old, he⟩, ⟨o, ho, hc, hd⟩, _⟩ := st
    have e1 : b = e ∨ b = it := by simpa using hb
    rcases e1 with z | z
    · rw [z]
      exact ⟨_, he, fun v q => nomatch q⟩
    · rw [z]
      exact ⟨o, ho, fun v q => by
        rw [hd] at q
        cases q⟩
  keep := fun i h h' st k => let ⟨⟨old, he⟩, hi, hne⟩ := st; ⟨⟨old, k e (by simp) _ he⟩, hi.at fun o q => k it (by simp) o q, hne⟩
  item := by
    intro X hP hw hK hc i pins s σ H E I hf st hg
    subst hP hw hK
    obtain ⟨⟨old, he⟩, hit, hne⟩ := st
    obtain ⟨xs, x, hq, hx⟩ := hg
    obtain ⟨its, rv, pt, hz⟩ := I.tuple hq
    obtain ⟨u, hu, ru⟩ := rv.get hx
    have hel : e < s.heap.objs.size := Heap.lt_size he
    have hil : it < s.heap.objs.size := by
      obtain ⟨_, q, _⟩ := hit
      exact Heap.lt_size q
    have hul : i < its.length := (List.getElem?_eq_some_iff.mp hu).1
    refine wpAny_pyNext_enum_itemD (i := i) (Draws.tuple (A := X.A.in1) (I.ok.hd hc) it a hai its.toArray) he ⟨hit, pt⟩ (by simpa using hul) hne (by simp [hne, Ne.symm hae]) fun y h' tk hP ho hst hT hsz hk => ?_
    have ey : y = u := by
      have z : its[i]? = some y := by simpa using hP
      rw [hu] at z
      exact (Option.some.inj z).symm
    subst ey
    refine ⟨_, rfl, wpAny_letOwnedTupleGo_enum (s := { s with heap := h', toks := tk + 1 }) ho fun h'' he' sb => ?_⟩
    have hT2 : h''.get? s.heap.objs.size = some { cls := .type "tuple", data := .seq #[.int i tk, y] } := (sb.2 _ (Nat.ne_of_gt hel)).trans hT
    have new : ObjOk X.prog X.w (upd H s.heap.objs.size (.tup [.int (i : Nat), x])) h'' s.heap.objs.size (.tup [.int (i : Nat), x]) :=
      ⟨by show 2 ≤ sizeLine; decide, [.int i tk, y], .cons ⟨_, rfl⟩ (.cons ru .nil), ⟨_, hT2, rfl, _, rfl⟩⟩
    have I1 : Inv X pins σ (upd H s.heap.objs.size (.tup [.int (i : Nat), x])) { s with heap := h'', toks := tk + 1 } :=
      I.turnedNew (ch := [e, it]) (fun b ob hb q => (sb.2 b (fun z => hb (by simp [z]))).trans (hk b ob (fun z => hb (by simp [z])) (fun z => hb (by simp [z])) q)) hf (Nat.le_refl _) new
    refine ⟨.ref s.heap.objs.size, _, I1, rfl, ⟨_, x, rfl, I.hok.fresh (Nat.le_refl _), rfl, fun ys hy => by rw [I.tuple_inj hy hq]; exact hx⟩, ⟨⟨y, ?_⟩, hst.1.at fun o q => (sb.2 it (Ne.symm hne)).trans q, hne⟩, fun b hb => ?_⟩
    · have e1 : ((i + 1 : Nat) : Int) = (i : Int) + 1 := by omega
      rw [e1]
      exact he'
    · have hb' : b < s.heap.objs.size := by
        have e' : b = e ∨ b = it := by simpa using hb
        rcases e' with z | z
        · rw [z]
          exact hel
        · rw [z]
          exact hil
      rw [upd_ne (Nat.ne_of_lt hb')]
      exact (hf b hb).1
  done := by
    intro X hP hw hK hc i pins s σ H E I hf st hg
    subst hP hw hK
    obtain ⟨⟨old, he⟩, hit, hne⟩ := st
    obtain ⟨xs, hq, hx⟩ := hg
    obtain ⟨its, rv, pt, hz⟩ := I.tuple hq
    obtain ⟨f0, f1, f2, f3, f4, f5⟩ := hf it (by simp)
    have hl : i = its.toArray.size := by
      rw [List.size_toArray, ← rv.length]
      exact hx.symm
    exact wpAny_pyNext_enum_endD (Draws.tuple (A := X.A.in1) (I.ok.hd hc) it a hai its.toArray) he ⟨by rw [← hl]; exact hit, pt⟩ fun h' eb => ⟨rfl, I.turned (t' := s.toks) (fun b o hb q => eb b o hb q) f0 f1 f3 f4 f5⟩
  self := fun A i s Q E st h => let ⟨⟨_, he⟩, _⟩ := st; wpAny_pyIter_enum he h
theorem turn_enS (x : Str) (t : Tok) (e it : Addr) :
    Turn P w K (.Tuple elts kk tpos) (IenS x) [e, it] e (fun i h => (∃ old, IsEnum h e it ((i : Nat) : Int) old) ∧ h.IsStrIter it (strIterType x) x t i ∧ e ≠ it) where
  mem := by simp
  obj := fun i h st b hb => by
    obtain ⟨⟨old, he⟩, ⟨o, ho, hc, hd⟩, _⟩ := st
    have e1 : b = e ∨ b = it := by simpa using hb
    rcases e1 with z | z
    · rw [z]
      exact ⟨_, he, fun v q => nomatch q⟩
    · rw [z]
      exact ⟨o, ho, fun v q => by
        rw [hd] at q
        cases q⟩
  keep := fun i h h' st k => let ⟨⟨old, he⟩, hi, hne⟩ := st; ⟨⟨old, k e (by simp) _ he⟩, (let ⟨o, q1, q2⟩ := hi; ⟨o, k it (by simp) o q1, q2⟩), hne⟩
  item := by
    intro X hP hw hK hc i pins s σ H E I hf st hg
    subst hP hw hK
    obtain ⟨⟨old, he⟩, hit, hne⟩ := st
    have hlt : i < x.cps.size := hg
    have hel : e < s.heap.objs.size := Heap.lt_size he
    have hil : it < s.heap.objs.size := by
      obtain ⟨_, q, _⟩ := hit
      exact Heap.lt_size q
    refine wpAny_pyNext_enum_itemD (i := i) (Draws.text (A := X.A.in1) (I.ok.hd hc) it x t) he hit hlt hne (by simp [hne]) fun y h' tk hP ho hst hT hsz hk => ?_
    obtain ⟨c, u, hc1, rfl⟩ := hP
    refine ⟨_, rfl, wpAny_letOwnedTupleGo_enum (s := { s with heap := h', toks := tk + 1 }) ho fun h'' he' sb => ?_⟩
    have hT2 : h''.get? s.heap.objs.size = some { cls := .type "tuple", data := .seq #[.int i tk, .str ⟨#[c]⟩ u] } := (sb.2 _ (Nat.ne_of_gt hel)).trans hT
    have new : ObjOk X.prog X.w (upd H s.heap.objs.size (.tup [.int (i : Nat), .str ⟨#[c]⟩])) h'' s.heap.objs.size (.tup [.int (i : Nat), .str ⟨#[c]⟩]) :=
      ⟨by show 2 ≤ sizeLine; decide, [.int i tk, .str ⟨#[c]⟩ u], .cons ⟨_, rfl⟩ (.cons ⟨_, rfl⟩ .nil), ⟨_, hT2, rfl, _, rfl⟩⟩
    have I1 : Inv X pins σ (upd H s.heap.objs.size (.tup [.int (i : Nat), .str ⟨#[c]⟩])) { s with heap := h'', toks := tk + 1 } :=
      I.turnedNew (ch := [e, it]) (fun b ob hb q => (sb.2 b (fun z => hb (by simp [z]))).trans (hk b ob (fun z => hb (by simp [z])) (fun z => hb (by simp [z])) q)) hf (Nat.le_refl _) new
    refine ⟨.ref s.heap.objs.size, _, I1, rfl, ⟨_, c, rfl, I.hok.fresh (Nat.le_refl _), rfl, hc1⟩, ⟨⟨.str ⟨#[c]⟩ u, ?_⟩, (let ⟨o, q1, q2⟩ := hst; ⟨o, (sb.2 it (Ne.symm hne)).trans q1, q2⟩), hne⟩, fun b hb => ?_⟩
    · have e1 : ((i + 1 : Nat) : Int) = (i : Int) + 1 := by omega
      rw [e1]
      exact he'
    · have hb' : b < s.heap.objs.size := by
        have e' : b = e ∨ b = it := by simpa using hb
        rcases e' with z | z
        · rw [z]
          exact hel
        · rw [z]
          exact hil
      rw [upd_ne (Nat.ne_of_lt hb')]
      exact (hf b hb).1
  done := by
    intro X hP hw hK hc i pins s σ H E I hf st hg
    subst hP hw hK
    obtain ⟨⟨old, he⟩, hit, hne⟩ := st
    have hx : i = x.cps.size := hg
    subst hx
    obtain ⟨f0, f1, f2, f3, f4, f5⟩ := hf it (by simp)
    exact wpAny_pyNext_enum_endD (Draws.text (A := X.A.in1) (I.ok.hd hc) it x t) he hit fun h' eb => ⟨rfl, I.turned (t' := s.toks) (fun b o hb q => eb b o hb q) f0 f1 f3 f4 f5⟩
  self := fun A i s Q E st h => let ⟨⟨_, he⟩, _⟩ := st; wpAny_pyIter_enum he h
end
def iEnT (K : PySem.W.Frag) (ta : TA) : TI := fun σ H R => ta σ H fun vs H1 => ∃ a xs, vs = [.ref a] ∧ SqT K H1 a xs ∧ R (IenT K a) H1
def iEnS (ta : TA) : TI := fun σ H R => ta σ H fun vs H1 => ∃ z, vs = [.str z] ∧ R (IenS z) H1
section
variable {X : Cx} {e : Expr} {ta : TA} {p pos tpos : Pos} {elts : List Expr} {kk : Nat}
theorem pi_enT (hg : Gl X "enumerate") (hm : X.mg "enumerate" = none) (ha : PA X [e] ta) (hs : starEach [e] X.env = [(false, eval e X.env)] := by rfl) : PI X (.Tuple elts kk tpos) (.Call (.Name "enumerate" p) [e] [] pos) (iEnT X.K ta) := by
  refine ⟨fun pins s σ H R I h => ?_⟩
  refine Call_ (ld_blt I hg hm boot_enumerate (PyProof.Rows.callWith_type1 (thn (ha.run pos pins s σ H _ I h) fun us s1 ⟨vs, H1, I1, r1, q1⟩ => ?_) hs rfl))
  obtain ⟨a, xs, ex, hq, q⟩ := q1
  subst ex
  cases r1 with
  | cons r rr =>
    cases rr
    cases r
    obtain ⟨its, rv, pt, hz⟩ := I1.tuple hq
    have hal : a < s1.heap.objs.size := by
      obtain ⟨o, ho, _⟩ := pt
      exact Heap.lt_size ho
    refine en1 (begins_tuple a its.toArray) pt fun h' he hit hsz hk => wpAny_pyIter_enum he ?_
    have I2 : Inv X pins σ H1 { s1 with heap := h' } := I1.kept (t' := s1.toks) hk
    refine ⟨s1.heap.objs.size + 1, [s1.heap.objs.size + 1, s1.heap.objs.size], _, _, H1, rfl, I2, turn_enT a (s1.heap.objs.size + 1) s1.heap.objs.size (Nat.ne_of_lt hal) (Nat.ne_of_lt (Nat.lt_succ_of_lt hal)), ⟨⟨.none, he⟩, ⟨_, hit, rfl, rfl⟩, Nat.succ_ne_self _⟩, fun b hb => ?_, q⟩
    have e' : b = s1.heap.objs.size + 1 ∨ b = s1.heap.objs.size := by simpa using hb
    have hle : s1.heap.objs.size ≤ b := by
      rcases e' with z | z
      · rw [z]
        exact Nat.le_succ _
      · rw [z]
        exact Nat.le_refl _
    exact I1.fpOk hle (I1.hok.fresh hle)
theorem pi_enS (hg : Gl X "enumerate") (hm : X.mg "enumerate" = none) (ha : PA X [e] ta) (hs : starEach [e] X.env = [(false, eval e X.env)] := by rfl) : PI X (.Tuple elts kk tpos) (.Call (.Name "enumerate" p) [e] [] pos) (iEnS ta) := by
  refine ⟨fun pins s σ H R I h => ?_⟩
  refine Call_ (ld_blt I hg hm boot_enumerate (PyProof.Rows.callWith_type1 (thn (ha.run pos pins s σ H _ I h) fun us s1 ⟨vs, H1, I1, r1, q1⟩ => ?_) hs rfl))
  obtain ⟨z, ex, q⟩ := q1
  subst ex
  cases r1 with
  | cons r rr =>
    cases rr
    obtain ⟨t, rfl⟩ := r
    refine en1 (begins_text z t) trivial fun h' he hit hsz hk => wpAny_pyIter_enum he ?_
    have I2 : Inv X pins σ H1 { s1 with heap := h' } := I1.kept (t' := s1.toks) hk
    refine ⟨s1.heap.objs.size + 1, [s1.heap.objs.size + 1, s1.heap.objs.size], _, _, H1, rfl, I2, turn_enS z t (s1.heap.objs.size + 1) s1.heap.objs.size, ⟨⟨.none, he⟩, ⟨_, hit, rfl, rfl⟩, Nat.succ_ne_self _⟩, fun b hb => ?_, q⟩
    have e' : b = s1.heap.objs.size + 1 ∨ b = s1.heap.objs.size := by simpa using hb
    have hle : s1.heap.objs.size ≤ b := by
      rcases e' with z | z
      · rw [z]
        exact Nat.le_succ _
      · rw [z]
        exact Nat.le_refl _
    exact I1.fpOk hle (I1.hok.fresh hle)
end
end DD
set_option Elab.async false
set_option linter.all false
set_option maxRecDepth 100000
namespace DD
open PySem PySem.Spec L2 PyProof.Rows

section
variable {X : Cx} {W : WX}
/-! ### sum, all, any, min, max -/
def rSumT (K : PySem.W.Frag) : List V → Hp → VK → Prop := fun vs H Q => ∃ (a : Addr) (ns : List Int), vs = [V.ref a] ∧ SqT K H a (ns.map V.int) ∧ Q (.int ns.sum) H
theorem cr_sumT (hc : X.calm = true) : CallR X (.builtin "sum") (rSumT X.K) := by
  intro pins s σ H vs us Q I r h
  obtain ⟨a, ns, rfl, hs, q⟩ := h
  obtain ⟨its, rv, hl, _⟩ := I.tuple hs
  rw [Vals.ref1 r]
  have hi : IntsAre its ns := rv.ints
  obtain ⟨xs, e⟩ := hi.allInts.items
  have hn : numsOf (intItems xs).toList = ns := by
    rw [← e]
    exact hi.numsOf
  rw [nums_intItems] at hn
  have hl2 : s.heap.IsTuple a (intItems xs) := by
    rw [← e]
    exact hl
  refine PySem.W.ktm_sumG (I.ok.hd hc) hl2 fun h' tk t' hk => ?_
  rw [preSum_eq, List.take_of_length_le (by simp), hn]
  exact ⟨.int _, H, I.kept hk, ⟨_, rfl⟩, q⟩
def pySum : List D → IH → Res D := fun as h => match as with
  | [x] => match seqD h x with
    | some ds => match intsD ds with
      | some ns => .val (.int ns.sum) h
      | none => .stk
    | none => .stk
  | _ => .stk
theorem cr_sumD (hc : X.calm = true) : CallR X (.builtin "sum") (fun xs H Q => rSum X.K xs H Q ∨ rSumT X.K xs H Q) := CallR.or (cr_sum hc) (cr_sumT hc)
theorem sd_sum : SdC X (fun xs H Q => rSum X.K xs H Q ∨ rSumT X.K xs H Q) pySum := by
  intro W σ xs as H μ h Q rl rs p
  unfold pySum at p
  split at p
  · split at p
    · rename_i z
      split at p
      · rename_i ns z2
        cases rs with
        | cons r1 q1 =>
          cases q1
          obtain ⟨a, vs, rfl, s, q⟩ := seqD_ok rl r1 z
          obtain ⟨rfl, _⟩ := intsD_ok q z2
          rcases s with s | s
          · exact .inl ⟨a, ns, rfl, s, p.at rl (.int _)⟩
          · exact .inr ⟨a, ns, rfl, s, p.at rl (.int _)⟩
      · exact p.elim
    · exact p.elim
  · exact p.elim
def pyAll : List D → IH → Res D := fun as h => match as with
  | [x] => match seqL h x with
    | some ds => match boolsD ds with
      | some ns => .val (.bl (ns.all id)) h
      | none => .stk
    | none => .stk
  | _ => .stk
def pyAny : List D → IH → Res D := fun as h => match as with
  | [x] => match seqL h x with
    | some ds => match boolsD ds with
      | some ns => .val (.bl (ns.any id)) h
      | none => .stk
    | none => .stk
  | _ => .stk
theorem sd_all : SdC X (rAll X.K) pyAll := by
  intro W σ xs as H μ h Q rl rs p
  unfold pyAll at p
  split at p
  · split at p
    · rename_i z
      split at p
      · rename_i ns z2
        cases rs with
        | cons r1 q1 =>
          cases q1
          obtain ⟨a, vs, rfl, s, q⟩ := seqL_ok rl r1 z
          obtain ⟨rfl, _⟩ := boolsD_ok q z2
          exact ⟨a, ns, rfl, s, p.at rl (.bl _)⟩
      · exact p.elim
    · exact p.elim
  · exact p.elim
theorem sd_any : SdC X (rAny X.K) pyAny := by
  intro W σ xs as H μ h Q rl rs p
  unfold pyAny at p
  split at p
  · split at p
    · rename_i z
      split at p
      · rename_i ns z2
        cases rs with
        | cons r1 q1 =>
          cases q1
          obtain ⟨a, vs, rfl, s, q⟩ := seqL_ok rl r1 z
          obtain ⟨rfl, _⟩ := boolsD_ok q z2
          exact ⟨a, ns, rfl, s, p.at rl (.bl _)⟩
      · exact p.elim
    · exact p.elim
  · exact p.elim
def alikeB (xs : List PyData) : Bool := (xs.all fun x => xs.all fun y => PySem.W.alike x y) && xs.all fun x => match x with
  | .none => false
  | _ => true
theorem alikeB_ok {xs : List PyData} (h : alikeB xs = true) : PySem.W.AlikeAll xs := by
  unfold alikeB at h
  rw [Bool.and_eq_true] at h
  refine ⟨fun x hx y hy => List.all_eq_true.mp (List.all_eq_true.mp h.1 x hx) y hy, fun x hx e => ?_⟩
  have := List.all_eq_true.mp h.2 x hx
  subst e
  cases this
theorem DpAll.get {K : PySem.W.Frag} {H : Hp} : ∀ {vs : List V} {ds : List PyData} {i : Nat} {v : V}, DpAll K H vs ds → vs[i]? = some v → ∃ d, ds[i]? = some d ∧ Dp K H v d
  | _, _, _, _, .nil, e => by simp at e
  | _, _, 0, _, .cons a _, e => by
    simp at e
    subst e
    exact ⟨_, rfl, a⟩
  | _, _, i + 1, _, .cons _ b, e => by
    obtain ⟨d, h1, h2⟩ := DpAll.get (i := i) b (by simpa using e)
    exact ⟨d, by simpa using h1, h2⟩
def rBest (K : PySem.W.Frag) (g : PyData → List PyData → PyData) : List V → Hp → VK → Prop := fun vs H Q => ∃ (a : Addr) (xs : List V) (p : PyData) (ps : List PyData), vs = [V.ref a] ∧ SqL K H a xs ∧ DpAll K H xs (p :: ps) ∧ PySem.W.AlikeAll (p :: ps) ∧ PyData.canLayAll0 (p :: ps) = true ∧ PyData.depthAll (p :: ps) ≤ 60 ∧
  ∀ (i : Nat) v, xs[i]? = some v → (p :: ps)[i]? = some (g p ps) → Q v H
theorem canLay_get : ∀ {ps : List PyData} {i : Nat} {d : PyData}, PyData.canLayAll0 ps = true → ps[i]? = some d → d.canLay0 = true
  | [], _, _, _, e => by simp at e
  | p :: ps, 0, d, h, e => by
    simp at e
    subst e
    unfold PyData.canLayAll0 at h
    exact (Bool.and_eq_true_iff.mp h).1
  | p :: ps, i + 1, d, h, e => by
    unfold PyData.canLayAll0 at h
    exact canLay_get (i := i) (Bool.and_eq_true_iff.mp h).2 (by simpa using e)
theorem cr_minD (hc : X.calm = true) (hu : X.A.units + 64 < cLine) : CallR X (.builtin "min") (rBest X.K PySem.W.minD) := by
  intro pins s σ H vs us Q I r h
  obtain ⟨a, xs, p, ps, rfl, hs, hd, ha, hcl, hdp, q⟩ := h
  obtain ⟨its, rv, hl, _⟩ := I.list hs
  rw [Vals.ref1 r]
  obtain ⟨as, hr⟩ := Dp.readsAll I _ _ _ hd rv
  refine PySem.W.min_list_data (I.ok.hd hc) hl.isList (by simpa using hr) ha (by omega) fun i v h' tk bs hv hb hk => ?_
  have hv2 : its[i]? = some v := by simpa using hv
  have hil : i < xs.length := by
    rw [rv.length]
    exact (List.getElem?_eq_some_iff.mp hv2).1
  obtain ⟨u, hu1, ru⟩ := rv.get (List.getElem?_eq_getElem hil)
  rw [hv2] at hu1
  cases hu1
  obtain ⟨d, hd1, hd2⟩ := DpAll.get hd (List.getElem?_eq_getElem hil)
  obtain ⟨as2, r2⟩ := Dp.reads I d _ v hd2 ru
  have e := (Reads.unique (PySem.W.reads_keeps hk r2) _ _ hb).1
  subst e
  exact ⟨xs[i], H, I.kept hk, ru, q i _ (List.getElem?_eq_getElem hil) hd1⟩
theorem cr_maxD (hc : X.calm = true) (hu : X.A.units + 64 < cLine) : CallR X (.builtin "max") (rBest X.K PySem.W.maxD) := by
  intro pins s σ H vs us Q I r h
  obtain ⟨a, xs, p, ps, rfl, hs, hd, ha, hcl, hdp, q⟩ := h
  obtain ⟨its, rv, hl, _⟩ := I.list hs
  rw [Vals.ref1 r]
  obtain ⟨as, hr⟩ := Dp.readsAll I _ _ _ hd rv
  refine PySem.W.max_list_data (I.ok.hd hc) hl.isList (by simpa using hr) ha (by omega) fun i v h' tk bs hv hb hk => ?_
  have hv2 : its[i]? = some v := by simpa using hv
  have hil : i < xs.length := by
    rw [rv.length]
    exact (List.getElem?_eq_some_iff.mp hv2).1
  obtain ⟨u, hu1, ru⟩ := rv.get (List.getElem?_eq_getElem hil)
  rw [hv2] at hu1
  cases hu1
  obtain ⟨d, hd1, hd2⟩ := DpAll.get hd (List.getElem?_eq_getElem hil)
  obtain ⟨as2, r2⟩ := Dp.reads I d _ v hd2 ru
  have e := (Reads.unique (PySem.W.reads_keeps hk r2) _ _ hb).1
  subst e
  exact ⟨xs[i], H, I.kept hk, ru, q i _ (List.getElem?_eq_getElem hil) hd1⟩
/-- data without lists, back -/
def ofPy : Nat → PyData → Option D
  | 0, _ => none
  | n + 1, p => match p with
    | .none => some .non
    | .bool b => some (.bl b)
    | .int i => some (.int i)
    | .str x => some (.str x)
    | .tuple ps => (mapO (ofPy n) ps).map .tup
    | _ => none
theorem mapO_back {n m : Nat} {h : IH} (ih : ∀ (d d' : D) (p : PyData), toPy m h d = some p → ofPy n p = some d' → d' = d) : ∀ {ds ds' : List D} {ps : List PyData}, mapO (toPy m h) ds = some ps → mapO (ofPy n) ps = some ds' → ds' = ds
  | [], _, _, e1, e2 => by
    cases e1
    cases e2
    rfl
  | d :: ds, _, _, e1, e2 => by
    unfold mapO at e1
    split at e1
    · rename_i p ps z1 z2
      cases e1
      unfold mapO at e2
      split at e2
      · rename_i d' ds' y1 y2
        cases e2
        rw [ih _ _ _ z1 y1, mapO_back ih z2 y2]
      · cases e2
    · cases e1
theorem ofPy_toPy {h : IH} : ∀ (n m : Nat) (d d' : D) (p : PyData), toPy m h d = some p → ofPy n p = some d' → d' = d
  | 0, _, _, _, _, _, e => by cases e
  | n + 1, 0, _, _, _, e, _ => by cases e
  | n + 1, m + 1, d, d', p, e1, e2 => by
    cases d with
    | non =>
      cases e1
      cases e2
      rfl
    | bl b =>
      cases e1
      cases e2
      rfl
    | int i =>
      cases e1
      cases e2
      rfl
    | str x =>
      cases e1
      cases e2
      rfl
    | tup ds =>
      simp only [toPy] at e1
      obtain ⟨ps, z, rfl⟩ := Option.map_eq_some_iff.mp e1
      simp only [ofPy] at e2
      obtain ⟨es, y, rfl⟩ := Option.map_eq_some_iff.mp e2
      rw [mapO_back (ofPy_toPy n m) z y]
    | fl ds =>
      simp only [toPy] at e1
      obtain ⟨ps, z, rfl⟩ := Option.map_eq_some_iff.mp e1
      cases e2
    | ref k =>
      simp only [toPy] at e1
      split at e1
      · obtain ⟨ps, z, rfl⟩ := Option.map_eq_some_iff.mp e1
        cases e2
      · cases e1
    | op v => cases e1
def bestO (g : PyData → List PyData → PyData) (h : IH) (ds : List D) : Option D := match mapO (toPy 12 h) ds with
  | some (p :: ps) => if (alikeB (p :: ps) && PyData.canLayAll0 (p :: ps) && decide (PyData.depthAll (p :: ps) ≤ 60)) = true then ofPy 12 (g p ps) else none
  | _ => none
def pyMin : List D → IH → Res D := fun as h => match as with
  | [.int i, .int j] => .val (.int (if j < i then j else i)) h
  | [x] => match seqL h x with
    | some ds => match bestO PySem.W.minD h ds with
      | some d => .val d h
      | none => .stk
    | none => .stk
  | _ => .stk
def pyMax : List D → IH → Res D := fun as h => match as with
  | [.int i, .int j] => .val (.int (if j > i then j else i)) h
  | [x] => match seqL h x with
    | some ds => match bestO PySem.W.maxD h ds with
      | some d => .val d h
      | none => .stk
    | none => .stk
  | _ => .stk
theorem mapO_get {α β : Type} {f : α → Option β} : ∀ {ds : List α} {ps : List β} {i : Nat} {p : β}, mapO f ds = some ps → ps[i]? = some p → ∃ d, ds[i]? = some d ∧ f d = some p
  | [], _, _, _, e, q => by
    cases e
    simp at q
  | d :: ds, _, i, p, e, q => by
    unfold mapO at e
    split at e
    · rename_i a b z1 z2
      cases e
      cases i with
      | zero =>
        simp at q
        subst q
        exact ⟨d, rfl, z1⟩
      | succ i =>
        obtain ⟨d', h1, h2⟩ := mapO_get (i := i) z2 (by simpa using q)
        exact ⟨d', by simpa using h1, h2⟩
    · cases e
theorem bestO_ok {g : PyData → List PyData → PyData} {K : PySem.W.Frag} {H : Hp} {μ : List Addr} {h : IH} {v : V} {x d : D} {ds : List D} {mg : MG} {W : WX} {σ : L2.St} {Q : VK} (rl : Rl K H μ h) (r : Rp K H μ v x) (z : seqL h x = some ds) (e : bestO g h ds = some d) (p : Po mg K W (Rp K) σ H μ (.val d h) Q) : rBest K g [v] H Q := by
  obtain ⟨a, vs, rfl, s, q⟩ := seqL_ok rl r z
  unfold bestO at e
  split at e
  · rename_i y ys zz
    split at e
    · rename_i c
      simp only [Bool.and_eq_true, decide_eq_true_eq] at c
      refine ⟨a, vs, y, ys, rfl, s, toPys_ok (toPy_ok rl 12) q zz, alikeB_ok c.1.1, c.1.2, c.2, fun i w h1 h2 => ?_⟩
      obtain ⟨d2, h3, h4⟩ := q.getV h1
      obtain ⟨d3, h5, h6⟩ := mapO_get zz h2
      rw [h3] at h5
      cases h5
      rw [ofPy_toPy _ _ _ _ _ h6 e] at p
      exact p.at rl h4
    · cases e
  · cases e
theorem cr_minA {k : Nat} (C : Ctx X W k) : CallR X (.builtin "min") (fun xs H Q => (∃ i j, xs = [V.int i, V.int j] ∧ Q (V.int (if j < i then j else i)) H) ∨ rBest X.K PySem.W.minD xs H Q) := CallR.or (call_min2 C.calm) (cr_minD C.calm (units_of C))
theorem cr_maxA {k : Nat} (C : Ctx X W k) : CallR X (.builtin "max") (fun xs H Q => (∃ i j, xs = [V.int i, V.int j] ∧ Q (V.int (if j > i then j else i)) H) ∨ rBest X.K PySem.W.maxD xs H Q) := CallR.or (call_max2 C.calm) (cr_maxD C.calm (units_of C))
theorem sd_min : SdC X (fun xs H Q => (∃ i j, xs = [V.int i, V.int j] ∧ Q (V.int (if j < i then j else i)) H) ∨ rBest X.K PySem.W.minD xs H Q) pyMin := by
  intro W σ xs as H μ h Q rl rs p
  unfold pyMin at p
  split at p
  · cases rs with
    | cons r1 q1 =>
      cases q1 with
      | cons r2 q2 =>
        cases q2
        cases r1
        cases r2
        exact .inl ⟨_, _, rfl, p.at rl (.int _)⟩
  · split at p
    · rename_i z
      split at p
      · rename_i z2
        cases rs with
        | cons r1 q1 =>
          cases q1
          exact .inr (bestO_ok rl r1 z z2 p)
      · exact p.elim
    · exact p.elim
  · exact p.elim
theorem sd_max : SdC X (fun xs H Q => (∃ i j, xs = [V.int i, V.int j] ∧ Q (V.int (if j > i then j else i)) H) ∨ rBest X.K PySem.W.maxD xs H Q) pyMax := by
  intro W σ xs as H μ h Q rl rs p
  unfold pyMax at p
  split at p
  · cases rs with
    | cons r1 q1 =>
      cases q1 with
      | cons r2 q2 =>
        cases q2
        cases r1
        cases r2
        exact .inl ⟨_, _, rfl, p.at rl (.int _)⟩
  · split at p
    · rename_i z
      split at p
      · rename_i z2
        cases rs with
        | cons r1 q1 =>
          cases q1
          exact .inr (bestO_ok rl r1 z z2 p)
      · exact p.elim
    · exact p.elim
  · exact p.elim

/-! ### repr -/
def rRepr (K : PySem.W.Frag) : List V → Hp → VK → Prop := fun vs H Q => ∃ a p, vs = [V.ref a] ∧ Dp K H (.ref a) p ∧ p.showable = true ∧ p.hasDict = false ∧ p.depth ≤ 60 ∧ p.shown.length ≤ sizeLine ∧ Q (.str p.shown) H
theorem cr_repr {k : Nat} (C : Ctx X W k) : CallR X (.builtin "repr") (rRepr X.K) := by
  intro pins s σ H vs us Q I r h
  obtain ⟨a, p, rfl, hd, h1, h2, h3, h4, q⟩ := h
  rw [Vals.ref1 r]
  obtain ⟨as, hr⟩ := Dp.reads I p _ (.ref a) hd rfl
  refine repr_of_reads' hr h1 (fun z => by rw [h2] at z; cases z) C.gd (by have := units_of C; omega) (fun _ _ z => z) (fun h' u tk hk => ?_) h4
  exact ⟨.str p.shown, H, I.kept hk, ⟨_, rfl⟩, q⟩
def pyRepr : List D → IH → Res D := fun as h => match as with
  | [x] => match toPy 12 h x with
    | some p => match p with
      | .list _ | .tuple _ => if (p.showable && !p.hasDict && decide (p.depth ≤ 60) && decide (p.shown.length ≤ sizeLine)) = true then .val (.str p.shown) h else .stk
      | _ => .stk
    | none => .stk
  | _ => .stk
theorem sd_repr : SdC X (rRepr X.K) pyRepr := by
  intro W σ xs as H μ h Q rl rs p
  unfold pyRepr at p
  split at p
  · split at p
    · rename_i q z
      cases rs with
      | cons r1 q1 =>
        cases q1
        have hd := toPy_ok rl 12 _ _ _ r1 z
        have key : ∀ {v : V} {a : Addr}, v = .ref a → Dp X.K H v q → Po X.mg X.K W (Rp X.K) σ H μ (if (q.showable && !q.hasDict && decide (q.depth ≤ 60) && decide (q.shown.length ≤ sizeLine)) = true then .val (.str q.shown) h else .stk) Q → rRepr X.K [v] H Q := by
          intro v a e hd p
          subst e
          split at p
          · rename_i c
            simp only [Bool.and_eq_true, decide_eq_true_eq, Bool.not_eq_true'] at c
            exact ⟨a, q, rfl, hd, c.1.1.1, c.1.1.2, c.1.2, c.2, p.at rl (.str _)⟩
          · exact p.elim
        split at p
        · cases hd with
          | lst s1 s2 => exact key rfl (.lst s1 s2) p
        · cases hd with
          | tup s1 s2 => exact key rfl (.tup s1 s2) p
        · exact p.elim
    · exact p.elim
  · exact p.elim
end
end DD
set_option Elab.async false
set_option linter.all false
set_option maxRecDepth 100000
namespace DD
open PySem PySem.Spec L2 PyProof.Rows

/-! ### dicts as data -/
def keyD : D → Option Key
  | .int i => some (.inl i)
  | .str x => some (.inr x)
  | _ => none
def valD (kvs : List (Key × D)) (k : Key) : Option D := match kvs with
  | [] => none
  | (j, d) :: r => if j = k then some d else valD r k
def hasD (kvs : List (Key × D)) (k : Key) : Bool := (valD kvs k).isSome
def setD (kvs : List (Key × D)) (k : Key) (v : D) : List (Key × D) := match kvs with
  | [] => []
  | (j, d) :: r => (if j = k then (j, v) else (j, d)) :: setD r k v
def putD (kvs : List (Key × D)) (k : Key) (v : D) : List (Key × D) := if hasD kvs k = true then setD kvs k v else kvs ++ [(k, v)]
section
variable {K : PySem.W.Frag} {H : Hp} {μ : List Addr}
theorem keyD_ok {v : V} {d : D} {k : Key} (r : Rp K H μ v d) (e : keyD d = some k) : v = kV k := by
  cases r <;> cases e <;> rfl
abbrev Kr (K : PySem.W.Frag) (H : Hp) (μ : List Addr) (kws : List (Key × V)) (kvs : List (Key × D)) : Prop := kws.map (·.1) = kvs.map (·.1) ∧ Rps K H μ (kws.map (·.2)) (kvs.map (·.2))
theorem Kr.cons_inv {p : Key × V} {q : Key × D} {kws : List (Key × V)} {kvs : List (Key × D)} (r : Kr K H μ (p :: kws) (q :: kvs)) : p.1 = q.1 ∧ Rp K H μ p.2 q.2 ∧ Kr K H μ kws kvs := by
  obtain ⟨h1, h2⟩ := r
  rw [List.map_cons, List.map_cons] at h1
  rw [List.map_cons, List.map_cons] at h2
  cases h2 with
  | cons a b =>
    injection h1 with e1 e2
    exact ⟨e1, a, e2, b⟩
theorem Kr.cons {p : Key × V} {q : Key × D} {kws : List (Key × V)} {kvs : List (Key × D)} (e : p.1 = q.1) (a : Rp K H μ p.2 q.2) (r : Kr K H μ kws kvs) : Kr K H μ (p :: kws) (q :: kvs) := by
  refine ⟨?_, ?_⟩
  · rw [List.map_cons, List.map_cons, e, r.1]
  · rw [List.map_cons, List.map_cons]
    exact .cons a r.2
theorem Kr.len {kws : List (Key × V)} {kvs : List (Key × D)} (r : Kr K H μ kws kvs) : kws.length = kvs.length := by
  have := congrArg List.length r.1
  rw [List.length_map, List.length_map] at this
  exact this
theorem valD_ok {k : Key} : ∀ {kws : List (Key × V)} {kvs : List (Key × D)}, Kr K H μ kws kvs → (valV kws k = none ∧ valD kvs k = none) ∨ ∃ v d, valV kws k = some v ∧ valD kvs k = some d ∧ Rp K H μ v d
  | [], [], _ => .inl ⟨rfl, rfl⟩
  | [], _ :: _, r => by
    have := r.len
    simp at this
  | _ :: _, [], r => by
    have := r.len
    simp at this
  | p :: kws, (j, d) :: kvs, r => by
    obtain ⟨e, a, b⟩ := r.cons_inv
    by_cases z : p.1 = k
    · right
      rw [valV_pos z]
      refine ⟨p.2, d, rfl, ?_, a⟩
      unfold valD
      rw [if_pos (e.symm.trans z)]
    · rw [valV_neg z]
      unfold valD
      rw [if_neg (fun y => z (e.trans y))]
      exact valD_ok b
theorem setD_ok {k : Key} {v : V} {d : D} (rv : Rp K H μ v d) : ∀ {kws : List (Key × V)} {kvs : List (Key × D)}, Kr K H μ kws kvs → Kr K H μ (kws.map fun kv => if kv.1 = k then (kv.1, v) else kv) (setD kvs k d)
  | [], [], r => r
  | [], _ :: _, r => by
    have := r.len
    simp at this
  | _ :: _, [], r => by
    have := r.len
    simp at this
  | p :: kws, (j, e) :: kvs, r => by
    obtain ⟨e1, a, b⟩ := r.cons_inv
    have e1' : p.1 = j := e1
    rw [List.map_cons]
    unfold setD
    by_cases z : p.1 = k
    · rw [if_pos z, if_pos (e1'.symm.trans z)]
      exact Kr.cons e1 rv (setD_ok rv b)
    · rw [if_neg z, if_neg (fun y => z (e1'.trans y))]
      exact Kr.cons e1 a (setD_ok rv b)
theorem Kr.append : ∀ {kws kws' : List (Key × V)} {kvs kvs' : List (Key × D)}, Kr K H μ kws kvs → Kr K H μ kws' kvs' → Kr K H μ (kws ++ kws') (kvs ++ kvs') := by
  intro kws kws' kvs kvs' a b
  refine ⟨?_, ?_⟩
  · rw [List.map_append, List.map_append, a.1, b.1]
  · rw [List.map_append, List.map_append]
    exact a.2.append b.2
theorem putD_ok {k : Key} {v : V} {d : D} {kws : List (Key × V)} {kvs : List (Key × D)} (rv : Rp K H μ v d) (r : Kr K H μ kws kvs) : Kr K H μ (putK kws k v) (putD kvs k d) := by
  unfold putK putD hasD
  rw [valV_any]
  rcases valD_ok (k := k) r with ⟨h1, h2⟩ | ⟨w, e, h1, h2, _⟩
  · rw [h1, h2, if_neg (by decide), if_neg (by decide)]
    exact r.append (Kr.cons rfl rv ⟨rfl, .nil⟩)
  · rw [h1, h2, if_pos (show (some w).isSome = true from rfl), if_pos (show (some e).isSome = true from rfl)]
    exact setD_ok rv r
def mergeD (kvs more : List (Key × D)) : List (Key × D) := more.foldl (fun acc kv => putD acc kv.1 kv.2) kvs
theorem mergeD_ok : ∀ {ws : List (Key × V)} {vs : List (Key × D)} {kws : List (Key × V)} {kvs : List (Key × D)}, Kr K H μ ws vs → Kr K H μ kws kvs → Kr K H μ (mergeK kws ws) (mergeD kvs vs)
  | [], [], _, _, _, r => r
  | [], _ :: _, _, _, r, _ => by
    have := r.len
    simp at this
  | _ :: _, [], _, _, r, _ => by
    have := r.len
    simp at this
  | p :: ws, (j, d) :: vs, kws, kvs, r, q => by
    obtain ⟨e, a, b⟩ := r.cons_inv
    have e' : p.1 = j := e
    subst e'
    show Kr K H μ (mergeK (putK kws p.1 p.2) ws) (mergeD (putD kvs p.1 d) vs)
    exact mergeD_ok b (putD_ok a q)
end
/-! ### a change of the own heap -/
section
variable {K : PySem.W.Frag} {H : Hp} {μ : List Addr} {h : IH} {n : Nat} {a : Addr}
theorem wr_lst {vs ws : List V} {es : List D} (rl : Rl K H μ h) (e : μ[n]? = some a) (hp : H a = some (.lst vs)) (r : Rps K H μ ws es) : Ext K H μ (upd H a (.lst ws)) μ ∧ Rl K (upd H a (.lst ws)) μ (h.set n (.lst es)) := by
  have x : Ext K H μ (upd H a (.lst ws)) μ := Ext.mut e hp (fun _ z => nomatch z) (fun _ _ z => nomatch z)
  exact ⟨x, rl.set e x ⟨ws, upd_same, r.mono x⟩⟩
theorem wr_dic {vs ws : List (Key × V)} {es : List (Key × D)} (rl : Rl K H μ h) (e : μ[n]? = some a) (hp : H a = some (.dK vs)) (r : Kr K H μ ws es) : Ext K H μ (upd H a (.dK ws)) μ ∧ Rl K (upd H a (.dK ws)) μ (h.set n (.dic es)) := by
  have x : Ext K H μ (upd H a (.dK ws)) μ := Ext.mut e hp (fun _ z => nomatch z) (fun _ _ z => nomatch z)
  exact ⟨x, rl.set e x ⟨ws, upd_same, r.1, r.2.mono x⟩⟩
end
section
variable {X : Cx} {W : WX} {a b c : Expr} {ma mb mc : ME} {pos : Pos}
/-! ### subscripts -/
def rIxD : R2 := fun x y H Q => ∃ a v, x = .ref a ∧ DGet H a y (some v) ∧ Q v H
theorem ix_dict (hu : X.A.units + 1 < cLine) : IxR X rIxD := by
  intro value slice pins s σ H x y v u Q I rx ry h hs
  obtain ⟨p, z, rfl, g, q⟩ := h
  cases rx
  have hT := dict_typeIs I g
  unfold subscriptTail
  refine wpAny_bind ?_
  rw [getitemInPython_of_ne hT.not_modules]
  refine wpAny_bind (wpAny_specialOf hT PySem.F.slot_dict_getitem.lookup ?_)
  have fin : wpAny (model X.prog X.w) X.A (subscripted slice false (.ref p) u) (fun r s₃ => wpAny (model X.prog X.w) X.A (letTemporaryGo value (.ref p) r >>= fun _ => pure r) (EP X pins σ Q) X.xe s₃) X.xe s := by
    rw [hs]
    exact wpAny_operating (d_getItem hu I g ry fun w' s3 I3 rw' => wpAny_bind (wpAny_letTemporaryGo (wpAny_pure ⟨z, H, I3, rw', q⟩)))
  first
    | exact wpAny_pure (wpAny_bind fin)
    | exact wpAny_bind (wpAny_pure (wpAny_bind fin))
    | exact wpAny_bind fin
def pyIx : D → D → IH → Res D
  | .str z, .int i, h => if z.length ≤ sizeLine then (match atI z.cps.toList i with
    | some c => .val (.str ⟨#[c]⟩) h
    | none => .stk) else .stk
  | .tup ds, .int i, h => match atI ds i with
    | some d => .val d h
    | none => .stk
  | .fl ds, .int i, h => match atI ds i with
    | some d => .val d h
    | none => .stk
  | .ref n, k, h => match h[n]? with
    | some (.lst ds) => (match k with
      | .int i => (match atI ds i with
        | some d => .val d h
        | none => .stk)
      | _ => .stk)
    | some (.dic kvs) => (match keyD k with
      | some j => (match valD kvs j with
        | some d => .val d h
        | none => .stk)
      | none => .stk)
    | none => .stk
  | _, _, _ => .stk
theorem atI_ok {K : PySem.W.Frag} {H : Hp} {μ : List Addr} {vs : List V} {ds : List D} {i : Int} {d : D} (r : Rps K H μ vs ds) (e : atI ds i = some d) : ∃ v, atI vs i = some v ∧ Rp K H μ v d := by
  unfold atI at e ⊢
  rw [r.length]
  obtain ⟨j, h1, h2⟩ := Option.bind_eq_some_iff.mp e
  obtain ⟨v, h3, h4⟩ := r.get h2
  exact ⟨v, by rw [h1]; exact h3, h4⟩
def rIxA (X : Cx) : R2 := fun x y H Q => rIx X.K x y H Q ∨ rIxD x y H Q
theorem ix_any {k : Nat} (C : Ctx X W k) : IxR X (rIxA X) := ix_seq.or (ix_dict (units1_of C))
theorem sd_ix : Sd2 X (rIxA X) pyIx := by
  intro W σ x y a b H μ h Q rl ra rb p
  cases ra with
  | str z =>
    cases rb <;> first | exact p.elim | skip
    simp only [pyIx] at p
    split at p
    · split at p
      · exact .inl (.inr (.inr ⟨_, _, _, rfl, rfl, by assumption, by assumption, p.at rl (.str _)⟩))
      · exact p.elim
    · exact p.elim
  | tup s q =>
    cases rb <;> first | exact p.elim | skip
    simp only [pyIx] at p
    split at p
    · rename_i d z
      obtain ⟨v, h1, h2⟩ := atI_ok q z
      exact .inl (.inr (.inl ⟨_, _, _, v, rfl, rfl, s, h1, p.at rl h2⟩))
    · exact p.elim
  | fl s q =>
    cases rb <;> first | exact p.elim | skip
    simp only [pyIx] at p
    split at p
    · rename_i d z
      obtain ⟨v, h1, h2⟩ := atI_ok q z
      exact .inl (.inl ⟨_, _, _, v, rfl, rfl, s.sq, h1, p.at rl h2⟩)
    · exact p.elim
  | ref e1 =>
    obtain ⟨o, ho, q⟩ := rl.at e1
    simp only [pyIx, ho] at p
    cases o with
    | lst ds =>
      obtain ⟨vs, h1, q⟩ := q
      cases rb <;> first | exact p.elim | skip
      simp only at p
      split at p
      · rename_i d z
        obtain ⟨v, h2, h3⟩ := atI_ok q z
        exact .inl (.inl ⟨_, _, _, v, rfl, rfl, SqL.of h1, h2, p.at rl h3⟩)
      · exact p.elim
    | dic kvs =>
      obtain ⟨kws, h1, q⟩ := q
      simp only at p
      split at p
      · rename_i j z
        split at p
        · rename_i d z2
          rcases valD_ok (k := j) q with ⟨h2, h3⟩ | ⟨v, d', h2, h3, h4⟩
          · rw [h3] at z2
            cases z2
          · rw [h3] at z2
            cases z2
            exact .inr ⟨_, v, rfl, .inl ⟨kws, j, .inl h1, keyD_ok rb z, h2.symm⟩, p.at rl h4⟩
        · exact p.elim
      · exact p.elim
  | _ => exact p.elim
/-! ### stores by subscripts -/
def pySet (x y d : D) (h : IH) : Option IH := match x with
  | .ref n => match h[n]? with
    | some (.lst ds) => (match y with
      | .int i => (match ixN ds.length i with
        | some j => some (h.set n (.lst (ds.set j d)))
        | none => none)
      | _ => none)
    | some (.dic kvs) => (match keyD y with
      | some k => if kvs.length < sizeLine then some (h.set n (.dic (putD kvs k d))) else none
      | none => none)
    | none => none
  | _ => none
def rSetA : TSet := fun o i v H Q => rSetL o i v H Q ∨ ∃ a H', o = .ref a ∧ DPut H a i v H' ∧ Q H'
theorem set_any (hu : X.A.units + 1 < cLine) : PSet X rSetA := by
  intro pins s σ H o i v ov iv u Q I ro ri rv h
  rcases h with h | ⟨a, H', rfl, g, q⟩
  · exact set_list pins s σ H o i v ov iv u Q I ro ri rv h
  · cases ro
    exact d_setItem hu I g ri rv fun s' I' => ⟨H', I', q⟩
theorem sd_set {o i v : V} {x y d : D} {H : Hp} {μ : List Addr} {h h' : IH} {Q : Hp → Prop} (rl : Rl X.K H μ h) (ro : Rp X.K H μ o x) (ri : Rp X.K H μ i y) (rv : Rp X.K H μ v d) (e : pySet x y d h = some h') (q : ∀ H', Ext X.K H μ H' μ → Rl X.K H' μ h' → Q H') : rSetA o i v H Q := by
  cases ro with
  | ref e1 =>
    obtain ⟨ob, ho, oq⟩ := rl.at e1
    simp only [pySet, ho] at e
    cases ob with
    | lst ds =>
      obtain ⟨vs, h1, r1⟩ := oq
      simp only at e
      split at e
      · split at e
        · rename_i i j z
          cases e
          cases ri
          refine .inl ⟨_, vs, _, j, rfl, rfl, h1, by rw [r1.length]; exact z, ?_⟩
          obtain ⟨x2, rl2⟩ := wr_lst rl e1 h1 (r1.set j rv)
          exact q _ x2 rl2
        · cases e
      · cases e
    | dic kvs =>
      obtain ⟨kws, h1, r1⟩ := oq
      simp only at e
      split at e
      · rename_i k z
        split at e
        · rename_i zl
          cases e
          obtain ⟨x2, rl2⟩ := wr_dic rl e1 h1 (putD_ok (k := k) rv r1)
          exact .inr ⟨_, _, rfl, .inl ⟨kws, k, h1, keyD_ok ri z, by rw [Kr.len r1]; exact zl, rfl⟩, q _ x2 rl2⟩
        · cases e
      · cases e
  | _ => cases e
def gSubM (o i : ME) : MTg := fun d env h => match o env h with
  | .val x h1 => match i env h1 with
    | .val y h2 => match pySet x y d h2 with
      | some h3 => some (env, h3)
      | none => none
    | _ => none
  | _ => none
theorem qg_sub {k : Nat} {o i : Expr} {mo mi : ME} (C : Ctx X W k) (ho : QE X W o mo) (hi : QE X W i mi)
    (ha : ∀ v, assign (.Subscript o i pos) X.env v = (do
      let ov ← holding [v] (eval o X.env)
      let iv ← holding [v, ov] (eval i X.env)
      standAt pos
      holding [v, ov, iv] (setItem ov iv v)
      release [v, ov, iv] []) := by intro _; rfl) : QG X (.Subscript o i pos) (gSubM mo mi) :=
  ⟨fun pins s σ H v u Q I r ⟨μ, h, env, d, rl, er, rp, p⟩ => (pg_sub ho hi (set_any (units1_of C)) ha).run pins s σ H v u Q I r (by
    unfold gSubM at p
    split at p
    · rename_i x h1 z1
      split at p
      · rename_i y h2 z2
        split at p
        · rename_i h3 z3
          refine ⟨μ, h, env, rl, er, ?_⟩
          rw [z1]
          intro o' μ1 H1 x1 rl1 r1
          refine ⟨μ1, h1, env, rl1, er.mono x1, ?_⟩
          rw [z2]
          intro i' μ2 H2 x2 rl2 r2
          exact sd_set rl2 (r1.mono x2) r2 (rp.mono (x1.trans x2)) z3 fun H3 x3 rl3 => p σ μ2 H3 (x1.trans (x2.trans x3)) rl3 (er.mono (x1.trans (x2.trans x3)))
        · exact p.elim
      · exact p.elim
    · exact p.elim)⟩
/-! ### slices -/
def cutA {α : Type} (xs : List α) (lo hi : Option Int) : List α := (xs.drop (HT.sIx xs.length 0 lo)).take (HT.sIx xs.length xs.length hi - HT.sIx xs.length 0 lo)
theorem cutA_ok {K : PySem.W.Frag} {H : Hp} {μ : List Addr} {vs : List V} {ds : List D} {lo hi : Option Int} (r : Rps K H μ vs ds) : Rps K H μ (cutV vs lo hi) (cutA ds lo hi) := by
  unfold cutV cutA
  rw [r.length]
  exact (r.drop _).take _
abbrev MO := En → IH → Res (Option Int)
def RO (mg : MG) (K : PySem.W.Frag) (W : WX) (m : MO) : TO := fun σ H Q => ∃ μ h env, Rl K H μ h ∧ EnvR K H μ σ env ∧ Po mg K W (fun _ _ (a b : Option Int) => a = b) σ H μ (m env h) Q
def QO (X : Cx) (W : WX) (e : Option Expr) (m : MO) : Prop := PO X e (RO X.mg X.K W m)
def moN : MO := fun _ h => .val none h
def moS (m : ME) : MO := fun env h => (m env h).bind fun d h1 => match d with
  | .int i => .val (some i) h1
  | _ => .stk
theorem qo_none : QO X W none moN := ⟨fun pins s σ H Q I ⟨μ, h, env, rl, er, p⟩ => po_none.run pins s σ H Q I (p none μ H .refl rl rfl)⟩
theorem qo_some (ha : QE X W a ma) : QO X W (some a) (moS ma) := ⟨fun pins s σ H Q I ⟨μ, h, env, rl, er, p⟩ => (po_some ha).run pins s σ H Q I ⟨μ, h, env, rl, er, Po.then (R := Rp X.K) p fun d h1 v μ1 H1 x1 rl1 rp1 p1 => by
  split at p1
  · cases rp1
    exact ⟨_, rfl, p1 _ _ _ .refl rl1 rfl⟩
  · exact p1.elim⟩⟩
def pySlice (d : D) (lo hi : Option Int) (h : IH) : Res D := match d with
  | .tup ds => .val (.tup (cutA ds lo hi)) h
  | .str z => if z.length ≤ sizeLine then .val (.str (cutS z lo hi)) h else .stk
  | x => match seqL h x with
    | some ds => .val (.ref h.length) (h ++ [.lst (cutA ds lo hi)])
    | none => .stk
def mSl (e : ME) (lo hi : MO) : ME := fun env h => (e env h).bind fun d h1 => (lo env h1).bind fun l h2 => (hi env h2).bind fun u h3 => pySlice d l u h3
def rSlAll (X : Cx) : V → Option Int → Option Int → Hp → VK → Prop := fun x lo hi H Q => rSlA X.K x lo hi H Q ∨ (rSlL X.K x lo hi H Q ∨ rSlS x lo hi H Q)
theorem cut_whole {α : Type} {xs : List α} {lo hi : Option Int} (h : HT.sIx xs.length 0 lo = 0 ∧ HT.sIx xs.length xs.length hi = xs.length) : cutA xs lo hi = xs := by
  unfold cutA
  rw [h.1, h.2]
  simp
theorem sd_slice {x : V} {d : D} {lo hi : Option Int} {H : Hp} {μ : List Addr} {h : IH} {Q : VK} {σ : L2.St} (rl : Rl X.K H μ h) (r : Rp X.K H μ x d) (p : Po X.mg X.K W (Rp X.K) σ H μ (pySlice d lo hi h) Q) : rSlAll X x lo hi H Q := by
  cases r with
  | tup s q =>
    have p2 : Po X.mg X.K W (Rp X.K) σ H μ (.val (.tup (cutA _ lo hi)) h) Q := p
    refine .inl ⟨_, _, rfl, s, fun z => ?_, fun _ pp hp => ?_⟩
    · rw [q.length] at z
      rw [cut_whole z] at p2
      exact p2.at rl (.tup s q)
    · obtain ⟨x2, rl2, rp2⟩ := new_tup rl (cutA_ok q) hp
      exact p2 _ _ _ x2 rl2 rp2
  | str z =>
    simp only [pySlice] at p
    split at p
    · exact .inr (.inr ⟨_, rfl, by assumption, p.at rl (.str _)⟩)
    · exact p.elim
  | fl s q =>
    have p2 : Po X.mg X.K W (Rp X.K) σ H μ (.val (.ref h.length) (h ++ [.lst (cutA _ lo hi)])) Q := p
    refine .inr (.inl ⟨_, _, rfl, s.sq, fun pp hp => ?_⟩)
    obtain ⟨x2, rl2, rp2⟩ := new_lst rl (cutA_ok q) hp
    exact p2 _ _ _ x2 rl2 rp2
  | ref e1 =>
    simp only [pySlice, seqL] at p
    split at p
    · rename_i ds z
      obtain ⟨vs, h1, q⟩ := lstAt_ok rl e1 z
      refine .inr (.inl ⟨_, _, rfl, SqL.of h1, fun pp hp => ?_⟩)
      obtain ⟨x2, rl2, rp2⟩ := new_lst rl (cutA_ok q) hp
      exact p _ _ _ x2 rl2 rp2
    · exact p.elim
  | _ => exact p.elim
theorem qe_slice {e : Expr} {lo hi : Option Expr} {me : ME} {ml mh : MO} {p2 : Pos} (he : QE X W e me) (hl : QO X W lo ml) (hh : QO X W hi mh) : QE X W (.Subscript e (.Slice lo hi none p2) pos) (mSl me ml mh) :=
  PE.imp (pe_slice (r := rSlAll X) (sl_tupA.or (sl_list.or sl_str)) he hl hh) fun σ H Q ⟨μ, h, env, rl, er, p⟩ =>
    ⟨μ, h, env, rl, er, Po.then (R := Rp X.K) p fun d h1 v μ1 H1 x1 rl1 rp1 p1 => ⟨μ1, h1, env, rl1, er.mono x1, Po.then (R := fun _ _ (a b : Option Int) => a = b) p1 fun l h2 l' μ2 H2 x2 rl2 e2 p2 => ⟨μ2, h2, env, rl2, er.mono (x1.trans x2), Po.then (R := fun _ _ (a b : Option Int) => a = b) p2 fun u h3 u' μ3 H3 x3 rl3 e3 p3 => by
      have e2' : l' = l := e2
      have e3' : u' = u := e3
      subst e2' e3'
      exact sd_slice rl3 (rp1.mono (x2.trans x3)) p3⟩⟩⟩
end
end DD
set_option Elab.async false
set_option linter.all false
set_option maxRecDepth 100000
/-! range of any ints -/
namespace DD
open PySem PySem.Spec L2 PyProof.Rows
theorem turn_long {P : Program} {w : World} {K : PySem.W.Frag} {tg : Expr} (it : Addr) (lo : Int) (n : Nat) : Turn P w K tg (Itr lo n) [it] it (fun i h => IsLongIter h it (lo + (i : Nat) * 1) ((n : Int) - (i : Nat)) 1) where
  mem := by simp
  obj := fun i h st b hb => by
    have z : b = it := by simpa using hb
    subst z
    refine ⟨_, st, fun v z => ?_⟩
    have z' : Data.fields _ = Data.cell v := z
    cases z'
  keep := fun i h h' st k => k it (by simp) _ st
  item := by
    intro X hP hw hK hc i pins s σ H E I hf st hg
    subst hP hw hK
    obtain ⟨f0, f1, f2, f3, f4, f5⟩ := hf it (by simp)
    refine (Walks.longrange (prog := X.prog) (w := X.w) (I.ok.hd hc) it lo 1 n).item i s _ _ hg st fun v h' tk hv st' kk => ?_
    obtain ⟨t, rfl⟩ := hv
    have J : Inv X pins σ H { s with heap := h', toks := tk } := I.turned (fun b o hb e => kk b o (by simpa using hb) e) f0 f1 f3 f4 f5
    refine ⟨_, rfl, go_of (s := { s with heap := h', toks := tk }) (n := "longrange_iterator") st' rfl rfl (by decide) ⟨.int (lo + i), H, J, ⟨t, ?_⟩, ⟨rfl, rfl⟩, st', fun b hb => (hf b hb).1⟩⟩
    rw [Int.mul_one]
  done := by
    intro X hP hw hK hc i pins s σ H E I hf st hg
    subst hP hw hK
    obtain ⟨f0, f1, f2, f3, f4, f5⟩ := hf it (by simp)
    exact wpAny_pyNext_long_end (I.ok.hd hc) st (by have : n ≤ i := hg; omega) fun h' eb => ⟨rfl, I.turned (t' := s.toks) (fun b o hb e => eb b o hb e) f0 f1 f3 f4 f5⟩
  self := fun _ _ _ _ _ st h => wpAny_pyIter_longiter st h
section
variable {X : Cx} {tg : Expr}
theorem range_any {pins : List (Addr × Obj)} {σ : L2.St} {H : Hp} {s : Shared} {R : It → Hp → Prop} {E : Value → Shared → Prop} {lo hi : Int} {t u v : Tok} {tk : Nat} (I : Inv X pins σ H s) (q : R (Itr lo (hi - lo).toNat) H) :
    wpAny (model X.prog X.w) X.A (pyIter (.ref s.heap.objs.size)) (PIE X pins σ tg R) E { s with heap := s.heap.push { cls := .type "range", data := .fields #[.int lo t, .int hi u, .int 1 v] }, toks := tk } := by
  have J : Inv X pins σ H { s with heap := s.heap.push { cls := .type "range", data := .fields #[.int lo t, .int hi u, .int 1 v] }, toks := tk } := I.kept fun b o e => Heap.get?_push_of_some _ e
  have e1 : lo + ((0 : Nat) : Int) * 1 = lo := by simp
  have e2 : (((hi - lo).toNat : Nat) : Int) - ((0 : Nat) : Int) = Builtin.Range.rangeSize lo hi 1 := by
    rw [rangeSize_one]
    split <;> omega
  have fp : ∀ b ∈ [(s.heap.push { cls := .type "range", data := .fields #[.int lo t, .int hi u, .int 1 v] }).objs.size], FpOk X pins H b := fun b hb => by
    have z := List.mem_singleton.mp hb
    subst z
    exact J.fpOk (Nat.le_refl _) (J.hok.fresh (Nat.le_refl _))
  cases hb : Builtin.Range.small lo hi 1 with
  | true =>
    refine wpAny_pyIter_range (IsRange.new ..) hb ⟨_, [_], _, _, H, rfl, J.kept (t' := tk) fun b o e => Heap.get?_push_of_some _ e, turn_range _ lo (hi - lo).toNat, ?_, fp, q⟩
    show IsRangeIter _ _ (lo + ((0 : Nat) : Int) * 1) ((((hi - lo).toNat : Nat) : Int) - ((0 : Nat) : Int)) 1
    rw [e1, e2]
    exact Heap.get?_push_size _ rfl
  | false =>
    refine wpAny_pyIter_longrange (IsRange.new ..) hb ⟨_, [_], _, _, H, rfl, J.kept (t' := tk) fun b o e => Heap.get?_push_of_some _ e, turn_long _ lo (hi - lo).toNat, ?_, fp, q⟩
    show IsLongIter _ _ (lo + ((0 : Nat) : Int) * 1) ((((hi - lo).toNat : Nat) : Int) - ((0 : Nat) : Int)) 1
    rw [e1, e2]
    exact Heap.get?_push_size _ rfl
def iRg1 (ta : TA) : TI := fun σ H R => ta σ H fun vs H1 => ∃ j : Int, vs = [.int j] ∧ R (Itr 0 j.toNat) H1
def iRg2 (ta : TA) : TI := fun σ H R => ta σ H fun vs H1 => ∃ i j : Int, vs = [.int i, .int j] ∧ R (Itr i (j - i).toNat) H1
theorem pi_rg1 {a : Expr} {ta : TA} {p pos : Pos} (hg : Gl X "range") (hm : X.mg "range" = none) (ha : PA X [a] ta) (hs : starEach [a] X.env = [(false, eval a X.env)] := by rfl) : PI X tg (.Call (.Name "range" p) [a] [] pos) (iRg1 ta) := by
  refine ⟨fun pins s σ H R I h => ?_⟩
  refine Call_ (ld_blt I hg hm boot_range (PyProof.Rows.callWith_type1 (thn (ha.run pos pins s σ H _ I h) fun us s1 ⟨vs, H1, J, r1, q1⟩ => ?_) hs rfl))
  obtain ⟨j, e, q⟩ := q1
  subst e
  cases r1 with
  | cons r rr =>
    cases rr
    obtain ⟨t, rfl⟩ := r
    exact call_range_1 (range_any J (by simpa using q))
theorem pi_rg2 {a b : Expr} {ta : TA} {p pos : Pos} (hg : Gl X "range") (hm : X.mg "range" = none) (ha : PA X [a, b] ta) (hs : starEach [a, b] X.env = [(false, eval a X.env), (false, eval b X.env)] := by rfl) (hs2 : starEach [b] X.env = [(false, eval b X.env)] := by rfl) :
    PI X tg (.Call (.Name "range" p) [a, b] [] pos) (iRg2 ta) := by
  refine ⟨fun pins s σ H R I h => ?_⟩
  refine Call_ (ld_blt I hg hm boot_range (PyProof.Rows.callWith_type1 (thn (ha.run pos pins s σ H _ I h) fun us s1 ⟨vs, H1, J, r1, q1⟩ => ?_) (by rw [hs, hs2]) (by rw [hs2]; rfl)))
  obtain ⟨i, j, e, q⟩ := q1
  subst e
  cases r1 with
  | cons r rr =>
    cases rr with
    | cons r' rr =>
      cases rr
      obtain ⟨t, rfl⟩ := r
      obtain ⟨t', rfl⟩ := r'
      exact call_range_2 (range_any J q)
end
end DD
set_option Elab.async false
set_option linter.all false
set_option maxRecDepth 100000
namespace DD
open PySem PySem.Spec L2 PyProof.Rows

section
variable {X : Cx} {W : WX} {a b c : Expr} {ma mb mc : ME} {pos : Pos}
/-! ### a dict's display -/
abbrev MP := En → IH → Res (List (D × D))
def pNil : MP := fun _ h => .val [] h
def pCons (k v : ME) (r : MP) : MP := fun env h => (k env h).bind fun x h1 => (v env h1).bind fun y h2 => (r env h2).bind fun ps h3 => .val ((x, y) :: ps) h3
def keysD : List (D × D) → Option (List (Key × D))
  | [] => some []
  | (k, v) :: r => match keyD k, keysD r with
    | some j, some s => some ((j, v) :: s)
    | _, _ => none
def mDic (m : MP) : ME := fun env h => (m env h).bind fun ps h1 => match keysD ps with
  | some kvs => if kvs.length ≤ 15 then .val (.ref h1.length) (h1 ++ [.dic (mergeD [] kvs)]) else .stk
  | none => .stk
abbrev Rpp (K : PySem.W.Frag) : Hp → List Addr → List (V × V) → List (D × D) → Prop := fun H μ vs ds => Rps K H μ (vs.map (·.1)) (ds.map (·.1)) ∧ Rps K H μ (vs.map (·.2)) (ds.map (·.2))
def QP (X : Cx) (W : WX) (pos : Pos) (ks : List (Option Expr)) (vs : List Expr) (m : MP) : Prop := ∃ trs, PPs X pos ks vs trs ∧ ∀ σ H Q, (∃ μ h env, Rl X.K H μ h ∧ EnvR X.K H μ σ env ∧ Po X.mg X.K W (Rpp X.K) σ H μ (m env h) Q) → tPairs trs σ H Q
theorem qp_nil : QP X W pos [] [] pNil := ⟨[], pps_nil, fun σ H Q ⟨μ, h, env, rl, er, p⟩ => p [] μ H .refl rl ⟨.nil, .nil⟩⟩
theorem qp_cons {k v : Expr} {ks : List (Option Expr)} {vs : List Expr} {mk mv : ME} {mr : MP} (hk : QE X W k mk) (hv : QE X W v mv) (hr : QP X W pos ks vs mr) : QP X W pos (some k :: ks) (v :: vs) (pCons mk mv mr) := by
  obtain ⟨trs, h1, h2⟩ := hr
  refine ⟨_, pps_cons hk hv h1, fun σ H Q ⟨μ, h, env, rl, er, p⟩ => ?_⟩
  exact ⟨μ, h, env, rl, er, Po.then (R := Rp X.K) p fun x h3 v1 μ1 H1 x1 rl1 rp1 p1 => ⟨μ1, h3, env, rl1, er.mono x1, Po.then (R := Rp X.K) p1 fun y h4 v2 μ2 H2 x2 rl2 rp2 p2 =>
    h2 σ H2 _ ⟨μ2, h4, env, rl2, er.mono (x1.trans x2), Po.then (R := Rpp X.K) p2 fun ps h5 vs μ3 H3 x3 rl3 rp3 p3 => p3 _ _ _ .refl rl3 ⟨.cons (rp1.mono (x2.trans x3)) rp3.1, .cons (rp2.mono x3) rp3.2⟩⟩⟩⟩
theorem keysD_ok {K : PySem.W.Frag} {H : Hp} {μ : List Addr} : ∀ {vs : List (V × V)} {ds : List (D × D)} {kvs : List (Key × D)}, Rpp K H μ vs ds → keysD ds = some kvs → ∃ kws : List (Key × V), vs = kws.map (fun kv => (kV kv.1, kv.2)) ∧ Kr K H μ kws kvs
  | [], [], _, _, e => by
    cases e
    exact ⟨[], rfl, rfl, .nil⟩
  | [], _ :: _, _, r, _ => by
    have := r.1.length
    simp at this
  | _ :: _, [], _, r, _ => by
    have := r.1.length
    simp at this
  | (x, y) :: vs, (k, v) :: ds, _, r, e => by
    obtain ⟨r1, r2⟩ := r
    rw [List.map_cons, List.map_cons] at r1 r2
    cases r1 with
    | cons a1 b1 =>
      cases r2 with
      | cons a2 b2 =>
        unfold keysD at e
        split at e
        · rename_i j s z1 z2
          cases e
          obtain ⟨kws, h1, h2⟩ := keysD_ok ⟨b1, b2⟩ z2
          have := keyD_ok a1 z1
          refine ⟨(j, y) :: kws, ?_, Kr.cons rfl a2 h2⟩
          rw [List.map_cons, h1]
          show (x, y) :: _ = (kV j, y) :: _
          rw [← this]
        · cases e
theorem Rl.out {K : PySem.W.Frag} {H : Hp} {μ : List Addr} {h : IH} {p : Addr} (rl : Rl K H μ h) (hp : H p = none) : p ∉ μ := fun z => by
  obtain ⟨n, hn, e⟩ := List.mem_iff_getElem.mp z
  exact rl.old (n := n) (by rw [List.getElem?_eq_getElem hn, e]) hp rfl
/-- a thing that stood outside the own heap is taken in, changed -/
theorem adopt {K : PySem.W.Frag} {H1 H : Hp} {μ1 μ : List Addr} {h : IH} {p : Addr} {o u : HO} {io : IO} (x : Ext K H1 μ1 H μ) (rl : Rl K H μ h) (hp1 : H1 p = none) (hp : H p = some o) (np : p ∉ μ) (ho : (∀ xs, o ≠ .tup xs) ∧ ∀ b z, o ≠ .frz b z)
    (q : ∀ {H' : Hp} {μ' : List Addr}, Mn K H μ H' μ' → H' p = some u → OkO K H' μ' p io) : Ext K H1 μ1 (upd H p u) (μ ++ [p]) ∧ Rl K (upd H p u) (μ ++ [p]) (h ++ [io]) ∧ Rp K (upd H p u) (μ ++ [p]) (.ref p) (.ref h.length) := by
  have m : Mn K H μ (upd H p u) (μ ++ [p]) := ⟨fun _ _ z => sqT_upd_mut z hp ho.1 ho.2, fun _ _ z => frzL_upd_mut z hp ho.2, fun n a z => by
    rw [List.getElem?_append_left (List.getElem?_eq_some_iff.mp z).1]
    exact z⟩
  refine ⟨⟨⟨fun a xs z => m.tup a xs (x.tup a xs z), fun a xs z => m.frz a xs (x.frz a xs z), fun n a z => m.pre n a (x.pre n a z)⟩, fun a o' z g => ?_, fun a z g => ?_⟩, ⟨?_, by rw [List.length_append, List.length_append, rl.len]; rfl, fun n a o' e1 e2 => ?_⟩, .ref ?_⟩
  · rw [upd_ne (ne_of_none z hp1)]
    exact x.keep a o' z g
  · rcases List.mem_append.mp z with z | z
    · exact x.fresh a z g
    · rw [List.mem_singleton.mp z]
      exact hp1
  · rw [List.nodup_append]
    exact ⟨rl.nd, by simp, fun a ha b hb z => np (by rw [← List.mem_singleton.mp hb, ← z]; exact ha)⟩
  · by_cases hn : n < μ.length
    · rw [List.getElem?_append_left hn] at e1
      rw [List.getElem?_append_left (by rw [← rl.len]; exact hn)] at e2
      refine (rl.ok n a o' e1 e2).mn m (upd_ne fun z => np ?_)
      rw [← z]
      exact List.mem_of_getElem? e1
    · rw [List.getElem?_append_right (by omega)] at e1
      rw [List.getElem?_append_right (by rw [← rl.len]; omega), ← rl.len] at e2
      have hz : n - μ.length = 0 := by
        have := (List.getElem?_eq_some_iff.mp e1).1
        rw [List.length_singleton] at this
        omega
      rw [hz] at e1 e2
      cases e1
      cases e2
      exact q m upd_same
  · rw [← rl.len, List.getElem?_append_right (Nat.le_refl _), Nat.sub_self]
    rfl
theorem qe_dic {ks : List (Option Expr)} {vs : List Expr} {m : MP} (hp : QP X W pos ks vs m) (hall : ks.all (·.isSome) = true := by rfl) (hl : ks.length = vs.length := by rfl) (h0 : ks ≠ [] := by exact fun z => nomatch z) (h15 : ks.length ≤ 15 := by decide) : QE X W (.Dict ks vs pos) (mDic m) := by
  obtain ⟨trs, h1, h2⟩ := hp
  refine PE.imp (pe_disp h1 hall hl h0 h15) fun σ H Q ⟨μ, h, env, rl, er, po⟩ p hp => ?_
  refine h2 σ _ _ ⟨μ, h, env, rl.new hp, er.mono (Ext.new hp), ?_⟩
  have np := rl.out hp
  have po2 := Po.then (R := Rpp X.K) po (Q' := fun ps H2 => H2 p = some (.dK []) → p ∉ (([] : List Addr)) → (∃ kvs : List (Key × V), ps = kvs.map (fun kv => (kV kv.1, kv.2)) ∧ kvs.length ≤ 15 ∧ Q (.ref p) (upd H2 p (.dK (mergeK [] kvs)))) ∨ True) fun ps h5 vs μ3 H3 x3 rl3 rp3 p3 => fun _ _ => .inr trivial
  unfold mDic at po
  revert po
  cases m env h with
  | exc z h5 =>
    intro po cls dd μ3 H3 x3 rl3 xr
    exact po cls dd μ3 H3 ((Ext.new hp).trans x3) rl3 xr
  | stk => exact fun po => po
  | val ps h5 =>
    intro po vs μ3 H3 x3 rl3 rp3
    have hk : H3 p = some (.dK []) := x3.keep p _ upd_same np
    have np3 : p ∉ μ3 := fun z => by
      have := x3.fresh p z np
      rw [upd_same] at this
      cases this
    simp only [Res.bind] at po
    split at po
    · rename_i kvs z1
      obtain ⟨kws, e1, e2⟩ := keysD_ok rp3 z1
      split at po
      · rename_i z2
        refine ⟨hk, kws, e1, by rw [e2.len]; exact z2, ?_⟩
        obtain ⟨f1, f2, f3⟩ := adopt (u := .dK (mergeK [] kws)) (io := .dic (mergeD [] kvs)) ((Ext.new (o := .dK []) hp).trans x3) rl3 hp hk np3 ⟨(fun _ z => nomatch z), (fun _ _ z => nomatch z)⟩ (fun {H' μ'} m e => by
          have r := mergeD_ok (kws := []) (kvs := []) (⟨e2.1, e2.2.mn m⟩ : Kr X.K H' μ' kws kvs) ⟨rfl, .nil⟩
          exact ⟨_, e, r.1, r.2⟩)
        exact po _ _ _ f1 f2 f3
      · exact po.elim
    · exact po.elim
/-! ### methods of built-in types -/
def mMeth (T : String) (f : D → List D → IH → Res D) (o : ME) (m : MA) : ME := fun env h => (o env h).bind fun d h1 => if tyD h1 d = some T then (m env h1).bind fun ds h2 => f d ds h2 else .stk
def SdM (X : Cx) (r : V → List V → Hp → VK → Prop) (f : D → List D → IH → Res D) : Prop := ∀ (W : WX) (σ : L2.St) (x : V) (xs : List V) (a : D) (as : List D) (H : Hp) (μ : List Addr) (h : IH) (Q : VK), Rl X.K H μ h → Rp X.K H μ x a → Rps X.K H μ xs as → Po X.mg X.K W (Rp X.K) σ H μ (f a as h) Q → r x xs H Q
theorem tyV_ok {K : PySem.W.Frag} {H : Hp} {μ : List Addr} {h : IH} {v : V} {d : D} {T : String} (hT : T = "list" ∨ T = "str" ∨ T = "dict" ∨ T = "int") (rl : Rl K H μ h) (r : Rp K H μ v d) (e : tyD h d = some T) : tyV K T v H := by
  cases r with
  | int i =>
    cases e
    rfl
  | str x =>
    cases e
    rfl
  | fl s q =>
    cases e
    exact .inl ⟨rfl, _, s.sq⟩
  | ref e1 =>
    obtain ⟨o, ho, q⟩ := rl.at e1
    simp only [tyD, ho] at e
    cases o with
    | lst ds =>
      cases e
      obtain ⟨vs, h1, _⟩ := q
      exact .inl ⟨rfl, _, SqL.of h1⟩
    | dic ds =>
      cases e
      obtain ⟨vs, h1, _⟩ := q
      exact .inr (.inr (.inl ⟨rfl, .inl ⟨_, h1⟩⟩))
  | non =>
    cases e
    rcases hT with z | z | z | z <;> exact absurd z (by decide)
  | bl b =>
    cases e
    rcases hT with z | z | z | z <;> exact absurd z (by decide)
  | tup s q =>
    cases e
    rcases hT with z | z | z | z <;> exact absurd z (by decide)
  | op v => cases e
theorem qe_meth {T id : String} {name : Str} {r : V → List V → Hp → VK → Prop} {f : D → List D → IH → Res D} {o e : Expr} {es : List Expr} {mo : ME} {mr : MA} {apos : Pos} (pa : PlainAttrs T) (slot : Slot T name id) (hty : typeOf (.builtin id) = pure (.type "method_descriptor")) (hm : MtR X id r) (sd : SdM X r f)
    (hT : T = "list" ∨ T = "str" ∨ T = "dict" ∨ T = "int") (ho : QE X W o mo) (ha : QA X W (e :: es) mr) (hbase : attributeBase o name X.env (eval o X.env) = eval o X.env := by rfl)
    (hfew : ((backTo pos (starEach (e :: es) X.env)).all (fun x => !x.1) && (backToKw pos (keywordEach [] X.env)).all (fun x => x.1.isSome)
      && decide ((e :: es).length + ([] : List Keyword).length + (if ([] : List Keyword).isEmpty then 0 else 1) < 30)) = true := by rfl)
    (hline : (apos.endLine == pos.line) = true := by rfl) (hs : starEach (e :: es) X.env = (false, eval e X.env) :: starEach es X.env := by rfl) (hplain : (backTo pos (starEach es X.env)).any (·.1) = false := by rfl) :
    QE X W (.Call (.Attribute o name apos) (e :: es) [] pos) (mMeth T f mo mr) := PE.imp (pe_bm pa slot hty hm ho ha hbase hfew hline hs hplain) fun σ H Q ⟨μ, h, env, rl, er, p⟩ =>
  ⟨μ, h, env, rl, er, Po.then (R := Rp X.K) p fun d h1 v μ1 H1 x1 rl1 rp1 p1 => by
    split at p1
    · rename_i z
      exact ⟨tyV_ok hT rl1 rp1 z, μ1, h1, env, rl1, er.mono x1, Po.then (R := Rps X.K) p1 fun ds h2 vs μ2 H2 x2 rl2 rp2 p2 => sd W σ v vs d ds H2 μ2 h2 Q rl2 (rp1.mono x2) rp2 p2⟩
    · exact p1.elim⟩
def pyAppend : D → List D → IH → Res D := fun a as h => match a, as with
  | .ref n, [y] => match lstAt h n with
    | some xs => if xs.length < sizeLine then .val .non (h.set n (.lst (xs ++ [y]))) else .stk
    | none => .stk
  | _, _ => .stk
theorem sd_append : SdM X rAppend pyAppend := by
  intro W σ x xs a as H μ h Q rl ra rs p
  unfold pyAppend at p
  split at p
  · rename_i n y
    split at p
    · rename_i ds z
      split at p
      · rename_i zl
        cases ra with
        | ref e1 =>
          cases rs with
          | cons r1 q1 =>
            cases q1
            obtain ⟨vs, h1, r2⟩ := lstAt_ok rl e1 z
            obtain ⟨x2, rl2⟩ := wr_lst rl e1 h1 (r2.append (.cons r1 .nil))
            exact ⟨_, vs, _, rfl, rfl, h1, by rw [r2.length]; exact zl, p _ _ _ x2 rl2 .non⟩
      · exact p.elim
    · exact p.elim
  · exact p.elim
theorem qe_append {o e : Expr} {mo me : ME} {apos : Pos} (ho : QE X W o mo) (he : QE X W e me) (hbase : attributeBase o "append" X.env (eval o X.env) = eval o X.env := by rfl) (hline : (apos.endLine == pos.line) = true := by rfl) (hs : starEach [e] X.env = (false, eval e X.env) :: starEach [] X.env := by rfl)
    (hfew : ((backTo pos (starEach [e] X.env)).all (fun x => !x.1) && (backToKw pos (keywordEach [] X.env)).all (fun x => x.1.isSome)
      && decide ([e].length + ([] : List Keyword).length + (if ([] : List Keyword).isEmpty then 0 else 1) < 30)) = true := by rfl) : QE X W (.Call (.Attribute o "append" apos) [e] [] pos) (mMeth "list" pyAppend mo (mCons me mNil)) :=
  qe_meth PySem.F.plainAttrs_list PySem.F.slot_list_append PySem.F.type_list_append mt_append sd_append (.inl rfl) ho (qa_cons he qa_nil hs) hbase hfew hline hs

/-! ### what is walked -/
def signsD (z : Str) : List D := z.cps.toList.map fun c => .str ⟨#[c]⟩
def srcD (d : D) (h : IH) : Res Src := match d with
  | .tup ds => .val (.st ds) h
  | .fl ds => .val (.st ds) h
  | .str z => .val (.st (signsD z)) h
  | .ref n => match lstAt h n with
    | some _ => .val (.lv fun h => lstAt h n) h
    | none => .stk
  | _ => .stk
def mIt (a : ME) : MI := fun env h => (a env h).bind srcD
theorem JOk.tup {K : PySem.W.Frag} {H : Hp} {μ : List Addr} {a : Addr} {vs : List V} {ds : List D} (s : SqT K H a vs) (q : Rps K H μ vs ds) (hinj : ∀ H' xs, SqT K H' a vs → SqT K H' a xs → True) : JOk K H μ (Itt K a) (.st ds) := by
  intro H1 μ1 h1 es x rl e
  cases e
  have s1 := x.tup _ _ s
  have q1 := q.mono x
  refine ⟨fun i d hi => ?_, fun i hi => ⟨vs, s1, by rw [q.length]; exact Nat.le_of_eq (show i = ds.length from hi).symm⟩⟩
  obtain ⟨v, h2, h3⟩ := q1.get hi
  refine ⟨⟨vs, v, s1, h2⟩, fun y H' hy => ?_⟩
  obtain ⟨rfl, hy⟩ := hy
  have := hy vs s1
  rw [h2] at this
  cases this
  exact ⟨.refl, rl, h3⟩
theorem JOk.frz {K : PySem.W.Frag} {H : Hp} {μ : List Addr} {a : Addr} {vs : List V} {ds : List D} (s : FrzL K H a vs) (q : Rps K H μ vs ds) : JOk K H μ (Itl K a) (.st ds) := by
  intro H1 μ1 h1 es x rl e
  cases e
  have s1 := (x.frz _ _ s).sq
  have q1 := q.mono x
  refine ⟨fun i d hi => ?_, fun i hi => ⟨vs, s1, by rw [q.length]; exact Nat.le_of_eq (show i = ds.length from hi).symm⟩⟩
  obtain ⟨v, h2, h3⟩ := q1.get hi
  refine ⟨⟨vs, v, s1, h2⟩, fun y H' hy => ?_⟩
  obtain ⟨rfl, hy⟩ := hy
  have := hy vs s1
  rw [h2] at this
  cases this
  exact ⟨.refl, rl, h3⟩
theorem JOk.lst {K : PySem.W.Frag} {H : Hp} {μ : List Addr} {a : Addr} {n : Nat} (s : μ[n]? = some a) : JOk K H μ (Itl K a) (.lv fun h => lstAt h n) := by
  intro H1 μ1 h1 es x rl e
  have e1 := x.pre _ _ s
  obtain ⟨vs, h9, q1⟩ := lstAt_ok rl e1 e
  have s1 : SqL K H1 a vs := SqL.of h9
  refine ⟨fun i d hi => ?_, fun i hi => ⟨vs, s1, by rw [q1.length]; exact hi⟩⟩
  obtain ⟨v, h2, h3⟩ := q1.get hi
  refine ⟨⟨vs, v, s1, h2⟩, fun y H' hy => ?_⟩
  obtain ⟨rfl, hy⟩ := hy
  have := hy vs s1
  rw [h2] at this
  cases this
  exact ⟨.refl, rl, h3⟩
theorem JOk.str {K : PySem.W.Frag} {H : Hp} {μ : List Addr} {z : Str} : JOk K H μ (Its z) (.st (signsD z)) := by
  intro H1 μ1 h1 es x rl e
  cases e
  refine ⟨fun i d hi => ?_, fun i hi => ?_⟩
  · unfold signsD at hi
    rw [List.getElem?_map] at hi
    obtain ⟨c, h2, rfl⟩ := Option.map_eq_some_iff.mp hi
    have h3 : z.cps[i]? = some c := by simpa using h2
    have h4 : i < z.cps.size := (Array.getElem?_eq_some_iff.mp h3).1
    refine ⟨h4, fun y H' hy => ?_⟩
    obtain ⟨rfl, c', e1, rfl⟩ := hy
    rw [h3] at e1
    cases e1
    exact ⟨.refl, rl, .str _⟩
  · unfold signsD at hi
    have hi2 : i = (List.map (fun c => D.str ⟨#[c]⟩) z.cps.toList).length := hi
    rw [List.length_map, Array.length_toList] at hi2
    exact Nat.le_of_eq hi2.symm
theorem qi_val {tg : Expr} (ha : QE X W a ma) : QI X W tg a (mIt ma) := PI.imp (PI.or (pi_list ha) (PI.or (pi_tup ha) (pi_str ha))) fun σ H R ⟨μ, h, env, rl, er, p⟩ => by
  unfold mIt at p
  cases z : ma env h with
  | exc y h1 =>
    rw [z] at p
    exact .inl ⟨μ, h, env, rl, er, by rw [z]; exact p⟩
  | stk =>
    rw [z] at p
    exact p.elim
  | val d h1 =>
    rw [z] at p
    have p' : Po X.mg X.K W (JOk X.K) σ H μ (srcD d h1) R := p
    cases d with
    | tup ds =>
      refine .inr (.inl ⟨μ, h, env, rl, er, ?_⟩)
      rw [z]
      intro v μ1 H1 x1 rl1 r1
      cases r1 with
      | tup s q => exact ⟨_, rfl, ⟨_, s⟩, p' _ μ1 H1 x1 rl1 (JOk.tup s q fun _ _ _ _ => trivial)⟩
    | fl ds =>
      refine .inl ⟨μ, h, env, rl, er, ?_⟩
      rw [z]
      intro v μ1 H1 x1 rl1 r1
      cases r1 with
      | fl s q => exact ⟨_, rfl, ⟨_, s.sq⟩, p' _ μ1 H1 x1 rl1 (JOk.frz s q)⟩
    | str x =>
      refine .inr (.inr ⟨μ, h, env, rl, er, ?_⟩)
      rw [z]
      intro v μ1 H1 x1 rl1 r1
      cases r1
      exact ⟨x, rfl, p' _ μ1 H1 x1 rl1 JOk.str⟩
    | ref n =>
      refine .inl ⟨μ, h, env, rl, er, ?_⟩
      rw [z]
      intro v μ1 H1 x1 rl1 r1
      simp only [srcD] at p'
      split at p'
      · rename_i ds z2
        cases r1 with
        | ref e1 =>
          obtain ⟨vs, h2, _⟩ := lstAt_ok rl1 e1 z2
          exact ⟨_, rfl, ⟨vs, SqL.of h2⟩, p' _ μ1 H1 x1 rl1 (JOk.lst e1)⟩
      · exact p'.elim
    | _ => exact p'.elim
def rangeD (lo : Int) (n : Nat) : List D := (List.range n).map fun i => .int (lo + (i : Nat))
theorem rangeD_get {lo : Int} {n i : Nat} {d : D} (h : (rangeD lo n)[i]? = some d) : i < n ∧ d = .int (lo + (i : Nat)) := by
  unfold rangeD at h
  rw [List.getElem?_map] at h
  obtain ⟨j, h1, rfl⟩ := Option.map_eq_some_iff.mp h
  have h2 : i < n := by
    have := (List.getElem?_eq_some_iff.mp h1).1
    rw [List.length_range] at this
    exact this
  rw [List.getElem?_range h2] at h1
  cases h1
  exact ⟨h2, rfl⟩
theorem JOk.rng {K : PySem.W.Frag} {H : Hp} {μ : List Addr} {lo : Int} {n : Nat} : JOk K H μ (Itr lo n) (.st (rangeD lo n)) := by
  intro H1 μ1 h1 es x rl e
  cases e
  refine ⟨fun i d hi => ?_, fun i hi => ?_⟩
  · obtain ⟨h2, rfl⟩ := rangeD_get hi
    refine ⟨h2, fun y H' hy => ?_⟩
    obtain ⟨rfl, rfl⟩ := hy
    exact ⟨.refl, rl, .int _⟩
  · unfold rangeD at hi
    have hi2 : i = (List.map (fun i : Nat => D.int (lo + (i : Int))) (List.range n)).length := hi
    rw [List.length_map, List.length_range] at hi2
    exact Nat.le_of_eq hi2.symm
def mRng1 (a : ME) : MI := fun env h => (a env h).bind fun d h1 => match d with
  | .int j => .val (.st (rangeD 0 j.toNat)) h1
  | _ => .stk
def mRng2 (a b : ME) : MI := fun env h => (a env h).bind fun x h1 => (b env h1).bind fun y h2 => match x, y with
  | .int i, .int j => .val (.st (rangeD i (j - i).toNat)) h2
  | _, _ => .stk
theorem qi_range1 {tg : Expr} {p : Pos} (hm : X.mg "range" = none) (ha : QE X W a ma) (hg : Gl X "range" := by rfl) (hs : starEach [a] X.env = [(false, eval a X.env)] := by rfl) : QI X W tg (.Call (.Name "range" p) [a] [] pos) (mRng1 ma) :=
  PI.imp (pi_rg1 hg hm (pa_cons ha pa_nil hs) hs) fun σ H R ⟨μ, h, env, rl, er, p⟩ => ⟨μ, h, env, rl, er, Po.then (R := Rp X.K) p fun d h1 v μ1 H1 x1 rl1 rp1 p1 => by
    split at p1
    · cases rp1
      exact ⟨_, rfl, p1 _ _ _ .refl rl1 JOk.rng⟩
    · exact p1.elim⟩
theorem qi_range2 {tg : Expr} {p : Pos} (hm : X.mg "range" = none) (ha : QE X W a ma) (hb : QE X W b mb) (hg : Gl X "range" := by rfl) (hs : starEach [a, b] X.env = [(false, eval a X.env), (false, eval b X.env)] := by rfl) (hs2 : starEach [b] X.env = [(false, eval b X.env)] := by rfl) :
    QI X W tg (.Call (.Name "range" p) [a, b] [] pos) (mRng2 ma mb) :=
  PI.imp (pi_rg2 hg hm (pa_cons ha (pa_cons hb pa_nil hs2) (by rw [hs, hs2])) hs hs2) fun σ H R ⟨μ, h, env, rl, er, p⟩ => ⟨μ, h, env, rl, er, Po.then (R := Rp X.K) p fun d h1 v μ1 H1 x1 rl1 rp1 p1 => ⟨μ1, h1, env, rl1, er.mono x1, Po.then (R := Rp X.K) p1 fun e h2 v2 μ2 H2 x2 rl2 rp2 p2 => by
    split at p2
    · have rp1' := rp1.mono x2
      cases rp1'
      cases rp2
      exact ⟨_, _, rfl, p2 _ _ _ .refl rl2 JOk.rng⟩
    · exact p2.elim⟩⟩
def enumD (i : Nat) : List D → List D
  | [] => []
  | d :: ds => .tup [.int (i : Nat), d] :: enumD (i + 1) ds
theorem enumD_length : ∀ (ds : List D) (i : Nat), (enumD i ds).length = ds.length
  | [], _ => rfl
  | d :: ds, i => by
    unfold enumD
    rw [List.length_cons, List.length_cons, enumD_length ds]
theorem enumD_get : ∀ {ds : List D} {i k : Nat} {e : D}, (enumD k ds)[i]? = some e → ∃ d, ds[i]? = some d ∧ e = .tup [.int ((k + i : Nat) : Int), d]
  | [], i, k, e, h => by
    unfold enumD at h
    simp at h
  | d :: ds, 0, k, e, h => by
    unfold enumD at h
    simp at h
    subst h
    exact ⟨d, rfl, by rw [Nat.add_zero]⟩
  | d :: ds, i + 1, k, e, h => by
    unfold enumD at h
    obtain ⟨d', h1, h2⟩ := enumD_get (ds := ds) (i := i) (k := k + 1) (e := e) (by simpa using h)
    exact ⟨d', by simpa using h1, by rw [h2, show k + 1 + i = k + (i + 1) by omega]⟩
def enSrc (d : D) (h : IH) : Res Src := match d with
  | .tup ds => .val (.st (enumD 0 ds)) h
  | .str z => .val (.st (enumD 0 (signsD z))) h
  | .fl ds => .val (.st (enumD 0 ds)) h
  | .ref n => match lstAt h n with
    | some _ => .val (.lv fun h => (lstAt h n).map (enumD 0)) h
    | none => .stk
  | _ => .stk
def mEn (a : ME) : MI := fun env h => (a env h).bind enSrc
theorem new_pair {K : PySem.W.Frag} {H : Hp} {μ : List Addr} {h : IH} {T : Addr} {i : Nat} {v : V} {d : D} (rl : Rl K H μ h) (hT : H T = none) (r : Rp K H μ v d) : Ext K H μ (upd H T (.tup [.int (i : Nat), v])) μ ∧ Rl K (upd H T (.tup [.int (i : Nat), v])) μ h ∧ Rp K (upd H T (.tup [.int (i : Nat), v])) μ (.ref T) (.tup [.int ((0 + i : Nat) : Int), d]) := by
  rw [Nat.zero_add]
  exact new_tup rl (.cons (.int _) (.cons r .nil)) hT
theorem qi_enum {elts : List Expr} {kk : Nat} {tpos p : Pos} (hm : X.mg "enumerate" = none) (ha : QE X W a ma) (hg : Gl X "enumerate" := by rfl) (hs : starEach [a] X.env = [(false, eval a X.env)] := by rfl) : QI X W (.Tuple elts kk tpos) (.Call (.Name "enumerate" p) [a] [] pos) (mEn ma) :=
  PI.imp (PI.or (pi_enum hg hm (pa_cons ha pa_nil hs) hs) (PI.or (pi_enT hg hm (pa_cons ha pa_nil hs) hs) (pi_enS hg hm (pa_cons ha pa_nil hs) hs))) fun σ H R ⟨μ, h, env, rl, er, p⟩ => by
  unfold mEn at p
  cases z : ma env h with
  | exc y h1 =>
    rw [z] at p
    exact .inl ⟨μ, h, env, rl, er, by rw [z]; exact p⟩
  | stk =>
    rw [z] at p
    exact p.elim
  | val d h1 =>
    rw [z] at p
    have p' : Po X.mg X.K W (JOk X.K) σ H μ (enSrc d h1) R := p
    cases d with
    | tup ds =>
      refine .inr (.inl ⟨μ, h, env, rl, er, ?_⟩)
      rw [z]
      intro v μ1 H1 x1 rl1 r1
      cases r1 with
      | tup s q =>
        refine ⟨_, _, rfl, s, p' _ μ1 H1 x1 rl1 ?_⟩
        intro H2 μ2 h2 es x rl2 e
        cases e
        have s2 := x.tup _ _ s
        have q2 := q.mono x
        refine ⟨fun i d hi => ?_, fun i hi => ?_⟩
        · obtain ⟨d', e1, rfl⟩ := enumD_get hi
          obtain ⟨v, e2, e3⟩ := q2.get e1
          refine ⟨⟨_, v, s2, e2⟩, fun y H' hy => ?_⟩
          obtain ⟨T, w, rfl, hT, rfl, hw⟩ := hy
          have := hw _ s2
          rw [e2] at this
          cases this
          exact new_pair rl2 hT e3
        · refine ⟨_, s2, ?_⟩
          have hi2 : i = (enumD 0 ds).length := hi
          rw [enumD_length] at hi2
          rw [q.length]
          exact hi2.symm
    | fl ds =>
      refine .inl ⟨μ, h, env, rl, er, ?_⟩
      rw [z]
      intro v μ1 H1 x1 rl1 r1
      cases r1 with
      | fl s q =>
        refine ⟨_, _, rfl, s.sq, p' _ μ1 H1 x1 rl1 ?_⟩
        intro H2 μ2 h2 es x rl2 e
        cases e
        have s2 := (x.frz _ _ s).sq
        have q2 := q.mono x
        refine ⟨fun i d hi => ?_, fun i hi => ⟨_, s2, by rw [q.length, ← enumD_length _ 0]; exact Nat.le_of_eq (show i = (enumD 0 ds).length from hi).symm⟩⟩
        obtain ⟨d', e1, rfl⟩ := enumD_get hi
        obtain ⟨v, e2, e3⟩ := q2.get e1
        refine ⟨⟨_, v, s2, e2⟩, fun y H' hy => ?_⟩
        obtain ⟨T, w, rfl, hT, rfl, hw⟩ := hy
        have := hw _ s2
        rw [e2] at this
        cases this
        exact new_pair rl2 hT e3
    | str x =>
      refine .inr (.inr ⟨μ, h, env, rl, er, ?_⟩)
      rw [z]
      intro v μ1 H1 x1 rl1 r1
      cases r1
      refine ⟨x, rfl, p' _ μ1 H1 x1 rl1 ?_⟩
      intro H2 μ2 h2 es x2 rl2 e
      cases e
      refine ⟨fun i d hi => ?_, fun i hi => ?_⟩
      · obtain ⟨d', e1, rfl⟩ := enumD_get hi
        unfold signsD at e1
        rw [List.getElem?_map] at e1
        obtain ⟨c, e2, rfl⟩ := Option.map_eq_some_iff.mp e1
        have e3 : x.cps[i]? = some c := by simpa using e2
        have h4 : i < x.cps.size := (Array.getElem?_eq_some_iff.mp e3).1
        refine ⟨h4, fun y H' hy => ?_⟩
        obtain ⟨T, w, rfl, hT, rfl, hw⟩ := hy
        rw [e3] at hw
        cases hw
        exact new_pair rl2 hT (.str _)
      · have hi2 : i = (enumD 0 (signsD x)).length := hi
        rw [enumD_length] at hi2
        unfold signsD at hi2
        rw [List.length_map, Array.length_toList] at hi2
        exact hi2
    | ref n =>
      refine .inl ⟨μ, h, env, rl, er, ?_⟩
      rw [z]
      intro v μ1 H1 x1 rl1 r1
      simp only [enSrc] at p'
      split at p'
      · rename_i ds z2
        cases r1 with
        | ref e1 =>
          obtain ⟨vs, h2, _⟩ := lstAt_ok rl1 e1 z2
          refine ⟨_, _, rfl, SqL.of h2, p' _ μ1 H1 x1 rl1 ?_⟩
          intro H2 μ2 h2 es x rl2 e
          obtain ⟨fs, e3, rfl⟩ := Option.map_eq_some_iff.mp e
          obtain ⟨ws, h3, q2⟩ := lstAt_ok rl2 (x.pre _ _ e1) e3
          have s2 : SqL X.K H2 _ ws := SqL.of h3
          refine ⟨fun i d hi => ?_, fun i hi => ⟨_, s2, by rw [q2.length, ← enumD_length _ 0]; exact hi⟩⟩
          obtain ⟨d', e1, rfl⟩ := enumD_get hi
          obtain ⟨v, e2, e3⟩ := q2.get e1
          refine ⟨⟨_, v, s2, e2⟩, fun y H' hy => ?_⟩
          obtain ⟨T, w, rfl, hT, rfl, hw⟩ := hy
          have := hw _ s2
          rw [e2] at this
          cases this
          exact new_pair rl2 hT e3
      · exact p'.elim
    | _ => exact p'.elim
end
end DD
set_option Elab.async false
set_option linter.all false
set_option maxRecDepth 100000
namespace DD
open PySem PySem.Spec L2 PyProof.Rows

theorem lawG {P : Program} {w : World} {K : PySem.W.Frag} {mg mb : MG} {k : Nat} {fa a : Addr} {fd : FuncData} {x : Str} {sp : Sp} {t : Shared} {vs : List Value} {ns : List Int}
    (KI : K.In t.heap) (gn : t.heap.Ns mainGlobals mg) (bn : t.heap.Ns builtinsNs mb) (bb : ∀ y : Str, y ≠ "__name__" → mb y = bootBuiltins y) (nl : t.heap.NoLimit) (g0 : t.gens = #[])
    (ha : t.heap.get? a = some { cls := .type "list", data := .seq vs.toArray }) (hi : IntsAre vs ns) (hl : ns.length ≤ sizeLine) (ro : Room k callerA)
    (F : ∀ base : Heap, K.In base → base.Ns mainGlobals mg → FnG P w K mg base k fa fd [x] sp) (bi : ∀ (s : Shared) (u : Value), BindsTo s fd ⟨[u], []⟩ [(x, u)])
    (hs : ∀ H : Hp, Only H → SqL K H a (ns.map V.int) → sp [.ref a] H (fun v _ => v = .bl true) fun _ _ _ => False) :
    codeAny (model P w) callerA (.call (.ref fa) ⟨[.ref a], []⟩) (fun r t' => r = .ok (.ret (.bool true)) ∧ OldK t.heap t'.heap ∧ t'.os = t.os ∧ AllBare t'.gens) t := by
  have rv := vals_ints hi
  have lv := hi.length
  have main : ∀ H : Hp, Only H → SqL K H a (ns.map V.int) → HOk P w H t.heap → (∀ b, H b ≠ none → b = a) → (H a ≠ none → K.lookup a = none) →
      codeAny (model P w) callerA (.call (.ref fa) ⟨[.ref a], []⟩) (fun r t' => r = .ok (.ret (.bool true)) ∧ OldK t.heap t'.heap ∧ t'.os = t.os ∧ AllBare t'.gens) t := by
    intro H oH sH hk oA kA
    have noD : ∀ {b : Addr} {o : Obj} {es : Array DictEntry} {ep : Nat}, t.heap.get? b = some o → o.data = .dict es ep → H b = none := fun {b o es ep} e d => by
      cases q : H b with
      | none => rfl
      | some u =>
        have z : b = a := oA b (by rw [q]; simp)
        subst z
        rw [ha] at e
        cases e
        have d2 : Data.seq vs.toArray _ = Data.dict es ep := d
        cases d2
    have nk : ∀ {b : Addr} {m : Str → Option Value}, t.heap.Ns b m → (hidT t.heap H).Ns b m := fun {b m} ⟨o, es, ep, e, d, r⟩ => ⟨o, es, ep, hidT_get e (noD e d), d, r⟩
    have kb : K.In (hidT t.heap H) := fun b o e => hidT_get (KI b o e) (by
      cases q : H b with
      | none => rfl
      | some u =>
        have z : b = a := oA b (by rw [q]; simp)
        subst z
        rw [kA (by rw [q]; simp)] at e
        cases e)
    have mo : Mod K mg (hidT t.heap H) := ⟨kb, nk gn, ⟨mb, nk bn, bb⟩, let ⟨mc, z1, z2⟩ := nl; ⟨mc, nk z1, z2⟩⟩
    have en : Env0 P w K mg (hidT t.heap H) callerA [] t H := ⟨rfl, mo, fun b o e => of_hidT e, Nat.le_of_eq (hidT_size _ _), trivial, fun b z => absurd (show b ∈ ([] : List Addr) from z) (by simp), hk, .of_eq g0⟩
    refine codeAny_mono ((F _ kb (nk gn)).run callerA [] t H ⟨[.ref a], []⟩ [.ref a] [.ref a] _ _ rfl ro en (bi t (.ref a)) (.cons rfl .nil) (hs H oH sH)) fun r t' hz => ?_
    cases r with
    | error e =>
      obtain ⟨_, _, _, _, _, _, _, _, _, _, _, _, z⟩ := hz
      exact z.elim
    | ok fl =>
      cases fl with
      | next => exact hz.elim
      | brk => exact hz.elim
      | cont => exact hz.elim
      | ret u =>
        obtain ⟨v, H2, os, bare, un, hk2, r2, q⟩ := hz
        have q2 : v = .bl true := q
        subst q2
        obtain rfl : u = Value.bool true := r2
        refine ⟨rfl, OldK.of_keep fun b o e => ?_, os, bare⟩
        cases q : H b with
        | none => exact un.keep b o e q (by intro z; exact absurd (show b ∈ ([] : List Addr) from z) (by simp)) (by simp)
        | some u =>
          rcases oH b with z | ⟨ob, xs, z⟩
          · rw [q] at z
            cases z
          · have z2 := un.frzs b ob _ z
            obtain ⟨e1, _⟩ := hk b _ z
            obtain ⟨e2, _⟩ := hk2 b _ z2
            rw [e] at e1
            cases e1
            exact e2
  cases kz : K.lookup a with
  | some o =>
    have e := KI a o kz
    rw [ha] at e
    cases e
    refine main (fun _ => none) (fun _ => .inl rfl) (.inr ⟨_, vs.toArray, _, kz, rfl, rfl, rfl, by rw [List.size_toArray, lv]; exact hl, by simpa using rv⟩) (fun b u z => ?_) (fun b z => absurd rfl z) fun z => absurd rfl z
    have z2 : (none : Option HO) = some u := z
    cases z2
  | none =>
    refine main (fun b => if b = a then some (.frz { cls := .type "list", data := .seq vs.toArray } (.lst (ns.map V.int))) else none) (fun b => ?_) (.inl (.inr ⟨{ cls := .type "list", data := .seq vs.toArray }, if_pos rfl⟩)) (fun b u z => ?_) (fun b z => ?_) fun _ => kz
    · by_cases hb : b = a
      · exact .inr ⟨_, _, if_pos hb⟩
      · exact .inl (if_neg hb)
    · by_cases hb : b = a
      · have z2 := (if_pos hb).symm.trans z
        cases z2
        subst hb
        exact ⟨ha, by rw [List.length_map]; exact hl, vs, _, rv, ha⟩
      · have z2 := (if_neg hb).symm.trans z
        cases z2
    · by_cases hb : b = a
      · exact hb
      · exact absurd (if_neg hb) z
/-- the script as data -/
abbrev scr (ns : List Int) : D := .fl (ns.map D.int)
theorem rps_ints {K : PySem.W.Frag} {H : Hp} {μ : List Addr} : ∀ ns : List Int, Rps K H μ (ns.map V.int) (ns.map D.int)
  | [] => .nil
  | n :: ns => .cons (.int n) (rps_ints ns)
theorem sp_law {mg : MG} {K : PySem.W.Frag} {m : List D → IH → Res D} {H : Hp} {a : Addr} {ns : List Int} (oH : Only H) (s : SqL K H a (ns.map V.int)) (hm : ∃ h', m [scr ns] [] = .val (.bl true) h') : spM mg K m 1 [.ref a] H (fun v _ => v = .bl true) fun _ _ _ => False := by
  have f : FrzL K H a (ns.map V.int) := by
    rcases s with (s | s) | s
    · rcases oH a with z | ⟨o, xs, z⟩
      · rw [s] at z
        cases z
      · rw [s] at z
        cases z
    · exact .inl s
    · exact .inr s
  refine ⟨rfl, [], [], [scr ns], ⟨List.nodup_nil, rfl, fun n a o e => by simp at e⟩, .cons (.fl f (rps_ints ns)) .nil, ?_⟩
  obtain ⟨h', e⟩ := hm
  rw [e]
  intro v μ' H' x rl r
  exact r.bl_inv
theorem walk_G {l : PySem.W.OpenLaw} {n k : Nat} {q : Program} {loose : List Str} {XP : MG → Heap → Prop} {YP : World → Heap → Prop} {d : DefRec} {x : Str}
    (hn : l.most = some n) (hn2 : n ≤ sizeLine) (hdf : d.params.defaults = []) (ro : Room k callerA)
    (F : ∀ (w : World) (mg : MG) (fa : Addr) (h : Heap), YP w h → h.Ns mainGlobals mg → mg d.name = some (.ref fa) →
      ∃ (K : PySem.W.Frag) (fd : FuncData) (m : List D → IH → Res D), K.In h ∧ (∀ (s : Shared) (u : Value), BindsTo s fd ⟨[u], []⟩ [(x, u)]) ∧ (∀ ns : List Int, ns.length ≤ n → ∃ h', m [scr ns] [] = .val (.bl true) h') ∧
        ∀ base : Heap, K.In base → base.Ns mainGlobals mg → FnG l.prog w K mg base k fa fd [x] (spM mg K m 1)) :
    PySem.W.WalkO q loose XP YP l.row.toRowW d [] (fun f vs => PySem.call f vs) := by
  refine Att.attach_call hn hdf fun w s0 s1 mg mb fa o pm cd doc a vs ns G Y ho hd hcd hmg hobj hints hlen hg => ?_
  obtain ⟨K, fd, m, KX, hb, hm, hF⟩ := F w mg fa _ Y G.T.g hmg
  exact lawG KX G.T.g G.T.b G.T.builtins G.T.nolimit hg hobj hints (Nat.le_trans hlen hn2) ro hF hb fun H hO hS => sp_law hO hS (hm ns hlen)
end DD
set_option Elab.async false
set_option linter.all false
set_option maxRecDepth 100000
namespace DD
open PySem PySem.Spec L2 PyProof.Rows
section
variable {P : Program} {w : World} {K : PySem.W.Frag} {mg : MG} {base : Heap} {k : Nat} {x : Str} {st : Stmt} {f : Addr} {fd : FuncData} {N ps : List Str} {m : MS}
theorem FunD.toFun (F : FunD K x x (defArgs st) (defBody st) (defScope st) [] [] f fd) : Fun K x x st f fd := by
  obtain ⟨oc, od, dV, kV, doc, pm, an, cdv, ct, osl, e, lk, hc, hD, hK⟩ := F.ex
  rcases hD with ⟨_, rfl⟩ | ⟨z, _⟩
  · exact ⟨⟨oc, od, kV, doc, pm, an, cdv, ct, osl, e, lk, hc⟩, F.kp⟩
  · exact absurd rfl z
theorem mk_fnG (F : FunD K x x (defArgs st) (defBody st) (defScope st) [] [] f fd) (S : FnScope N ps (defScope st))
    (hb : ∀ (cv : Value) (A : Around) (out : List Env) (s : Shared) (H : Hp) (E : XK), Ctx (cxOf (CX P w) P w K mg base N x (defScope st) f cv A out s H E) (fun c d _ H' => E c d H') k →
      QSs (cxOf (CX P w) P w K mg base N x (defScope st) f cv A out s H E) (fun c d _ H' => E c d H') (defBody st) m) :
    FnG P w K mg base (k + 1) f fd ps (spM mg K (mBody N.length m) ps.length) := fn_ok (FunD.toFun F) S hb
theorem mk_fn (F : FunD K x x (defArgs st) (defBody st) (defScope st) [] [] f fd) (S : FnScope N ps (defScope st)) (hm : mg x = some (.ref f))
    (h : ∀ (kV doc pm : Value) (an : Option Addr) (cdv ct : Value) (us : List Value), us.length = ps.length → bindArgs (PySem.W.fnOf x x (defArgs st) (defBody st) (defScope st) .none kV doc pm an cdv ct) ⟨us, []⟩ = pure (ps.zip us))
    (hb : ∀ (cv : Value) (A : Around) (out : List Env) (s : Shared) (H : Hp) (E : XK), Ctx (cxOf (CX P w) P w K mg base N x (defScope st) f cv A out s H E) (fun c d _ H' => E c d H') k →
      QSs (cxOf (CX P w) P w K mg base N x (defScope st) f cv A out s H E) (fun c d _ H' => E c d H') (defBody st) m) :
    Fn P w K mg base (k + 1) x (mBody N.length m) ps.length := ⟨⟨f, fd, ps, mk_fnG F S hb, hm, F.kp, FunD.bindsN F h⟩⟩
end
section
variable {X : Cx} {W : WX} {pos : Pos}
theorem qe_gint {x : Str} {i : Int} (h : ∃ t, X.mg x = some (.int i t)) (hg : Gl X x := by rfl) (hd : (x == ("__debug__" : Str)) = false := by decide) : QE X W (.Name x pos) (mC (.int i)) := by
  obtain ⟨t, h⟩ := h
  exact qe_glob (v := .int i) h ⟨t, rfl⟩ (fun _ _ => .int i) hg hd
theorem qe_gstr {x z : Str} (h : ∃ t, X.mg x = some (.str z t)) (hg : Gl X x := by rfl) (hd : (x == ("__debug__" : Str)) = false := by decide) : QE X W (.Name x pos) (mC (.str z)) := by
  obtain ⟨t, h⟩ := h
  exact qe_glob (v := .str z) h ⟨t, rfl⟩ (fun _ _ => .str z) hg hd
theorem qe_call0 {k j : Nat} {x : Str} {m : List D → IH → Res D} {p : Pos} (C : Ctx X W k) (F : Fn X.prog X.w X.K X.mg X.base j x m 0) (hj : j ≤ k := by decide) (hg : Gl X x := by rfl) (hdb : (x == ("__debug__" : Str)) = false := by decide) : QE X W (.Call (.Name x p) [] [] pos) (mCall m mNil) := by
  obtain ⟨f, fd, ps, G, hm, hk, hb⟩ := F.ex
  refine ⟨fun pins s σ H Q I ⟨μ, h, env, rl, er, po⟩ => ?_⟩
  refine wpAny_Call_Name_kw (ld_glob I hg hm ?_ hdb)
  have pa : spM X.mg X.K m 0 [] H Q (WE W σ) := by
    refine ⟨rfl, μ, h, [], rl, .nil, ?_⟩
    have po2 : Po X.mg X.K W (Rp X.K) σ H μ (m [] h) Q := po
    revert po2
    cases m [] h with
    | val d h2 => exact fun q => q
    | exc y h2 => exact fun q => q
    | stk => exact fun q => q
  exact PySem.W.callWith_K0 I.kIn hk (run_fnG G C.gd (C.room.mono hj) hb (passAt C.tk σ) I .nil pa)
/-- x += e: ints, texts -/
def pyIAdd : D → D → IH → Res D
  | .int i, .int j, h => .val (.int (i + j)) h
  | .str x, .str y, h => if x.length + y.length ≤ sizeLine then .val (.str (x ++ y)) h else .stk
  | _, _, _ => .stk
def rIAdd : R2 := fun x y H Q => rI0 (fun i j => .int (i + j)) x y H Q ∨ ∃ i j, x = .str i ∧ y = .str j ∧ i.length + j.length ≤ sizeLine ∧ Q (.str (i ++ j)) H
theorem ip_addD : PIp X .Add rIAdd := OpR.or iop_add iop_add_str
theorem sd_ipadd : Sd2 X rIAdd pyIAdd := by
  intro W σ x y a b H μ h Q rl ra rb p
  cases ra with
  | int i =>
    cases rb <;> first | exact p.elim | skip
    exact .inl ⟨_, _, rfl, rfl, p.at rl (.int _)⟩
  | str i =>
    cases rb <;> first | exact p.elim | skip
    simp only [pyIAdd] at p
    split at p
    · exact .inr ⟨_, _, rfl, rfl, by assumption, p.at rl (.str _)⟩
    · exact p.elim
  | _ => exact p.elim
theorem sd_ipsub : Sd2 X (ipI fun i j => i - j) pySub := by
  intro W σ x y a b H μ h Q rl ra rb p
  cases ra <;> first | exact p.elim | skip
  cases rb <;> first | exact p.elim | skip
  exact ⟨_, _, rfl, rfl, p.at rl (.int _)⟩
end
end DD
set_option Elab.async false
set_option linter.all false
set_option maxRecDepth 100000
/-! lemmas for running the data functions on letters -/
namespace DD
open PySem L2
theorem na10 : Int.natAbs 10 = 10 := rfl
theorem na2 : Int.natAbs 2 = 2 := rfl
theorem lstAt_last (h : IH) (ys : List D) : lstAt (h ++ [.lst ys]) h.length = some ys := by
  unfold lstAt
  rw [List.getElem?_append_right (Nat.le_refl _), Nat.sub_self]
  rfl
theorem getE_app {h : IH} {n : Nat} {o : IO} (e : h[n]? = some o) (g : IH) : (h ++ g)[n]? = some o := by
  rw [List.getElem?_append_left (List.getElem?_eq_some_iff.mp e).1]
  exact e
theorem lstAt_app {h : IH} {n : Nat} {ys : List D} (e : lstAt h n = some ys) (g : IH) : lstAt (h ++ g) n = some ys := by
  unfold lstAt at e ⊢
  split at e
  · rename_i ds z
    rw [getE_app z g]
    exact e
  · cases e
theorem mapO_map {α β γ : Type} {f : β → Option γ} {g : α → β} {k : α → γ} : ∀ {xs : List α}, (∀ x ∈ xs, f (g x) = some (k x)) → mapO f (xs.map g) = some (xs.map k)
  | [], _ => rfl
  | x :: xs, h => by
    show (match f (g x), mapO f (xs.map g) with
      | some a, some b => some (a :: b)
      | _, _ => none) = _
    rw [h x List.mem_cons_self, mapO_map fun y hy => h y (List.mem_cons_of_mem _ hy)]
    rfl
theorem intsD_map (ns : List Int) : intsD (ns.map D.int) = some ns := by
  have := mapO_map (f := fun d => match d with
    | D.int i => some i
    | _ => none) (g := D.int) (k := id) (xs := ns) fun x _ => rfl
  rw [List.map_id] at this
  exact this
theorem boolsD_map (ns : List Bool) : boolsD (ns.map D.bl) = some ns := by
  have := mapO_map (f := fun d => match d with
    | D.bl i => some i
    | _ => none) (g := D.bl) (k := id) (xs := ns) fun x _ => rfl
  rw [List.map_id] at this
  exact this
/-- a for loop by what holds between two turns: I of the items that are left -/
theorem forS_inv {t : MTg} {b : MS} (I : List D → En → IH → Prop)
    (step : ∀ d ds env h, I (d :: ds) env h → ∃ e1 h1 e2 h2, t d env h = some (e1, h1) ∧ (b e1 h1 = .nx e2 h2 ∨ b e1 h1 = .ct e2 h2) ∧ I ds e2 h2) : ∀ ds env h, I ds env h → ∃ e2 h2, forS t b ds env h = .nx e2 h2 ∧ I [] e2 h2
  | [], env, h, i => ⟨env, h, rfl, i⟩
  | d :: ds, env, h, i => by
    obtain ⟨e1, h1, e2, h2, z1, z2, i2⟩ := step d ds env h i
    obtain ⟨e3, h3, z3, i3⟩ := forS_inv I step ds e2 h2 i2
    refine ⟨e3, h3, ?_, i3⟩
    rcases z2 with z2 | z2 <;> simp only [forS, z1, z2, z3]
/-- a comprehension without ifs: J of the heap, R of an item and its value -/
theorem lcS_inv {t : MTg} {c : MT} {e : ME} {env : En} (J : IH → Prop) (R : D → D → Prop) {ds0 : List D}
    (step : ∀ d ∈ ds0, ∀ h, J h → ∃ e1 h1 h2 y h3, t d env h = some (e1, h1) ∧ c e1 h1 = .val true h2 ∧ e e1 h2 = .val y h3 ∧ R d y ∧ J h3) :
    ∀ (ds acc : List D) h, (∀ d ∈ ds, d ∈ ds0) → acc.length + ds.length ≤ sizeLine → J h → ∃ ys h2, lcS t c e env ds acc h = .val (acc ++ ys) h2 ∧ Paired R ds ys ∧ J h2
  | [], acc, h, _, _, j => ⟨[], h, by simp only [lcS, List.append_nil], .nil, j⟩
  | d :: ds, acc, h, hs, hl, j => by
    obtain ⟨e1, h1, h2, y, h3, z1, z2, z3, r, j3⟩ := step d (hs d List.mem_cons_self) h j
    rw [List.length_cons] at hl
    obtain ⟨ys, h4, z4, r4, j4⟩ := lcS_inv J R step ds (acc ++ [y]) h3 (fun x hx => hs x (List.mem_cons_of_mem _ hx)) (by rw [List.length_append, List.length_singleton]; omega) j3
    refine ⟨y :: ys, h4, ?_, .cons r r4, j4⟩
    have hlt : acc.length < sizeLine := by omega
    simp only [lcS, lcT, z1, z2, z3, if_pos hlt, z4, List.append_assoc, List.cons_append, List.nil_append]
/-- .. where each item's value is told, the heap growing -/
theorem lcS_map {t : MTg} {c : MT} {e : ME} {env : En} {α : Type} (g : α → D) (f : α → D) {xs : List α} {h0 : IH}
    (step : ∀ x ∈ xs, ∀ q, ∃ e1 q', t (g x) env (h0 ++ q) = some (e1, h0 ++ q) ∧ c e1 (h0 ++ q) = .val true (h0 ++ q) ∧ e e1 (h0 ++ q) = .val (f x) (h0 ++ q')) (hl : xs.length ≤ sizeLine) :
    ∃ q', lcS t c e env (xs.map g) [] h0 = .val (xs.map f) (h0 ++ q') := by
  have key : ∀ (ys : List α) (acc : List D) (q : IH), (∀ y ∈ ys, y ∈ xs) → acc.length + ys.length ≤ sizeLine → ∃ q', lcS t c e env (ys.map g) acc (h0 ++ q) = .val (acc ++ ys.map f) (h0 ++ q') := by
    intro ys
    induction ys with
    | nil => exact fun acc q _ _ => ⟨q, by simp only [List.map_nil, lcS, List.append_nil]⟩
    | cons y ys ih =>
      intro acc q hs hz
      rw [List.length_cons] at hz
      obtain ⟨e1, q1, z1, z2, z3⟩ := step y (hs y List.mem_cons_self) q
      obtain ⟨q2, z4⟩ := ih (acc ++ [f y]) q1 (fun x hx => hs x (List.mem_cons_of_mem _ hx)) (by rw [List.length_append, List.length_singleton]; omega)
      refine ⟨q2, ?_⟩
      have hlt : acc.length < sizeLine := by omega
      simp only [List.map_cons, lcS, lcT, z1, z2, z3, if_pos hlt, z4, List.append_assoc, List.cons_append, List.nil_append]
  obtain ⟨q', z⟩ := key xs [] [] (fun _ h => h) (by simpa using hl)
  rw [List.append_nil, List.nil_append] at z
  exact ⟨q', z⟩
theorem rangeD_map (lo : Int) (n : Nat) : rangeD lo n = (List.range n).map (fun i : Nat => D.int (lo + (i : Int))) := rfl
/-! ### pairs of ints by order -/
abbrev prD (a b : Int) : PyData := .tuple [.int a, .int b]
theorem lt_prD (a b c d : Int) : PySem.W.dataLt (prD a b) (prD c d) = (decide (a < c) || (decide (a = c) && decide (b < d))) := by
  rw [PySem.W.dataLt_tuple]
  by_cases h : a = c
  · subst h
    rw [PySem.W.dataLt_all_yes (by simp [PySem.W.alike]) (by simp [PyData.eqv])]
    by_cases h2 : b = d
    · subst h2
      rw [PySem.W.dataLt_all_yes (by simp [PySem.W.alike]) (by simp [PyData.eqv])]
      simp [PySem.W.keyToksAll]
      rfl
    · rw [PySem.W.dataLt_all_no (by simp [PySem.W.alike]) (by simp [PyData.eqv, h2]), PySem.W.dataLt_int]
      simp
  · rw [PySem.W.dataLt_all_no (by simp [PySem.W.alike]) (by simp [PyData.eqv, h]), PySem.W.dataLt_int]
    simp [h]
/-- the least begin with the least value -/
def IsFirst (f : Int → Int) (lo hi b : Int) : Prop := lo ≤ b ∧ b ≤ hi ∧ (∀ c, lo ≤ c → c ≤ hi → f b ≤ f c) ∧ ∀ c, lo ≤ c → c < b → f b < f c
theorem IsFirst.uniq {f : Int → Int} {lo hi b c : Int} (x : IsFirst f lo hi b) (y : IsFirst f lo hi c) : b = c := by
  obtain ⟨a1, a2, a3, a4⟩ := x
  obtain ⟨b1, b2, b3, b4⟩ := y
  rcases Int.lt_trichotomy b c with h | h | h
  · have := b4 b a1 h
    have := a3 c b1 b2
    omega
  · exact h
  · have := a4 c b1 h
    have := b3 b a1 a2
    omega
theorem minD_first (f : Int → Int) (lo : Int) : ∀ (n : Nat), ∃ b, PySem.W.minD (prD (f lo) lo) ((List.range n).map fun i : Nat => prD (f (lo + 1 + (i : Int))) (lo + 1 + (i : Int))) = prD (f b) b ∧ IsFirst f lo (lo + n) b
  | 0 => ⟨lo, rfl, Int.le_refl _, by omega, fun c h1 h2 => by
      have : c = lo := by omega
      rw [this]
      exact Int.le_refl _, fun c h1 h2 => by omega⟩
  | n + 1 => by
    obtain ⟨b, e, h1, h2, h3, h4⟩ := minD_first f lo n
    unfold PySem.W.minD at e ⊢
    rw [List.range_succ, List.map_append, List.foldl_append, e, List.map_singleton, List.foldl_cons, List.foldl_nil, lt_prD]
    have e3 : lo + 1 + (n : Int) = lo + ((n + 1 : Nat) : Int) := by omega
    by_cases h : f (lo + 1 + (n : Int)) < f b
    · refine ⟨lo + 1 + (n : Int), by simp [h], by omega, by omega, fun c c1 c2 => ?_, fun c c1 c2 => ?_⟩
      · by_cases z : c ≤ lo + n
        · have := h3 c c1 z
          omega
        · have : c = lo + 1 + (n : Int) := by omega
          rw [this]
          exact Int.le_refl _
      · have := h3 c c1 (by omega)
        omega
    · refine ⟨b, ?_, h1, by omega, fun c c1 c2 => ?_, h4⟩
      · have z : ¬ (f (lo + 1 + (n : Int)) = f b ∧ lo + 1 + (n : Int) < b) := by omega
        have z2 : (decide (f (lo + 1 + (n : Int)) < f b) || (decide (f (lo + 1 + (n : Int)) = f b) && decide (lo + 1 + (n : Int) < b))) = false := by
          simp only [Bool.or_eq_false_iff, Bool.and_eq_false_iff, decide_eq_false_iff_not]
          omega
        rw [z2]
        rfl
      · by_cases z : c ≤ lo + n
        · exact h3 c c1 z
        · have : c = lo + 1 + (n : Int) := by omega
          rw [this]
          omega
theorem alikeB_pairs {α : Type} (f g : α → Int) (xs : List α) : alikeB (xs.map fun x => prD (f x) (g x)) = true := by
  unfold alikeB
  rw [Bool.and_eq_true]
  refine ⟨List.all_eq_true.mpr fun x hx => List.all_eq_true.mpr fun y hy => ?_, List.all_eq_true.mpr fun x hx => ?_⟩
  · obtain ⟨a, _, rfl⟩ := List.mem_map.mp hx
    obtain ⟨b, _, rfl⟩ := List.mem_map.mp hy
    simp [PySem.W.alike, PySem.W.alikeAll]
  · obtain ⟨a, _, rfl⟩ := List.mem_map.mp hx
    rfl
theorem canLay_pairs {α : Type} (f g : α → Int) : ∀ xs : List α, PyData.canLayAll0 (xs.map fun x => prD (f x) (g x)) = true
  | [] => rfl
  | x :: xs => by
    rw [List.map_cons, PyData.canLayAll0, canLay_pairs f g xs]
    simp [PyData.canLay0, PyData.canLayAll0]
theorem depth_pairs {α : Type} (f g : α → Int) : ∀ xs : List α, PyData.depthAll (xs.map fun x => prD (f x) (g x)) ≤ 60
  | [] => by simp [PyData.depthAll]
  | x :: xs => by
    have ih := depth_pairs f g xs
    rw [List.map_cons, PyData.depthAll]
    simp only [PyData.depth, PyData.depthAll]
    omega
/-- min of a list of pairs (f b, b), b going up by ones -/
theorem bestO_first (f : Int → Int) (lo : Int) (n : Nat) (h : IH) : ∃ b, bestO PySem.W.minD h ((List.range (n + 1)).map fun i : Nat => D.tup [.int (f (lo + (i : Int))), .int (lo + (i : Int))]) = some (.tup [.int (f b), .int b]) ∧ IsFirst f lo (lo + n) b := by
  obtain ⟨b, e, hb⟩ := minD_first f lo n
  refine ⟨b, ?_, hb⟩
  unfold bestO
  have e1 : mapO (toPy 12 h) ((List.range (n + 1)).map fun i : Nat => D.tup [.int (f (lo + (i : Int))), .int (lo + (i : Int))]) = some ((List.range (n + 1)).map fun i : Nat => prD (f (lo + (i : Int))) (lo + (i : Int))) := mapO_map fun x _ => rfl
  have e2 : (List.range (n + 1)).map (fun i : Nat => prD (f (lo + (i : Int))) (lo + (i : Int))) = prD (f lo) lo :: (List.range n).map fun i : Nat => prD (f (lo + 1 + (i : Int))) (lo + 1 + (i : Int)) := by
    rw [List.range_succ_eq_map, List.map_cons, List.map_map]
    congr 1
    · simp
    · apply List.map_congr_left
      intro i _
      have : lo + ((i + 1 : Nat) : Int) = lo + 1 + (i : Int) := by omega
      show prD (f (lo + ((i + 1 : Nat) : Int))) (lo + ((i + 1 : Nat) : Int)) = _
      rw [this]
  rw [e1]
  have a1 := alikeB_pairs (fun i : Nat => f (lo + (i : Int))) (fun i : Nat => lo + (i : Int)) (List.range (n + 1))
  have a2 := canLay_pairs (fun i : Nat => f (lo + (i : Int))) (fun i : Nat => lo + (i : Int)) (List.range (n + 1))
  have a3 := depth_pairs (fun i : Nat => f (lo + (i : Int))) (fun i : Nat => lo + (i : Int)) (List.range (n + 1))
  rw [e2] at a1 a2 a3
  rw [e2]
  simp only [a1, a2, a3, decide_true, Bool.and_self, if_true, e]
  rfl
end DD
set_option Elab.async false
set_option linter.all false
set_option maxRecDepth 100000
namespace DD
open PySem PySem.Spec L2 PyProof.Rows

section
variable {X : Cx} {W : WX}
/-! ### in, not in -/
def inT (h : IH) (x y : D) : Option Bool := match toPy 12 h x, toPy 12 h y with
  | some d, some (.list ds) => if (SeqAt.shaped d && SeqAt.shaped (.list ds)) = true then some (ds.any fun z => PyData.eqv z d) else none
  | some d, some (.tuple ds) => if (SeqAt.shaped d && SeqAt.shaped (.list ds)) = true then some (ds.any fun z => PyData.eqv z d) else none
  | _, _ => none
def inK (h : IH) (x y : D) : Option Bool := match y with
  | .ref n => match dicAt h n, keyD x with
    | some kvs, some k => some (hasD kvs k)
    | _, _ => none
  | _ => none
def inO (h : IH) (x y : D) : Option Bool := match x, y with
  | .str w, .str z => some (!(Builtin.Str.occurrences z w 0 z.length 1).isEmpty)
  | x, y => match inK h x y with
    | some b => some b
    | none => inT h x y
def pyIn (a b : D) (h : IH) : Res D := match inO h a b with
  | some k => .val (.bl k) h
  | none => .stk
def pyNotIn (a b : D) (h : IH) : Res D := match inO h a b with
  | some k => .val (.bl !k) h
  | none => .stk
def rInT (K : PySem.W.Frag) (neg : Bool) : R2 := fun x y H Q => ∃ d ds, Dp K H x d ∧ Dp K H y (.tuple ds) ∧ SeqAt.shaped d = true ∧ SeqAt.shaped (.list ds) = true ∧ Q (.bl (if neg = true then !(ds.any fun z => PyData.eqv z d) else ds.any fun z => PyData.eqv z d)) H
def rInDc (neg : Bool) : R2 := fun x y H Q => ∃ a o, y = .ref a ∧ DGet H a x o ∧ Q (.bl (if neg = true then !o.isSome else o.isSome)) H
theorem op_inT (hu : X.A.units + 65 < cLine) : OpR X (compareOp .In) (rInT X.K false) := by
  intro pins s σ H x y v u Q I rx ry h
  obtain ⟨d, ds, hd, he, sd, se, q⟩ := h
  obtain ⟨as, r1⟩ := Dp.reads I d x v hd rx
  obtain ⟨bs, r2⟩ := Dp.reads I (.tuple ds) y u he ry
  exact SeqAt.in_tuple_reads r2 r1 (SeqAt.canLay_of_shaped se) (SeqAt.canLay_of_shaped sd) (room_in_shaped sd hu) ⟨.bl _, H, I, rfl, q⟩
theorem op_notInT (hu : X.A.units + 65 < cLine) : OpR X (compareOp .NotIn) (rInT X.K true) := by
  intro pins s σ H x y v u Q I rx ry h
  obtain ⟨d, ds, hd, he, sd, se, q⟩ := h
  obtain ⟨as, r1⟩ := Dp.reads I d x v hd rx
  obtain ⟨bs, r2⟩ := Dp.reads I (.tuple ds) y u he ry
  exact SeqAt.notIn_tuple_reads r2 r1 (SeqAt.canLay_of_shaped se) (SeqAt.canLay_of_shaped sd) (room_in_shaped sd hu) ⟨.bl _, H, I, rfl, q⟩
theorem op_inDc (hu : X.A.units + 1 < cLine) : OpR X (compareOp .In) (rInDc false) := by
  intro pins s σ H x y v u Q I rx ry h
  obtain ⟨a, o, rfl, g, q⟩ := h
  obtain rfl : u = Value.ref a := ry
  exact d_in hu I g rx fun s3 I3 => ⟨.bl o.isSome, H, I3, rfl, q⟩
theorem op_notInDc (hu : X.A.units + 1 < cLine) : OpR X (compareOp .NotIn) (rInDc true) := by
  intro pins s σ H x y v u Q I rx ry h
  obtain ⟨a, o, rfl, g, q⟩ := h
  obtain rfl : u = Value.ref a := ry
  exact d_notIn hu I g rx fun s3 I3 => ⟨.bl (!o.isSome), H, I3, rfl, q⟩
def rInS2 (neg : Bool) : R2 := fun x y H Q => ∃ i j, x = .str i ∧ y = .str j ∧ Q (.bl (if neg = true then !(!(Builtin.Str.occurrences j i 0 j.length 1).isEmpty) else !(Builtin.Str.occurrences j i 0 j.length 1).isEmpty)) H
theorem op_notInS : OpR X (compareOp .NotIn) (rInS2 true) := by
  intro pins s σ H x y v u Q I rx ry h
  obtain ⟨i, j, rfl, rfl, q⟩ := h
  obtain ⟨t, rfl⟩ := rx
  obtain ⟨t', rfl⟩ := ry
  exact notIn_str (fin_bl I q rfl)
def rInA (X : Cx) : R2 := fun x y H Q => (rInS2 false x y H Q ∨ rInDc false x y H Q) ∨ (rInD X.K x y H Q ∨ rInT X.K false x y H Q)
def rNotInA (X : Cx) : R2 := fun x y H Q => (rInS2 true x y H Q ∨ rInDc true x y H Q) ∨ (rNotInD X.K x y H Q ∨ rInT X.K true x y H Q)
theorem units65 {k : Nat} (C : Ctx X W k) : X.A.units + 65 < cLine := by
  have := C.room.un
  omega
theorem op_inA {k : Nat} (C : Ctx X W k) : OpR X (compareOp .In) (rInA X) := (OpR.or op_in_str (op_inDc (units1_of C))).or ((op_inD (units65 C)).or (op_inT (units65 C)))
theorem op_notInA {k : Nat} (C : Ctx X W k) : OpR X (compareOp .NotIn) (rNotInA X) := (op_notInS.or (op_notInDc (units1_of C))).or ((op_notInD (units65 C)).or (op_notInT (units65 C)))
theorem inO_ok {K : PySem.W.Frag} {H : Hp} {μ : List Addr} {h : IH} {x y : V} {a b : D} {k : Bool} (rl : Rl K H μ h) (ra : Rp K H μ x a) (rb : Rp K H μ y b) (e : inO h a b = some k) :
    ((∃ i j, x = .str i ∧ y = .str j ∧ (!(Builtin.Str.occurrences j i 0 j.length 1).isEmpty) = k) ∨ (∃ a o, y = .ref a ∧ DGet H a x o ∧ o.isSome = k)) ∨
      ((∃ d ds, Dp K H x d ∧ Dp K H y (.list ds) ∧ SeqAt.shaped d = true ∧ SeqAt.shaped (.list ds) = true ∧ (ds.any fun z => PyData.eqv z d) = k) ∨ ∃ d ds, Dp K H x d ∧ Dp K H y (.tuple ds) ∧ SeqAt.shaped d = true ∧ SeqAt.shaped (.list ds) = true ∧ (ds.any fun z => PyData.eqv z d) = k) := by
  unfold inO at e
  split at e
  · cases e
    cases ra
    cases rb
    exact .inl (.inl ⟨_, _, rfl, rfl, rfl⟩)
  · split at e
    · rename_i bb zz
      cases e
      unfold inK at zz
      split at zz
      · split at zz
        · rename_i kvs kk z1 z2
          cases zz
          cases rb with
          | ref e1 =>
            obtain ⟨kws, h1, q⟩ := dicAt_ok rl e1 z1
            refine .inl (.inr ⟨_, valV kws kk, rfl, .inl ⟨kws, kk, .inl h1, keyD_ok ra z2, rfl⟩, ?_⟩)
            unfold hasD
            rcases valD_ok (k := kk) q with ⟨h2, h3⟩ | ⟨v, d', h2, h3, h4⟩
            · rw [h2, h3]
              rfl
            · rw [h2, h3]
              rfl
        · cases zz
      · cases zz
    · unfold inT at e
      split at e
      · rename_i d ds z1 z2
        split at e
        · rename_i z
          rw [Bool.and_eq_true] at z
          cases e
          exact .inr (.inl ⟨d, ds, toPy_ok rl 12 _ _ _ ra z1, toPy_ok rl 12 _ _ _ rb z2, z.1, z.2, rfl⟩)
        · cases e
      · rename_i d ds z1 z2
        split at e
        · rename_i z
          rw [Bool.and_eq_true] at z
          cases e
          exact .inr (.inr ⟨d, ds, toPy_ok rl 12 _ _ _ ra z1, toPy_ok rl 12 _ _ _ rb z2, z.1, z.2, rfl⟩)
        · cases e
      · cases e
theorem sd_in : Sd2 X (rInA X) pyIn := by
  intro W σ x y a b H μ h Q rl ra rb p
  unfold pyIn at p
  split at p
  · rename_i k z
    have q := p.at rl (.bl _)
    rcases inO_ok rl ra rb z with (⟨i, j, h1, h2, rfl⟩ | ⟨a, o, h1, h2, rfl⟩) | (⟨d, ds, h1, h2, h3, h4, rfl⟩ | ⟨d, ds, h1, h2, h3, h4, rfl⟩)
    · exact .inl (.inl ⟨i, j, h1, h2, q⟩)
    · exact .inl (.inr ⟨a, o, h1, h2, q⟩)
    · exact .inr (.inl ⟨d, ds, h1, h2, h3, h4, q⟩)
    · exact .inr (.inr ⟨d, ds, h1, h2, h3, h4, q⟩)
  · exact p.elim
theorem sd_notIn : Sd2 X (rNotInA X) pyNotIn := by
  intro W σ x y a b H μ h Q rl ra rb p
  unfold pyNotIn at p
  split at p
  · rename_i k z
    have q := p.at rl (.bl _)
    rcases inO_ok rl ra rb z with (⟨i, j, h1, h2, rfl⟩ | ⟨a, o, h1, h2, rfl⟩) | (⟨d, ds, h1, h2, h3, h4, rfl⟩ | ⟨d, ds, h1, h2, h3, h4, rfl⟩)
    · exact .inl (.inl ⟨i, j, h1, h2, q⟩)
    · exact .inl (.inr ⟨a, o, h1, h2, q⟩)
    · exact .inr (.inl ⟨d, ds, h1, h2, h3, h4, q⟩)
    · exact .inr (.inr ⟨d, ds, h1, h2, h3, h4, q⟩)
  · exact p.elim
end
end DD
set_option Elab.async false
set_option linter.all false
set_option maxRecDepth 100000
namespace DD
open PySem PySem.Spec L2 PyProof.Rows
section
variable {X : Cx} {W : WX}
/-! ### repr of any plain thing -/
def reprL : D → Option Str
  | .int i => if i.natAbs.log2 < 1920 then some (toString i) else none
  | .str x => if (reprText x).length ≤ sizeLine then some (reprText x) else none
  | .bl b => some (if b = true then "True" else "False")
  | .non => some "None"
  | _ => none
def pyReprA : List D → IH → Res D := fun as h => match as with
  | [x] => match reprL x with
    | some s => .val (.str s) h
    | none => DD.pyRepr [x] h
  | _ => .stk
def rReprL : List V → Hp → VK → Prop := fun vs H Q => (∃ i, vs = [V.int i] ∧ i.natAbs.log2 < 1920 ∧ Q (.str (toString i)) H) ∨ (∃ x, vs = [V.str x] ∧ (reprText x).length ≤ sizeLine ∧ Q (.str (reprText x)) H) ∨ (∃ b : Bool, vs = [V.bl b] ∧ Q (.str (if b = true then "True" else "False")) H) ∨ (vs = [V.non] ∧ Q (.str "None") H)
theorem cr_reprL : CallR X (.builtin "repr") rReprL := by
  intro pins s σ H vs us Q I r h
  rcases h with ⟨i, rfl, h1, q⟩ | ⟨x, rfl, h1, q⟩ | ⟨b, rfl, q⟩ | ⟨rfl, q⟩
  · cases r with
    | cons a b =>
      cases b
      obtain ⟨t, rfl⟩ := a
      exact PySem.P.repr_of_int h1 ⟨.str _, H, I.kept fun _ _ z => z, ⟨_, rfl⟩, q⟩
  · cases r with
    | cons a b =>
      cases b
      obtain ⟨t, rfl⟩ := a
      exact PySem.P.repr_of_str (hsz := h1) ⟨.str _, H, I.kept fun _ _ z => z, ⟨_, rfl⟩, q⟩
  · cases r with
    | cons a b =>
      cases b
      obtain rfl : _ = Value.bool _ := a
      exact PySem.P.repr_of_bool ⟨.str _, H, I.kept fun _ _ z => z, ⟨_, rfl⟩, q⟩
  · cases r with
    | cons a b =>
      cases b
      obtain rfl : _ = Value.none := a
      exact PySem.P.repr_of_none ⟨.str _, H, I.kept fun _ _ z => z, ⟨_, rfl⟩, q⟩
def rReprA (K : PySem.W.Frag) : List V → Hp → VK → Prop := fun vs H Q => rReprL vs H Q ∨ rRepr K vs H Q
theorem cr_reprA {k : Nat} (C : Ctx X W k) : CallR X (.builtin "repr") (rReprA X.K) := CallR.or cr_reprL (cr_repr C)
theorem sd_reprA : SdC X (rReprA X.K) pyReprA := by
  intro W σ xs as H μ h Q rl rs p
  unfold pyReprA at p
  split at p
  · rename_i x
    split at p
    · rename_i s z
      cases rs with
      | cons r1 q1 =>
        cases q1
        cases r1 with
        | int i =>
          simp only [reprL] at z
          split at z <;> cases z
          exact .inl (.inl ⟨i, rfl, by assumption, p.at rl (.str _)⟩)
        | str i =>
          simp only [reprL] at z
          split at z <;> cases z
          exact .inl (.inr (.inl ⟨i, rfl, by assumption, p.at rl (.str _)⟩))
        | bl b =>
          cases z
          exact .inl (.inr (.inr (.inl ⟨b, rfl, p.at rl (.str _)⟩)))
        | non =>
          cases z
          exact .inl (.inr (.inr (.inr ⟨rfl, p.at rl (.str _)⟩)))
        | _ => cases z
    · exact .inr (sd_repr W σ xs _ H μ h Q rl rs p)
  · exact p.elim
/-! ### methods of texts -/
def strsD : List D → Option (List Str) := mapO fun d => match d with
  | .str x => some x
  | _ => none
theorem strsD_ok {K : PySem.W.Frag} {H : Hp} {μ : List Addr} : ∀ {vs : List V} {ds : List D} {ys : List Str}, Rps K H μ vs ds → strsD ds = some ys → vs = ys.map V.str
  | _, _, _, .nil, e => by
    cases e
    rfl
  | _, _, _, .cons (d := d) (ds := ds) a b, e => by
    unfold strsD mapO at e
    cases a with
    | str x =>
      cases z : mapO (fun d : D => match d with
        | .str x => some x
        | _ => none) ds with
      | none =>
        simp only [z] at e
        cases e
      | some ys =>
        simp only [z] at e
        cases e
        rw [strsD_ok b z]
        rfl
    | _ => cases e
def pyJoin : D → List D → IH → Res D := fun a as h => match a, as with
  | .str x, [y] => match seqD h y with
    | some ds => match strsD ds with
      | some ys => if (ys.map (·.length)).sum + ys.length * x.length ≤ 16777216 then .val (.str (Txt.join x ys)) h else .stk
      | none => .stk
    | none => .stk
  | _, _ => .stk
def rJoin (K : PySem.W.Frag) : V → List V → Hp → VK → Prop := fun x xs H Q => ∃ a p, ∃ ys : List Str, x = .str a ∧ xs = [.ref p] ∧ (SqL K H p (ys.map V.str) ∨ SqT K H p (ys.map V.str)) ∧ (ys.map (·.length)).sum + ys.length * a.length ≤ 16777216 ∧ Q (.str (Txt.join a ys)) H
theorem sd_join : SdM X (rJoin X.K) pyJoin := by
  intro W σ x xs a as H μ h Q rl ra rs p
  unfold pyJoin at p
  split at p
  · rename_i z y
    split at p
    · rename_i ds e
      split at p
      · rename_i ys e2
        split at p
        · rename_i hl
          cases ra with
          | str =>
            cases rs with
            | cons r1 q1 =>
              cases q1
              cases r1 with
              | tup s q =>
                cases e
                rw [strsD_ok q e2] at s
                exact ⟨z, _, ys, rfl, rfl, .inr s, hl, p.at rl (.str _)⟩
              | fl s q =>
                cases e
                rw [strsD_ok q e2] at s
                exact ⟨z, _, ys, rfl, rfl, .inl s.sq, hl, p.at rl (.str _)⟩
              | ref e1 =>
                obtain ⟨vs, h1, r2⟩ := lstAt_ok rl e1 e
                rw [strsD_ok r2 e2] at h1
                exact ⟨z, _, ys, rfl, rfl, .inl (SqL.of h1), hl, p.at rl (.str _)⟩
              | _ => cases e
        · exact p.elim
      · exact p.elim
    · exact p.elim
  · exact p.elim
def pyStarts : D → List D → IH → Res D := fun a as h => match a, as with
  | .str x, [.str y] => .val (.bl (Txt.startswith x y)) h
  | .str x, [.str y, .int i] => .val (.bl (Txt.startswith3 x y i)) h
  | _, _ => .stk
def rStarts : V → List V → Hp → VK → Prop := fun x xs H Q => (∃ a b, x = .str a ∧ xs = [.str b] ∧ Q (.bl (Txt.startswith a b)) H) ∨ (∃ (a b : Str) (i : Int), x = .str a ∧ xs = [.str b, .int i] ∧ Q (.bl (Txt.startswith3 a b i)) H)
theorem sd_starts : SdM X rStarts pyStarts := by
  intro W σ x xs a as H μ h Q rl ra rs p
  unfold pyStarts at p
  split at p
  · cases ra with
    | str =>
      cases rs with
      | cons r1 q1 =>
        cases q1
        cases r1
        exact .inl ⟨_, _, rfl, rfl, p.at rl (.bl _)⟩
  · cases ra with
    | str =>
      cases rs with
      | cons r1 q1 =>
        cases q1 with
        | cons r2 q2 =>
          cases q2
          cases r1
          cases r2
          exact .inr ⟨_, _, _, rfl, rfl, p.at rl (.bl _)⟩
  · exact p.elim
def pySIndex : D → List D → IH → Res D := fun a as h => match a, as with
  | .str x, [.str y] => match Builtin.Str.occurrences x y 0 x.length 1 with
    | i :: _ => .val (.int (i : Nat)) h
    | [] => .stk
  | _, _ => .stk
def rSIndex : V → List V → Hp → VK → Prop := fun x xs H Q => ∃ a b i rest, x = .str a ∧ xs = [.str b] ∧ Builtin.Str.occurrences a b 0 a.length 1 = i :: rest ∧ Q (.int (i : Nat)) H
theorem sd_sindex : SdM X rSIndex pySIndex := by
  intro W σ x xs a as H μ h Q rl ra rs p
  unfold pySIndex at p
  split at p
  · split at p
    · rename_i i rest z
      cases ra with
      | str =>
        cases rs with
        | cons r1 q1 =>
          cases q1
          cases r1
          exact ⟨_, _, i, rest, rfl, rfl, z, p.at rl (.int _)⟩
    · exact p.elim
  · exact p.elim
def pyCount : D → List D → IH → Res D := fun a as h => match a, as with
  | .str x, [.str y] => .val (.int (Txt.count x y)) h
  | _, _ => .stk
def rCount : V → List V → Hp → VK → Prop := fun x xs H Q => ∃ a b, x = .str a ∧ xs = [.str b] ∧ Q (.int (Txt.count a b)) H
theorem sd_count : SdM X rCount pyCount := by
  intro W σ x xs a as H μ h Q rl ra rs p
  unfold pyCount at p
  split at p
  · cases ra with
    | str =>
      cases rs with
      | cons r1 q1 =>
        cases q1
        cases r1
        exact ⟨_, _, rfl, rfl, p.at rl (.int _)⟩
  · exact p.elim
def pySplit : D → List D → IH → Res D := fun a as h => match a, as with
  | .str x, [.str y] => if (y.length == 0) = false ∧ x.length + 2 ≤ sizeLine then .val (.ref h.length) (h ++ [.lst ((Txt.split x y).map D.str)]) else .stk
  | _, _ => .stk
def rSplit : V → List V → Hp → VK → Prop := fun x xs H Q => ∃ a b, x = .str a ∧ xs = [.str b] ∧ (b.length == 0) = false ∧ a.length + 2 ≤ sizeLine ∧ rNewStrs (Txt.split a b) H Q
theorem rps_strs {K : PySem.W.Frag} {H : Hp} {μ : List Addr} : ∀ ys : List Str, Rps K H μ (ys.map V.str) (ys.map D.str)
  | [] => .nil
  | y :: ys => .cons (.str y) (rps_strs ys)
theorem sd_split : SdM X rSplit pySplit := by
  intro W σ x xs a as H μ h Q rl ra rs p
  unfold pySplit at p
  split at p
  · split at p
    · rename_i z
      cases ra with
      | str =>
        cases rs with
        | cons r1 q1 =>
          cases q1
          cases r1
          refine ⟨_, _, rfl, rfl, z.1, z.2, fun q hq => ?_⟩
          obtain ⟨x2, rl2, rp2⟩ := new_lst rl (rps_strs (K := X.K) (H := H) (μ := μ) _) hq
          exact p _ _ _ x2 rl2 rp2
    · exact p.elim
  · exact p.elim
/-! ### lists -/
def pyExtend : D → List D → IH → Res D := fun a as h => match a, as with
  | .ref n, [.ref m] => match lstAt h n, lstAt h m with
    | some xs, some ys => if xs.length + ys.length ≤ sizeLine then .val .non (h.set n (.lst (xs ++ ys))) else .stk
    | _, _ => .stk
  | _, _ => .stk
theorem sd_extend : SdM X rExtend pyExtend := by
  intro W σ x xs a as H μ h Q rl ra rs p
  unfold pyExtend at p
  split at p
  · rename_i n m
    split at p
    · rename_i ds es z1 z2
      split at p
      · rename_i zl
        cases ra with
        | ref e1 =>
          cases rs with
          | cons r1 q1 =>
            cases q1
            cases r1 with
            | ref e2 =>
              obtain ⟨vs, h1, r2⟩ := lstAt_ok rl e1 z1
              obtain ⟨ws, h2, r3⟩ := lstAt_ok rl e2 z2
              obtain ⟨x2, rl2⟩ := wr_lst rl e1 h1 (r2.append r3)
              exact ⟨_, _, vs, ws, rfl, rfl, h1, h2, by rw [r2.length, r3.length]; exact zl, p _ _ _ x2 rl2 .non⟩
      · exact p.elim
    · exact p.elim
  · exact p.elim
/-! ### other calls -/
def pyAbs : List D → IH → Res D := fun as h => match as with
  | [.int i] => .val (.int (if i < 0 then -i else i)) h
  | _ => .stk
def rAbs : List V → Hp → VK → Prop := fun xs H Q => ∃ i, xs = [.int i] ∧ Q (.int (if i < 0 then -i else i)) H
theorem sd_abs : SdC X rAbs pyAbs := by
  intro W σ xs as H μ h Q rl rs p
  unfold pyAbs at p
  split at p
  · cases rs with
    | cons r1 q1 =>
      cases q1
      cases r1
      exact ⟨_, rfl, p.at rl (.int _)⟩
  · exact p.elim
def pyStr : List D → IH → Res D := fun as h => match as with
  | [.int i] => if i.natAbs.log2 < 1920 then .val (.str (toString i)) h else .stk
  | [.str x] => .val (.str x) h
  | _ => .stk
def rStr : List V → Hp → VK → Prop := fun xs H Q => (∃ i, xs = [.int i] ∧ i.natAbs.log2 < 1920 ∧ Q (.str (toString i)) H) ∨ (∃ a, xs = [.str a] ∧ Q (.str a) H)
theorem sd_str : SdC X rStr pyStr := by
  intro W σ xs as H μ h Q rl rs p
  unfold pyStr at p
  split at p
  · split at p
    · cases rs with
      | cons r1 q1 =>
        cases q1
        cases r1
        exact .inl ⟨_, rfl, by assumption, p.at rl (.str _)⟩
    · exact p.elim
  · cases rs with
    | cons r1 q1 =>
      cases q1
      cases r1
      exact .inr ⟨_, rfl, p.at rl (.str _)⟩
  · exact p.elim
theorem cr_str : CallR X (.type "str") rStr := CallR.or call_str_int SkE.call_str_str
variable {o e : Expr} {es : List Expr} {mo : ME} {mr : MA} {apos pos : Pos}
theorem qe_mstr {id : String} {name : Str} {r : V → List V → Hp → VK → Prop} {f : D → List D → IH → Res D} (slot : Slot "str" name id) (hty : typeOf (.builtin id) = pure (.type "method_descriptor")) (hm : MtR X id r) (sd : SdM X r f) (ho : QE X W o mo) (ha : QA X W (e :: es) mr) (hbase : attributeBase o name X.env (eval o X.env) = eval o X.env := by rfl)
    (hfew : ((backTo pos (starEach (e :: es) X.env)).all (fun x => !x.1) && (backToKw pos (keywordEach [] X.env)).all (fun x => x.1.isSome)
      && decide ((e :: es).length + ([] : List Keyword).length + (if ([] : List Keyword).isEmpty then 0 else 1) < 30)) = true := by rfl)
    (hline : (apos.endLine == pos.line) = true := by rfl) (hs : starEach (e :: es) X.env = (false, eval e X.env) :: starEach es X.env := by rfl) (hplain : (backTo pos (starEach es X.env)).any (·.1) = false := by rfl) :
    QE X W (.Call (.Attribute o name apos) (e :: es) [] pos) (mMeth "str" f mo mr) := qe_meth PySem.F.plainAttrs_str slot hty hm sd (.inr (.inl rfl)) ho ha hbase hfew hline hs hplain
theorem mt_starts : MtR X "str.startswith" rStarts := MtR.or mt_startswith mt_startswith3
theorem mt_joinA : MtR X "str.join" (rJoin X.K) := mt_join
theorem mt_splitA : MtR X "str.split" rSplit := mt_split
theorem mt_sindexA : MtR X "str.index" rSIndex := mt_sindex
theorem mt_countA : MtR X "str.count" rCount := mt_count
end
end DD
set_option Elab.async false
set_option linter.all false
set_option maxRecDepth 100000
/-! the head with facts of one's own -/
namespace He
open PySem PySem.Spec PyProof.Rows L2
def obsY (n : Nat) (fa : List Fa) (fn : List DefD) (ex : PySem.W.Frag → Bool) (g : Addr → Option Obj) : AlD × Bool := (obsD fa fn (frG g (asD g n)), ex (frG g (asD g n)))
def hookY (n : Nat) (fa : List Fa) (fn : List DefD) (ex : PySem.W.Frag → Bool) : PySem.W.Hook where
  α := AlD × Bool
  obs := fun s => obsY n fa fn ex s.heap.get?
  val := fun _ => (valD fn, true)
  says := fun _ h => ∃ K : PySem.W.Frag, K.In h ∧ SaysD fa fn K ∧ ex K = true
  of := fun _ _ e => ⟨_, frG_in, congrArg Prod.fst e, congrArg Prod.snd e⟩
  keeps := fun _ _ _ ⟨K, hK, c⟩ k => ⟨K, PySem.W.Frag.In.keeps hK k, c⟩
theorem obsY_eq {n : Nat} {fa : List Fa} {fn : List DefD} {ex : PySem.W.Frag → Bool} {g : Addr → Option Obj} {s : Shared} (h : ∀ a, g a = s.heap.get? a) : obsY n fa fn ex g = (hookY n fa fn ex).obs s := by
  have e : g = s.heap.get? := funext h
  rw [e] <;> rfl
end He
namespace DD
open PySem PySem.Spec L2 PyProof.Rows
theorem qe_gtup {X : Cx} {W : WX} {pos : Pos} {x : Str} {vs : List V} {ds : List D} (c : ∃ a, X.mg x = some (.ref a) ∧ ∀ H, SqT X.K H a vs) (r : ∀ H μ, Rps X.K H μ vs ds) (hg : Gl X x := by rfl) (hd : (x == ("__debug__" : Str)) = false := by decide) : QE X W (.Name x pos) (mC (.tup ds)) := by
  obtain ⟨a, hm, hs⟩ := c
  exact qe_glob (v := .ref a) hm rfl (fun H μ => .tup (hs H) (r H μ)) hg hd
end DD
set_option Elab.async false
set_option linter.all false
set_option maxRecDepth 100000
/-! VV: values without a heap, over DD. U: data as trees; a function's slots hold trees; who owns which cell is told by the proofs alone. -/
namespace VV
open PySem L2 DD

inductive U where
  | non | bl (b : Bool) | int (i : Int) | str (x : Str) | tup (us : List U) | lst (us : List U) | fl (us : List U) | dic (kvs : List (Key × U)) | op (v : V)
abbrev UE := List (Option U)
structure XU where
  cls : Str
  fs : List (Str × U)
inductive ER (α : Type) where
  | val (a : α) (e : UE) | exc (x : XU) (e : UE) | stk
inductive UO where
  | nx (e : UE) | rt (u : U) (e : UE) | bk (e : UE) | ct (e : UE) | exc (x : XU) (e : UE) | stk

mutual
/-- no list, no dict in it -/
def flat : U → Bool
  | .tup us => flats us
  | .lst _ => false
  | .fl us => flats us
  | .dic _ => false
  | _ => true
def flats : List U → Bool
  | [] => true
  | u :: us => flat u && flats us
end
theorem flats_all : ∀ us : List U, flats us = us.all flat
  | [] => rfl
  | u :: us => by rw [flats, List.all_cons, flats_all us]
theorem flats_map {α : Type} {f : α → U} (h : ∀ a, flat (f a) = true) (xs : List α) : flats (xs.map f) = true := by
  rw [flats_all, List.all_map, List.all_eq_true]
  exact fun a _ => h a

section
variable (h : IH) (F : Nat → Prop)
mutual
/-- u is told by d; all cells are in F -/
inductive RF : U → D → Prop
  | non : RF .non .non
  | bl (b : Bool) : RF (.bl b) (.bl b)
  | int (i : Int) : RF (.int i) (.int i)
  | str (x : Str) : RF (.str x) (.str x)
  | op (v : V) : RF (.op v) (.op v)
  | tup {us : List U} {ds : List D} : RFs us ds → RF (.tup us) (.tup ds)
  | fl {us : List U} {ds : List D} : RFs us ds → RF (.fl us) (.fl ds)
  | ref {n : Nat} {us : List U} {ds : List D} : F n → h[n]? = some (.lst ds) → RFs us ds → RF (.lst us) (.ref n)
  | dic {n : Nat} {ks : List (Key × U)} {kvs : List (Key × D)} : F n → h[n]? = some (.dic kvs) → ks.map (·.1) = kvs.map (·.1) → RFs (ks.map (·.2)) (kvs.map (·.2)) → RF (.dic ks) (.ref n)
inductive RFs : List U → List D → Prop
  | nil : RFs [] []
  | cons {u : U} {d : D} {us : List U} {ds : List D} : RF u d → RFs us ds → RFs (u :: us) (d :: ds)
end
mutual
/-- u is told by d; its lists to a depth of k are owned: their cells are S; what is deeper is in F -/
inductive RV : Nat → List Nat → U → D → Prop
  | fz {u : U} {d : D} : RF h F u d → RV 0 [] u d
  | non {k : Nat} : RV (k + 1) [] .non .non
  | bl {k : Nat} (b : Bool) : RV (k + 1) [] (.bl b) (.bl b)
  | int {k : Nat} (i : Int) : RV (k + 1) [] (.int i) (.int i)
  | str {k : Nat} (x : Str) : RV (k + 1) [] (.str x) (.str x)
  | op {k : Nat} (v : V) : RV (k + 1) [] (.op v) (.op v)
  | fl {k : Nat} {us : List U} {ds : List D} : RFs h F us ds → flats us = true → RV (k + 1) [] (.fl us) (.fl ds)
  | tup {k : Nat} {S : List Nat} {us : List U} {ds : List D} : RVs (k + 1) S us ds → RV (k + 1) S (.tup us) (.tup ds)
  | ref {k n : Nat} {S : List Nat} {us : List U} {ds : List D} : h[n]? = some (.lst ds) → RVs k S us ds → RV (k + 1) (n :: S) (.lst us) (.ref n)
  | dic {k n : Nat} {S : List Nat} {ks : List (Key × U)} {kvs : List (Key × D)} : h[n]? = some (.dic kvs) → ks.map (·.1) = kvs.map (·.1) ∧ (kvs.map (·.1)).Nodup → RVs k S (ks.map (·.2)) (kvs.map (·.2)) → RV (k + 1) (n :: S) (.dic ks) (.ref n)
inductive RVs : Nat → List Nat → List U → List D → Prop
  | nil {k : Nat} : RVs k [] [] []
  | cons {k : Nat} {S T : List Nat} {u : U} {d : D} {us : List U} {ds : List D} : RV k S u d → RVs k T us ds → RVs k (S ++ T) (u :: us) (d :: ds)
end
end

section
variable {h h' : IH} {F F' : Nat → Prop}
mutual
theorem RF.mono (hf : ∀ n, F n → F' n) (hh : ∀ n, F n → h'[n]? = h[n]?) : ∀ {u : U} {d : D}, RF h F u d → RF h' F' u d
  | _, _, .non => .non
  | _, _, .bl b => .bl b
  | _, _, .int b => .int b
  | _, _, .str b => .str b
  | _, _, .op b => .op b
  | _, _, .tup r => .tup (RFs.mono hf hh r)
  | _, _, .fl r => .fl (RFs.mono hf hh r)
  | _, _, .ref a b r => .ref (hf _ a) ((hh _ a).trans b) (RFs.mono hf hh r)
  | _, _, .dic a b c r => .dic (hf _ a) ((hh _ a).trans b) c (RFs.mono hf hh r)
theorem RFs.mono (hf : ∀ n, F n → F' n) (hh : ∀ n, F n → h'[n]? = h[n]?) : ∀ {u : List U} {d : List D}, RFs h F u d → RFs h' F' u d
  | _, _, .nil => .nil
  | _, _, .cons a b => .cons (RF.mono hf hh a) (RFs.mono hf hh b)
end
mutual
theorem RF.flat : ∀ {u : U} {d : D}, RF h F u d → flat u = true → ∀ h' F', RF h' F' u d
  | _, _, .non, _ => fun _ _ => .non
  | _, _, .bl b, _ => fun _ _ => .bl b
  | _, _, .int b, _ => fun _ _ => .int b
  | _, _, .str b, _ => fun _ _ => .str b
  | _, _, .op b, _ => fun _ _ => .op b
  | _, _, .tup r, e => fun h' F' => .tup (RFs.flat r e h' F')
  | _, _, .fl r, e => fun h' F' => .fl (RFs.flat r e h' F')
  | _, _, .ref a b r, e => by simp [VV.flat] at e
  | _, _, .dic a b c r, e => by simp [VV.flat] at e
theorem RFs.flat : ∀ {u : List U} {d : List D}, RFs h F u d → flats u = true → ∀ h' F', RFs h' F' u d
  | _, _, .nil, _ => fun _ _ => .nil
  | _, _, .cons a b, e => fun h' F' => by
    rw [flats, Bool.and_eq_true] at e
    exact .cons (RF.flat a e.1 h' F') (RFs.flat b e.2 h' F')
end
mutual
theorem RF.rv : ∀ {u : U} {d : D} (k : Nat), RF h F u d → VV.flat u = true → RV h F k [] u d
  | _, _, 0, r, _ => .fz r
  | _, _, k + 1, .non, _ => .non
  | _, _, k + 1, .bl b, _ => .bl b
  | _, _, k + 1, .int b, _ => .int b
  | _, _, k + 1, .str b, _ => .str b
  | _, _, k + 1, .op b, _ => .op b
  | _, _, k + 1, .tup r, e => .tup (RFs.rv (k + 1) r e)
  | _, _, k + 1, .fl r, e => .fl (r.flat e _ _) e
  | _, _, k + 1, .ref a b r, e => by simp [VV.flat] at e
  | _, _, k + 1, .dic a b c r, e => by simp [VV.flat] at e
theorem RFs.rv : ∀ {u : List U} {d : List D} (k : Nat), RFs h F u d → flats u = true → RVs h F k [] u d
  | _, _, k, .nil, _ => .nil
  | _, _, k, .cons a b, e => by
    rw [flats, Bool.and_eq_true] at e
    exact RVs.cons (S := []) (T := []) (RF.rv k a e.1) (RFs.rv k b e.2)
end
theorem RFs.rv0 : ∀ {u : List U} {d : List D}, RFs h F u d → RVs h F 0 [] u d
  | _, _, .nil => .nil
  | _, _, .cons a b => RVs.cons (S := []) (T := []) (.fz a) (RFs.rv0 b)
theorem RVs.rf0 : ∀ {S : List Nat} {u : List U} {d : List D}, RVs h F 0 S u d → RFs h F u d ∧ S = []
  | _, _, _, .nil => ⟨.nil, rfl⟩
  | _, _, _, .cons (.fz a) b => by
    obtain ⟨x, rfl⟩ := RVs.rf0 b
    exact ⟨.cons a x, rfl⟩
mutual
theorem RV.mono (hf : ∀ n, F n → F' n) (hh : ∀ n, F n → h'[n]? = h[n]?) : ∀ {k : Nat} {S : List Nat} {u : U} {d : D}, RV h F k S u d → (∀ n ∈ S, h'[n]? = h[n]?) → RV h' F' k S u d
  | _, _, _, _, .fz r, _ => .fz (r.mono hf hh)
  | _, _, _, _, .non, _ => .non
  | _, _, _, _, .bl b, _ => .bl b
  | _, _, _, _, .int b, _ => .int b
  | _, _, _, _, .str b, _ => .str b
  | _, _, _, _, .op b, _ => .op b
  | _, _, _, _, .fl b c, _ => .fl (b.mono hf hh) c
  | _, _, _, _, .tup r, hs => .tup (RVs.mono hf hh r hs)
  | _, _, _, _, .ref b r, hs => .ref ((hs _ List.mem_cons_self).trans b) (RVs.mono hf hh r fun n hn => hs n (List.mem_cons_of_mem _ hn))
  | _, _, _, _, .dic b c r, hs => .dic ((hs _ List.mem_cons_self).trans b) c (RVs.mono hf hh r fun n hn => hs n (List.mem_cons_of_mem _ hn))
theorem RVs.mono (hf : ∀ n, F n → F' n) (hh : ∀ n, F n → h'[n]? = h[n]?) : ∀ {k : Nat} {S : List Nat} {u : List U} {d : List D}, RVs h F k S u d → (∀ n ∈ S, h'[n]? = h[n]?) → RVs h' F' k S u d
  | _, _, _, _, .nil, _ => .nil
  | _, _, _, _, .cons a b, hs => .cons (RV.mono hf hh a fun n hn => hs n (List.mem_append_left _ hn)) (RVs.mono hf hh b fun n hn => hs n (List.mem_append_right _ hn))
end
mutual
/-- what is owned may be frozen -/
theorem RV.frz : ∀ {k : Nat} {S : List Nat} {u : U} {d : D}, RV h F k S u d → (∀ n, F n → F' n) → (∀ n ∈ S, F' n) → RF h F' u d
  | _, _, _, _, .fz r, hf, _ => r.mono hf fun _ _ => rfl
  | _, _, _, _, .non, _, _ => .non
  | _, _, _, _, .bl b, _, _ => .bl b
  | _, _, _, _, .int b, _, _ => .int b
  | _, _, _, _, .str b, _, _ => .str b
  | _, _, _, _, .op b, _, _ => .op b
  | _, _, _, _, .fl b c, hf, _ => .fl (b.mono hf fun _ _ => rfl)
  | _, _, _, _, .tup r, hf, hs => .tup (RVs.frz r hf hs)
  | _, _, _, _, .ref b r, hf, hs => .ref (hs _ List.mem_cons_self) b (RVs.frz r hf fun n hn => hs n (List.mem_cons_of_mem _ hn))
  | _, _, _, _, .dic b c r, hf, hs => .dic (hs _ List.mem_cons_self) b c.1 (RVs.frz r hf fun n hn => hs n (List.mem_cons_of_mem _ hn))
theorem RVs.frz : ∀ {k : Nat} {S : List Nat} {u : List U} {d : List D}, RVs h F k S u d → (∀ n, F n → F' n) → (∀ n ∈ S, F' n) → RFs h F' u d
  | _, _, _, _, .nil, _, _ => .nil
  | _, _, _, _, .cons a b, hf, hs => .cons (RV.frz a hf fun n hn => hs n (List.mem_append_left _ hn)) (RVs.frz b hf fun n hn => hs n (List.mem_append_right _ hn))
end
mutual
theorem RV.bd (hb : ∀ n, F n → n < h.length) : ∀ {k : Nat} {S : List Nat} {u : U} {d : D}, RV h F k S u d → ∀ n ∈ S, n < h.length
  | _, _, _, _, .tup r, n, hn => RVs.bd hb r n hn
  | _, _, _, _, .ref b r, n, hn => by
    rcases List.mem_cons.mp hn with rfl | hn
    · exact (List.getElem?_eq_some_iff.mp b).1
    · exact RVs.bd hb r n hn
  | _, _, _, _, .dic b c r, n, hn => by
    rcases List.mem_cons.mp hn with rfl | hn
    · exact (List.getElem?_eq_some_iff.mp b).1
    · exact RVs.bd hb r n hn
theorem RVs.bd (hb : ∀ n, F n → n < h.length) : ∀ {k : Nat} {S : List Nat} {u : List U} {d : List D}, RVs h F k S u d → ∀ n ∈ S, n < h.length
  | _, _, _, _, .cons a b, n, hn => by
    rcases List.mem_append.mp hn with hn | hn
    · exact RV.bd hb a n hn
    · exact RVs.bd hb b n hn
end
theorem RFs.length : ∀ {us : List U} {ds : List D}, RFs h F us ds → us.length = ds.length
  | _, _, .nil => rfl
  | _, _, .cons _ b => by rw [List.length_cons, List.length_cons, b.length]
theorem RFs.get : ∀ {us : List U} {ds : List D} {i : Nat} {u : U}, RFs h F us ds → us[i]? = some u → ∃ d, ds[i]? = some d ∧ RF h F u d
  | _, _, _, _, .nil, e => by simp at e
  | _, _, 0, _, .cons a _, e => by
    simp at e
    subst e
    exact ⟨_, rfl, a⟩
  | _, _, i + 1, _, .cons _ b, e => by
    obtain ⟨v, h1, h2⟩ := b.get (i := i) (by simpa using e)
    exact ⟨v, by simpa using h1, h2⟩
theorem RFs.append : ∀ {us vs : List U} {ds es : List D}, RFs h F us ds → RFs h F vs es → RFs h F (us ++ vs) (ds ++ es)
  | _, _, _, _, .nil, s => s
  | _, _, _, _, .cons a b, s => .cons a (b.append s)
theorem RFs.take : ∀ {us : List U} {ds : List D} (n : Nat), RFs h F us ds → RFs h F (us.take n) (ds.take n)
  | _, _, 0, _ => .nil
  | _, _, _ + 1, .nil => .nil
  | _, _, n + 1, .cons a b => .cons a (b.take n)
theorem RFs.drop : ∀ {us : List U} {ds : List D} (n : Nat), RFs h F us ds → RFs h F (us.drop n) (ds.drop n)
  | _, _, 0, r => r
  | _, _, _ + 1, .nil => .nil
  | _, _, n + 1, .cons _ b => b.drop n
theorem RFs.reverse : ∀ {us : List U} {ds : List D}, RFs h F us ds → RFs h F us.reverse ds.reverse
  | _, _, .nil => .nil
  | _, _, .cons a b => by
    rw [List.reverse_cons, List.reverse_cons]
    exact b.reverse.append (.cons a .nil)
theorem RFs.replicate {us : List U} {ds : List D} (r : RFs h F us ds) : ∀ n : Nat, RFs h F (List.replicate n us).flatten (List.replicate n ds).flatten
  | 0 => .nil
  | n + 1 => by
    rw [List.replicate_succ, List.replicate_succ, List.flatten_cons, List.flatten_cons]
    exact r.append (r.replicate n)
end

/-! ### the state -/
structure Gd (dp : Nat → Nat) (F : Nat → Prop) (S : Nat → List Nat) (h : IH) (ve : UE) (env : En) : Prop where
  len : ve.length = env.length
  get : ∀ (i : Nat) u, ve[i]? = some (some u) → ∃ d, env[i]? = some (some d) ∧ RV h F (dp i) (S i) u d
  nd : ∀ i, (S i).Nodup
  dj : ∀ i j n, n ∈ S i → n ∈ S j → i = j
  nf : ∀ i n, n ∈ S i → ¬ F n
  bd : ∀ i n, n ∈ S i → n < h.length
  fb : ∀ n, F n → n < h.length
structure EP (dp : Nat → Nat) (io : List Nat) (F : Nat → Prop) (S : Nat → List Nat) (h : IH) (ve : UE) (env : En) (F' : Nat → Prop) (S' : Nat → List Nat) (h' : IH) (ve' : UE) : Prop where
  gd : Gd dp F' S' h' ve' env
  st : ∀ i, i ∉ io → S' i = S i ∧ ve'[i]? = ve[i]?
  ff : ∀ n, F n → F' n
  fn : ∀ n, F' n → F n ∨ h.length ≤ n ∨ ∃ i, i ∈ io ∧ n ∈ S i
  hl : h.length ≤ h'.length
  fr : ∀ n, n < h.length → (∀ i ∈ io, n ∉ S i) → h'[n]? = h[n]?
  sn : ∀ i n, n ∈ S' i → n ∈ S i ∨ h.length ≤ n
/-- what may be read: all cells but those of the slots that calls may change -/
def Gr (io : List Nat) (S : Nat → List Nat) (h : IH) (n : Nat) : Prop := n < h.length ∧ ∀ i ∈ io, n ∉ S i
inductive Md where
  | fl | fz | bor | fr (k : Nat)
/-- a value by its mode; Sr: the cells that it owns -/
def RM (io : List Nat) (F : Nat → Prop) (S : Nat → List Nat) (h : IH) (Sr : List Nat) (u : U) (d : D) : Md → Prop
  | .fl => RF h F u d ∧ flat u = true ∧ Sr = []
  | .fz => RF h F u d ∧ Sr = []
  | .bor => RF h (Gr io S h) u d ∧ Sr = []
  | .fr k => RV h F k Sr u d
/-- owned cells of a value that is on its way: new since h0, nobody else's -/
structure Tm (F : Nat → Prop) (S : Nat → List Nat) (lo : Nat) (h : IH) (Sr : List Nat) : Prop where
  nd : Sr.Nodup
  lo : ∀ n ∈ Sr, lo ≤ n
  bd : ∀ n ∈ Sr, n < h.length
  nf : ∀ n ∈ Sr, ¬ F n
  ns : ∀ n ∈ Sr, ∀ i, n ∉ S i
abbrev VE := UE → ER U
abbrev VT := UE → ER Bool
abbrev VA := UE → ER (List U)
abbrev VS := UE → UO
def RX (h : IH) (F : Nat → Prop) (x : XU) (y : XD) : Prop := x.cls = y.cls ∧ x.fs.map (·.1) = y.fs.map (·.1) ∧ RFs h F (x.fs.map (·.2)) (y.fs.map (·.2))
section
variable {dp : Nat → Nat} {io : List Nat} {F F' F2 : Nat → Prop} {S S' S2 : Nat → List Nat} {h h' h2 : IH} {ve ve' ve2 : UE} {env : En}
theorem EP.refl (g : Gd dp F S h ve env) : EP dp io F S h ve env F S h ve := ⟨g, fun _ _ => ⟨rfl, rfl⟩, fun _ x => x, fun _ x => .inl x, Nat.le_refl _, fun _ _ _ => rfl, fun _ _ x => .inl x⟩
theorem EP.trans (a : EP dp io F S h ve env F' S' h' ve') (b : EP dp io F' S' h' ve' env F2 S2 h2 ve2) : EP dp io F S h ve env F2 S2 h2 ve2 := by
  refine ⟨b.gd, fun i hi => ⟨(b.st i hi).1.trans (a.st i hi).1, (b.st i hi).2.trans (a.st i hi).2⟩, fun n x => b.ff n (a.ff n x), fun n x => ?_, Nat.le_trans a.hl b.hl, fun n hn hs => ?_, fun i n x => ?_⟩
  · rcases b.fn n x with y | y | ⟨i, hi, y⟩
    · exact a.fn n y
    · exact .inr (.inl (Nat.le_trans a.hl y))
    · rcases a.sn i n y with z | z
      · exact .inr (.inr ⟨i, hi, z⟩)
      · exact .inr (.inl z)
  · rw [b.fr n (Nat.lt_of_lt_of_le hn a.hl) fun i hi z => ?_, a.fr n hn hs]
    rcases a.sn i n z with y | y
    · exact hs i hi y
    · omega
  · rcases b.sn i n x with y | y
    · exact a.sn i n y
    · exact .inr (Nat.le_trans a.hl y)
/-- the heap grows, its new cells may be frozen -/
theorem Gd.grow (g : Gd dp F S h ve env) (q : IH) (hf : ∀ n, F n → F' n) (hn : ∀ n, F' n → F n ∨ (h.length ≤ n ∧ n < (h ++ q).length)) : Gd dp F' S (h ++ q) ve env := by
  have hk : ∀ n, n < h.length → (h ++ q)[n]? = h[n]? := fun n hn => List.getElem?_append_left hn
  refine ⟨g.len, fun i u e => ?_, g.nd, g.dj, fun i n x y => ?_, fun i n x => ?_, fun n x => ?_⟩
  · obtain ⟨d, e1, r⟩ := g.get i u e
    exact ⟨d, e1, r.mono hf (fun n x => hk n (g.fb n x)) fun n x => hk n (g.bd i n x)⟩
  · rcases hn n y with z | z
    · exact g.nf i n x z
    · have := g.bd i n x
      omega
  · have := g.bd i n x
    rw [List.length_append]
    omega
  · rcases hn n x with z | z
    · have := g.fb n z
      rw [List.length_append]
      omega
    · exact z.2
theorem EP.grow (g : Gd dp F S h ve env) (q : IH) (hf : ∀ n, F n → F' n) (hn : ∀ n, F' n → F n ∨ (h.length ≤ n ∧ n < (h ++ q).length)) : EP dp io F S h ve env F' S (h ++ q) ve :=
  ⟨g.grow q hf hn, fun _ _ => ⟨rfl, rfl⟩, hf, fun n x => (hn n x).imp id fun z => .inl z.1, by rw [List.length_append]; omega, fun n hn _ => List.getElem?_append_left hn, fun _ _ x => .inl x⟩
/-- frozen in part: no heap is changed -/
theorem Gd.frz (g : Gd dp F S h ve env) (hf : ∀ n, F n → F' n) (hn : ∀ n, F' n → F n ∨ (n < h.length ∧ ∀ i, n ∉ S i)) : Gd dp F' S h ve env := by
  refine ⟨g.len, fun i u e => ?_, g.nd, g.dj, fun i n x y => ?_, g.bd, fun n x => ?_⟩
  · obtain ⟨d, e1, r⟩ := g.get i u e
    exact ⟨d, e1, r.mono hf (fun n x => rfl) fun n x => rfl⟩
  · rcases hn n y with z | z
    · exact g.nf i n x z
    · exact z.2 i x
  · rcases hn n x with z | z
    · exact g.fb n z
    · exact z.1
theorem EP.frzR (a : EP dp io F S h ve env F' S' h' ve') {Sr : List Nat} (t : Tm F' S' h.length h' Sr) : EP dp io F S h ve env (fun n => F' n ∨ n ∈ Sr) S' h' ve' :=
  ⟨a.gd.frz (fun _ x => .inl x) fun n x => x.imp id fun z => ⟨t.bd n z, t.ns n z⟩, a.st, fun n x => .inl (a.ff n x), fun n x => by
    rcases x with x | x
    · exact a.fn n x
    · exact .inr (.inl (t.lo n x)), a.hl, a.fr, a.sn⟩
theorem Gr.ep (a : EP dp io F S h ve env F' S' h' ve') {n : Nat} (x : Gr io S h n) : Gr io S' h' n := ⟨Nat.lt_of_lt_of_le x.1 a.hl, fun i hi z => by
  rcases a.sn i n z with y | y
  · exact x.2 i hi y
  · exact absurd x.1 (Nat.not_lt.mpr y)⟩
theorem Gr.of (g : Gd dp F S h ve env) {n : Nat} (x : F n) : Gr io S h n := ⟨g.fb n x, fun i _ z => g.nf i n z x⟩
/-- a value stays while another expression is run -/
theorem RM.keep (g : Gd dp F S h ve env) (a : EP dp io F S h ve env F' S' h' ve') {Sr : List Nat} {lo : Nat} (t : Tm F S lo h Sr) {u : U} {d : D} : ∀ {md : Md}, RM io F S h Sr u d md → RM io F' S' h' Sr u d md := by
  have hF : ∀ n, F n → h'[n]? = h[n]? := fun n x => a.fr n (g.fb n x) fun i _ z => g.nf i n z x
  intro md r
  cases md with
  | fl => exact ⟨r.1.mono a.ff hF, r.2⟩
  | fz => exact ⟨r.1.mono a.ff hF, r.2⟩
  | bor => exact ⟨r.1.mono (fun n x => Gr.ep a x) fun n x => a.fr n x.1 x.2, r.2⟩
  | fr k => exact RV.mono a.ff hF r fun n hn => a.fr n (t.bd n hn) fun i _ => t.ns n hn i
theorem Tm.keep (a : EP dp io F S h ve env F' S' h' ve') {Sr : List Nat} {lo : Nat} (t : Tm F S lo h Sr) : Tm F' S' lo h' Sr :=
  ⟨t.nd, t.lo, fun n hn => Nat.lt_of_lt_of_le (t.bd n hn) a.hl, fun n hn x => by
    rcases a.fn n x with y | y | ⟨i, _, y⟩
    · exact t.nf n hn y
    · exact absurd (t.bd n hn) (Nat.not_lt.mpr y)
    · exact t.ns n hn i y, fun n hn i x => by
    rcases a.sn i n x with y | y
    · exact t.ns n hn i y
    · exact absurd (t.bd n hn) (Nat.not_lt.mpr y)⟩
theorem Tm.nil {lo : Nat} : Tm F S lo h [] := ⟨List.nodup_nil, (fun _ x => nomatch x), (fun _ x => nomatch x), (fun _ x => nomatch x), (fun _ x => nomatch x)⟩
theorem Tm.low {lo lo' : Nat} {Sr : List Nat} (t : Tm F S lo h Sr) (hl : lo' ≤ lo) : Tm F S lo' h Sr := ⟨t.nd, fun n hn => Nat.le_trans hl (t.lo n hn), t.bd, t.nf, t.ns⟩
theorem RX.mono {x : XU} {y : XD} (hf : ∀ n, F n → F' n) (hh : ∀ n, F n → h'[n]? = h[n]?) (r : RX h F x y) : RX h' F' x y := ⟨r.1, r.2.1, r.2.2.mono hf hh⟩
end

/-! ### judgements -/
/-- how an expression's ends are told -/
def PoE (lo : Nat) (dp : Nat → Nat) (io : List Nat) (F : Nat → Prop) (S : Nat → List Nat) (h : IH) (ve : UE) (env : En) {α β : Type} (R : (Nat → Prop) → (Nat → List Nat) → IH → List Nat → α → β → Prop) : ER α → Res β → Prop
  | .val u ve', r => ∃ d h' F' S' Sr, r = .val d h' ∧ EP dp io F S h ve env F' S' h' ve' ∧ Tm F' S' lo h' Sr ∧ R F' S' h' Sr u d
  | .exc x ve', r => ∃ y h' F' S', r = .exc y h' ∧ EP dp io F S h ve env F' S' h' ve' ∧ RX h' F' x y
  | .stk, _ => True
abbrev RE (io : List Nat) (md : Md) : (Nat → Prop) → (Nat → List Nat) → IH → List Nat → U → D → Prop := fun F S h Sr u d => RM io F S h Sr u d md
abbrev RB : (Nat → Prop) → (Nat → List Nat) → IH → List Nat → Bool → Bool → Prop := fun _ _ _ _ u d => u = d
/-- values of one mode -/
def RA (io : List Nat) (md : Md) : (Nat → Prop) → (Nat → List Nat) → IH → List Nat → List U → List D → Prop := fun F S h Sr us ds => match md with
  | .fl => RFs h F us ds ∧ flats us = true ∧ Sr = []
  | .fz => RFs h F us ds ∧ Sr = []
  | .bor => RFs h (Gr io S h) us ds ∧ Sr = []
  | .fr k => RVs h F k Sr us ds
def SE (dp : Nat → Nat) (io : List Nat) (md : Md) (m : ME) (v : VE) : Prop := ∀ F S h ve env, Gd dp F S h ve env → PoE h.length dp io F S h ve env (RE io md) (v ve) (m env h)
def SB (dp : Nat → Nat) (io : List Nat) (m : MT) (v : VT) : Prop := ∀ F S h ve env, Gd dp F S h ve env → PoE h.length dp io F S h ve env RB (v ve) (m env h)
def SA (dp : Nat → Nat) (io : List Nat) (md : Md) (m : MA) (v : VA) : Prop := ∀ F S h ve env, Gd dp F S h ve env → PoE h.length dp io F S h ve env (RA io md) (v ve) (m env h)
def ER.bind {α β : Type} (r : ER α) (f : α → UE → ER β) : ER β := match r with
  | .val a e => f a e
  | .exc x e => .exc x e
  | .stk => .stk
def ER.bindS {α : Type} (r : ER α) (f : α → UE → UO) : UO := match r with
  | .val a e => f a e
  | .exc x e => .exc x e
  | .stk => .stk
def UO.then (o : UO) (f : UE → UO) : UO := match o with
  | .nx e => f e
  | .rt d e => .rt d e
  | .bk e => .bk e
  | .ct e => .ct e
  | .exc x e => .exc x e
  | .stk => .stk
section
variable {lo lo' : Nat} {dp : Nat → Nat} {io : List Nat} {F F' F2 : Nat → Prop} {S S' S2 : Nat → List Nat} {h h' h2 : IH} {ve ve' ve2 : UE} {env : En}
theorem PoE.bind {α β γ δ : Type} {R : (Nat → Prop) → (Nat → List Nat) → IH → List Nat → α → β → Prop} {R2 : (Nat → Prop) → (Nat → List Nat) → IH → List Nat → γ → δ → Prop} {r : ER α} {m : Res β} {f : α → UE → ER γ} {g : β → IH → Res δ}
    (p : PoE lo dp io F S h ve env R r m) (q : ∀ a b F' S' h' ve' Sr, EP dp io F S h ve env F' S' h' ve' → Tm F' S' lo h' Sr → R F' S' h' Sr a b → PoE lo' dp io F' S' h' ve' env R2 (f a ve') (g b h')) :
    PoE lo' dp io F S h ve env R2 (r.bind f) (m.bind g) := by
  cases r with
  | val a ve1 =>
    obtain ⟨b, h1, F1, S1, Sr, rfl, e1, t1, r1⟩ := p
    have z := q a b F1 S1 h1 ve1 Sr e1 t1 r1
    show PoE lo' dp io F S h ve env R2 (f a ve1) (g b h1)
    revert z
    cases f a ve1 with
    | val c ve2 =>
      rintro ⟨e, h2, F2, S2, Sr2, z1, e2, t2, r2⟩
      exact ⟨e, h2, F2, S2, Sr2, z1, e1.trans e2, t2, r2⟩
    | exc x ve2 =>
      rintro ⟨y, h2, F2, S2, z1, e2, rx⟩
      exact ⟨y, h2, F2, S2, z1, e1.trans e2, rx⟩
    | stk => exact fun _ => trivial
  | exc x ve1 =>
    obtain ⟨y, h1, F1, S1, rfl, e1, rx⟩ := p
    exact ⟨y, h1, F1, S1, rfl, e1, rx⟩
  | stk => trivial
theorem PoE.low {α β : Type} {R : (Nat → Prop) → (Nat → List Nat) → IH → List Nat → α → β → Prop} {r : ER α} {m : Res β} (p : PoE lo dp io F S h ve env R r m) (hl : lo' ≤ lo) : PoE lo' dp io F S h ve env R r m := by
  cases r with
  | val a ve1 =>
    obtain ⟨b, h1, F1, S1, Sr, e, e1, t1, r1⟩ := p
    exact ⟨b, h1, F1, S1, Sr, e, e1, t1.low hl, r1⟩
  | exc x ve1 => exact p
  | stk => trivial
/-- the end of a chain -/
theorem PoE.val {α β : Type} {R : (Nat → Prop) → (Nat → List Nat) → IH → List Nat → α → β → Prop} {a : α} {b : β} {Sr : List Nat} (g : Gd dp F S h ve env) (t : Tm F S lo h Sr) (r : R F S h Sr a b) : PoE lo dp io F S h ve env R (.val a ve) (.val b h) :=
  ⟨b, h, F, S, Sr, rfl, .refl g, t, r⟩
end
/-! ### modes -/
section
variable {dp : Nat → Nat} {io : List Nat} {md : Md} {m : ME} {v : VE} {ma : MA} {va : VA}
theorem PoE.map {lo : Nat} {F : Nat → Prop} {S : Nat → List Nat} {h : IH} {ve : UE} {env : En} {α β : Type} {R R2 : (Nat → Prop) → (Nat → List Nat) → IH → List Nat → α → β → Prop} {r : ER α} {k : Res β} (p : PoE lo dp io F S h ve env R r k)
    (q : ∀ F' S' h' ve' Sr a b, EP dp io F S h ve env F' S' h' ve' → Tm F' S' lo h' Sr → R F' S' h' Sr a b → ∃ F2 Sr2, EP dp io F S h ve env F2 S' h' ve' ∧ Tm F2 S' lo h' Sr2 ∧ R2 F2 S' h' Sr2 a b) : PoE lo dp io F S h ve env R2 r k := by
  cases r with
  | val a ve1 =>
    obtain ⟨b, h1, F1, S1, Sr, rfl, e1, t1, r1⟩ := p
    obtain ⟨F2, Sr2, e2, t2, r2⟩ := q F1 S1 h1 ve1 Sr a b e1 t1 r1
    exact ⟨b, h1, F2, S1, Sr2, rfl, e2, t2, r2⟩
  | exc x ve1 => exact p
  | stk => trivial
theorem SE.fl_fz (p : SE dp io .fl m v) : SE dp io .fz m v := fun F S h ve env g => (p F S h ve env g).map fun F' S' h' ve' Sr a b e t r => ⟨F', Sr, e, t, r.1, r.2.2⟩
theorem SE.fz_bor (p : SE dp io .fz m v) : SE dp io .bor m v := fun F S h ve env g => (p F S h ve env g).map fun F' S' h' ve' Sr a b e t r => ⟨F', Sr, e, t, r.1.mono (fun n x => Gr.of e.gd x) fun _ _ => rfl, r.2⟩
theorem SE.fl_bor (p : SE dp io .fl m v) : SE dp io .bor m v := p.fl_fz.fz_bor
theorem SE.fl_fr (k : Nat) (p : SE dp io .fl m v) : SE dp io (.fr k) m v := fun F S h ve env g => (p F S h ve env g).map fun F' S' h' ve' Sr a b e t ⟨r1, r2, r3⟩ => by
  subst r3
  exact ⟨F', [], e, t, r1.rv k r2⟩
theorem SE.fz_fr0 (p : SE dp io .fz m v) : SE dp io (.fr 0) m v := fun F S h ve env g => (p F S h ve env g).map fun F' S' h' ve' Sr a b e t ⟨r1, r3⟩ => by
  subst r3
  exact ⟨F', [], e, t, .fz r1⟩
/-- what is new is frozen -/
theorem SE.fr_fz {k : Nat} (p : SE dp io (.fr k) m v) : SE dp io .fz m v := fun F S h ve env g => (p F S h ve env g).map fun F' S' h' ve' Sr a b e t r =>
  ⟨fun n => F' n ∨ n ∈ Sr, [], e.frzR t, .nil, RV.frz r (fun _ x => .inl x) fun _ x => .inr x, rfl⟩
theorem SE.fr_bor {k : Nat} (p : SE dp io (.fr k) m v) : SE dp io .bor m v := p.fr_fz.fz_bor
theorem SA.fl_fz (p : SA dp io .fl ma va) : SA dp io .fz ma va := fun F S h ve env g => (p F S h ve env g).map fun F' S' h' ve' Sr a b e t r => ⟨F', Sr, e, t, r.1, r.2.2⟩
theorem SA.fz_bor (p : SA dp io .fz ma va) : SA dp io .bor ma va := fun F S h ve env g => (p F S h ve env g).map fun F' S' h' ve' Sr a b e t r => ⟨F', Sr, e, t, r.1.mono (fun n x => Gr.of e.gd x) fun _ _ => rfl, r.2⟩
theorem SA.fr_fz {k : Nat} (p : SA dp io (.fr k) ma va) : SA dp io .fz ma va := fun F S h ve env g => (p F S h ve env g).map fun F' S' h' ve' Sr a b e t r =>
  ⟨fun n => F' n ∨ n ∈ Sr, [], e.frzR t, .nil, RVs.frz r (fun _ x => .inl x) fun _ x => .inr x, rfl⟩
/-- a value that is looked at: flat -/
def vSolid (v : VE) : VE := fun e => (v e).bind fun u e1 => if flat u = true then .val u e1 else .stk
theorem SE.solid (p : SE dp io .bor m v) : SE dp io .fl m (vSolid v) := fun F S h ve env g => by
  have q := p F S h ve env g
  unfold vSolid
  revert q
  cases v ve with
  | val u e1 =>
    rintro ⟨d, h1, F1, S1, Sr, z, e2, t, r⟩
    show PoE _ _ _ _ _ _ _ _ _ (if flat u = true then _ else _) _
    split
    · rename_i hf
      exact ⟨d, h1, F1, S1, Sr, z, e2, t, r.1.flat hf _ _, hf, r.2⟩
    · trivial
  | exc x e1 => exact fun q => q
  | stk => exact fun q => q
end
end VV
set_option Elab.async false
set_option linter.all false
set_option maxRecDepth 100000
namespace VV
open PySem L2 DD

def ofO (o : Option U) (e : UE) : ER U := match o with
  | some u => .val u e
  | none => .stk
def vVar (i : Nat) : VE := fun e => match e[i]? with
  | some (some u) => .val u e
  | _ => .stk
def vC (u : U) : VE := fun e => .val u e
def vUn (f : U → Option U) (a : VE) : VE := fun e => (a e).bind fun x e1 => ofO (f x) e1
def vBin (f : U → U → Option U) (a b : VE) : VE := fun e => (a e).bind fun x e1 => (b e1).bind fun y e2 => ofO (f x y) e2
def vNil : VA := fun e => .val [] e
def vCons (a : VE) (r : VA) : VA := fun e => (a e).bind fun x e1 => (r e1).bind fun xs e2 => .val (x :: xs) e2
def vOp (f : List U → Option U) (r : VA) : VE := fun e => (r e).bind fun us e1 => ofO (f us) e1
/-- what an operation does: D by U -/
abbrev Nw (h q : IH) (G : Nat → Prop) : Nat → Prop := fun n => G n ∨ (h.length ≤ n ∧ n < (h ++ q).length)
def Od1 (f : D → IH → Res D) (g : U → Option U) : Prop := ∀ h (G : Nat → Prop) u d r, (∀ n, G n → n < h.length) → RF h G u d → g u = some r → ∃ e q, f d h = .val e (h ++ q) ∧ RF (h ++ q) (Nw h q G) r e
def Od2 (f : D → D → IH → Res D) (g : U → U → Option U) : Prop := ∀ h (G : Nat → Prop) u d u' d' r, (∀ n, G n → n < h.length) → RF h G u d → RF h G u' d' → g u u' = some r → ∃ e q, f d d' h = .val e (h ++ q) ∧ RF (h ++ q) (Nw h q G) r e
def OdN (f : List D → IH → Res D) (g : List U → Option U) : Prop := ∀ h (G : Nat → Prop) us ds r, (∀ n, G n → n < h.length) → RFs h G us ds → g us = some r → ∃ e q, f ds h = .val e (h ++ q) ∧ RF (h ++ q) (Nw h q G) r e
structure Nx (h q : IH) (Sr : List Nat) : Prop where
  nd : Sr.Nodup
  lo : ∀ n ∈ Sr, h.length ≤ n
  bd : ∀ n ∈ Sr, n < (h ++ q).length
def Oo2 (k : Nat) (f : D → D → IH → Res D) (g : U → U → Option U) : Prop := ∀ h (G : Nat → Prop) u d u' d' r, (∀ n, G n → n < h.length) → RF h G u d → RF h G u' d' → g u u' = some r → ∃ e q Sr, f d d' h = .val e (h ++ q) ∧ RV (h ++ q) G k Sr r e ∧ Nx h q Sr
def OoN (k : Nat) (f : List D → IH → Res D) (g : List U → Option U) : Prop := ∀ h (G : Nat → Prop) us ds r, (∀ n, G n → n < h.length) → RFs h G us ds → g us = some r → ∃ e q Sr, f ds h = .val e (h ++ q) ∧ RV (h ++ q) G k Sr r e ∧ Nx h q Sr
def Fl1 (g : U → Option U) : Prop := ∀ u r, g u = some r → flat r = true
def Fl2 (g : U → U → Option U) : Prop := ∀ u u' r, g u u' = some r → flat r = true
def FlN (g : List U → Option U) : Prop := ∀ u r, g u = some r → flat r = true
section
variable {lo : Nat} {dp : Nat → Nat} {io : List Nat} {F : Nat → Prop} {S : Nat → List Nat} {h q : IH} {ve : UE} {env : En} {u : U} {d : D}
theorem PoE.opfz (g : Gd dp F S h ve env) (r : RF (h ++ q) (Nw h q F) u d) : PoE lo dp io F S h ve env (RE io .fz) (.val u ve) (.val d (h ++ q)) :=
  ⟨d, h ++ q, _, S, [], rfl, EP.grow g q (fun _ x => .inl x) (fun _ x => x), .nil, r, rfl⟩
theorem Gr.new (g : Gd dp F S h ve env) {n : Nat} (x : Nw h q (Gr io S h) n) : Gr io S (h ++ q) n := by
  rcases x with x | x
  · exact ⟨by rw [List.length_append]; have := x.1; omega, x.2⟩
  · exact ⟨x.2, fun i _ z => by have := g.bd i n z; omega⟩
theorem PoE.opbor (g : Gd dp F S h ve env) (r : RF (h ++ q) (Nw h q (Gr io S h)) u d) : PoE lo dp io F S h ve env (RE io .bor) (.val u ve) (.val d (h ++ q)) :=
  ⟨d, h ++ q, F, S, [], rfl, EP.grow g q (fun _ x => x) (fun _ x => .inl x), .nil, r.mono (fun n x => Gr.new g x) fun _ _ => rfl, rfl⟩
theorem PoE.opfl (g : Gd dp F S h ve env) {G : Nat → Prop} (r : RF (h ++ q) G u d) (hf : flat u = true) : PoE lo dp io F S h ve env (RE io .fl) (.val u ve) (.val d (h ++ q)) :=
  ⟨d, h ++ q, F, S, [], rfl, EP.grow g q (fun _ x => x) (fun _ x => .inl x), .nil, r.flat hf _ _, hf, rfl⟩
theorem PoE.opfr (g : Gd dp F S h ve env) {k : Nat} {Sr : List Nat} (hl : lo ≤ h.length) (r : RV (h ++ q) F k Sr u d) (n : Nx h q Sr) : PoE lo dp io F S h ve env (RE io (.fr k)) (.val u ve) (.val d (h ++ q)) :=
  ⟨d, h ++ q, F, S, Sr, rfl, EP.grow g q (fun _ x => x) (fun _ x => .inl x), ⟨n.nd, fun m hm => Nat.le_trans hl (n.lo m hm), n.bd, fun m hm x => absurd (g.fb m x) (Nat.not_lt.mpr (n.lo m hm)), fun m hm i x => absurd (g.bd i m x) (Nat.not_lt.mpr (n.lo m hm))⟩, r⟩
theorem Gr.bd {n : Nat} (x : Gr io S h n) : n < h.length := x.1
end
section
variable {dp : Nat → Nat} {io : List Nat} {md : Md} {ma mb mc : ME} {va vb vc : VE} {mr : MA} {vr : VA}
theorem se_var (i : Nat) (hi : dp i = 0) : SE dp io .fz (mVar i) (vVar i) := fun F S h ve env g => by
  unfold vVar mVar
  cases e : ve[i]? with
  | none => trivial
  | some o =>
    cases o with
    | none => trivial
    | some u =>
      obtain ⟨d, e1, r⟩ := g.get i u e
      rw [e1]
      rw [hi] at r
      generalize hs : S i = T at r
      cases r with
      | fz r => exact PoE.val g .nil ⟨r, rfl⟩
theorem se_own (i : Nat) (hi : i ∉ io) : SE dp io .bor (mVar i) (vVar i) := fun F S h ve env g => by
  unfold vVar mVar
  cases e : ve[i]? with
  | none => trivial
  | some o =>
    cases o with
    | none => trivial
    | some u =>
      obtain ⟨d, e1, r⟩ := g.get i u e
      rw [e1]
      exact PoE.val g .nil ⟨r.frz (fun n x => Gr.of g x) fun n x => ⟨g.bd i n x, fun j hj y => hi (by rw [g.dj i j n x y]; exact hj)⟩, rfl⟩
theorem se_C {u : U} {d : D} (hf : flat u = true) (r : ∀ h F, RF h F u d) : SE dp io .fl (mC d) (vC u) := fun F S h ve env g => PoE.val g .nil ⟨r h F, hf, rfl⟩
theorem se_int {i : Int} : SE dp io .fl (mC (.int i)) (vC (.int i)) := se_C rfl fun _ _ => .int i
theorem se_str {i : Str} : SE dp io .fl (mC (.str i)) (vC (.str i)) := se_C rfl fun _ _ => .str i
theorem se_bl {i : Bool} : SE dp io .fl (mC (.bl i)) (vC (.bl i)) := se_C rfl fun _ _ => .bl i
theorem se_non : SE dp io .fl (mC .non) (vC .non) := se_C rfl fun _ _ => .non
theorem se_op {v : V} : SE dp io .fl (mC (.op v)) (vC (.op v)) := se_C rfl fun _ _ => .op v
theorem se_un_fl {f : D → IH → Res D} {g : U → Option U} (od : Od1 f g) (fl : Fl1 g) (ha : SE dp io .bor ma va) : SE dp io .fl (mUn f ma) (vUn g va) := fun F S h ve env gd =>
  (ha F S h ve env gd).bind fun x d F1 S1 h1 ve1 Sr e1 t1 r1 => by
    cases z : g x with
    | none => trivial
    | some u =>
      obtain ⟨e, q, z1, z2⟩ := od h1 _ x d u (fun n y => y.1) r1.1 z
      rw [z1]
      exact PoE.opfl e1.gd z2 (fl _ _ z)
/-- two values -/
theorem PoE.two {γ δ : Type} {R2 : (Nat → Prop) → (Nat → List Nat) → IH → List Nat → γ → δ → Prop} {F : Nat → Prop} {S : Nat → List Nat} {h : IH} {ve : UE} {env : En} {lo : Nat} (ha : SE dp io md ma va) (hb : SE dp io md mb vb) (gd : Gd dp F S h ve env) {f : U → U → UE → ER γ} {g : D → D → IH → Res δ}
    (q : ∀ x y a b F' S' h' ve' Sr Tr, EP dp io F S h ve env F' S' h' ve' → Tm F' S' h.length h' Sr → Tm F' S' h.length h' Tr → (∀ n ∈ Sr, n ∉ Tr) → RM io F' S' h' Sr x a md → RM io F' S' h' Tr y b md → PoE lo dp io F' S' h' ve' env R2 (f x y ve') (g a b h')) :
    PoE lo dp io F S h ve env R2 ((va ve).bind fun x e1 => (vb e1).bind fun y e2 => f x y e2) ((ma env h).bind fun a h1 => (mb env h1).bind fun b h2 => g a b h2) :=
  (ha F S h ve env gd).bind fun x a F1 S1 h1 ve1 Sr e1 t1 r1 => by
    have z := (hb F1 S1 h1 ve1 env e1.gd).bind (R2 := R2) (lo' := lo) (f := fun y e2 => f x y e2) (g := fun b h2 => g a b h2) fun y b F2 S2 h2 ve2 Tr e2 t2 r2 =>
      q x y a b F2 S2 h2 ve2 Sr Tr (e1.trans e2) (t1.keep e2) (t2.low e1.hl) (fun n h1 h2 => absurd (t1.bd n h1) (Nat.not_lt.mpr (t2.lo n h2))) (RM.keep e1.gd e2 t1 r1) r2
    exact z
theorem se_bin {f : D → D → IH → Res D} {g : U → U → Option U} (od : Od2 f g) (ha : SE dp io .fz ma va) (hb : SE dp io .fz mb vb) : SE dp io .fz (mBin f ma mb) (vBin g va vb) := fun F S h ve env gd =>
  PoE.two (f := fun x y e => ofO (g x y) e) (g := fun a b h => f a b h) ha hb gd fun x y a b F1 S1 h1 ve1 Sr Tr e1 t1 t2 _ r1 r2 => by
    cases z : g x y with
    | none => trivial
    | some u =>
      obtain ⟨e, q, z1, z2⟩ := od h1 F1 x a y b u e1.gd.fb r1.1 r2.1 z
      rw [z1]
      exact PoE.opfz e1.gd z2
theorem se_binB {f : D → D → IH → Res D} {g : U → U → Option U} (od : Od2 f g) (ha : SE dp io .bor ma va) (hb : SE dp io .bor mb vb) : SE dp io .bor (mBin f ma mb) (vBin g va vb) := fun F S h ve env gd =>
  PoE.two (f := fun x y e => ofO (g x y) e) (g := fun a b h => f a b h) ha hb gd fun x y a b F1 S1 h1 ve1 Sr Tr e1 t1 t2 _ r1 r2 => by
    cases z : g x y with
    | none => trivial
    | some u =>
      obtain ⟨e, q, z1, z2⟩ := od h1 _ x a y b u (fun n y => y.1) r1.1 r2.1 z
      rw [z1]
      exact PoE.opbor e1.gd z2
theorem se_binL {f : D → D → IH → Res D} {g : U → U → Option U} (od : Od2 f g) (fl : Fl2 g) (ha : SE dp io .bor ma va) (hb : SE dp io .bor mb vb) : SE dp io .fl (mBin f ma mb) (vBin g va vb) := fun F S h ve env gd =>
  PoE.two (f := fun x y e => ofO (g x y) e) (g := fun a b h => f a b h) ha hb gd fun x y a b F1 S1 h1 ve1 Sr Tr e1 t1 t2 _ r1 r2 => by
    cases z : g x y with
    | none => trivial
    | some u =>
      obtain ⟨e, q, z1, z2⟩ := od h1 _ x a y b u (fun n y => y.1) r1.1 r2.1 z
      rw [z1]
      exact PoE.opfl e1.gd z2 (fl _ _ _ z)
theorem se_binO {k : Nat} {f : D → D → IH → Res D} {g : U → U → Option U} (od : Oo2 k f g) (ha : SE dp io .fz ma va) (hb : SE dp io .fz mb vb) : SE dp io (.fr k) (mBin f ma mb) (vBin g va vb) := fun F S h ve env gd =>
  PoE.two (f := fun x y e => ofO (g x y) e) (g := fun a b h => f a b h) ha hb gd fun x y a b F1 S1 h1 ve1 Sr Tr e1 t1 t2 _ r1 r2 => by
    cases z : g x y with
    | none => trivial
    | some u =>
      obtain ⟨e, q, T, z1, z2, z3⟩ := od h1 F1 x a y b u e1.gd.fb r1.1 r2.1 z
      rw [z1]
      exact PoE.opfr e1.gd e1.hl z2 z3
/-! lists of expressions -/
theorem sa_nil : SA dp io md mNil vNil := fun F S h ve env g => by
  refine PoE.val g (Sr := []) .nil ?_
  cases md with
  | fl => exact ⟨.nil, rfl, rfl⟩
  | fz => exact ⟨.nil, rfl⟩
  | bor => exact ⟨.nil, rfl⟩
  | fr k => exact RVs.nil
theorem sa_cons (ha : SE dp io md ma va) (hr : SA dp io md mr vr) : SA dp io md (mCons ma mr) (vCons va vr) := fun F S h ve env gd =>
  (ha F S h ve env gd).bind fun x a F1 S1 h1 ve1 Sr e1 t1 r1 => (hr F1 S1 h1 ve1 env e1.gd).bind fun xs as F2 S2 h2 ve2 Tr e2 t2 r2 => by
    have k1 := RM.keep e1.gd e2 t1 r1
    have t3 : Tm F2 S2 h.length h2 (Sr ++ Tr) := by
      have t4 := t1.keep e2
      have t5 := t2.low e1.hl
      refine ⟨?_, fun n hn => ?_, fun n hn => ?_, fun n hn => ?_, fun n hn => ?_⟩
      · rw [List.nodup_append]
        refine ⟨t4.nd, t5.nd, fun a ha b hb e => ?_⟩
        subst e
        exact absurd (t1.bd a ha) (Nat.not_lt.mpr (t2.lo a hb))
      · exact (List.mem_append.mp hn).elim (t4.lo n) (t5.lo n)
      · exact (List.mem_append.mp hn).elim (t4.bd n) (t5.bd n)
      · exact (List.mem_append.mp hn).elim (t4.nf n) (t5.nf n)
      · exact (List.mem_append.mp hn).elim (t4.ns n) (t5.ns n)
    refine PoE.val (Sr := Sr ++ Tr) e2.gd t3 ?_
    cases md with
    | fl =>
      obtain ⟨a1, a2, rfl⟩ := k1
      obtain ⟨b1, b2, rfl⟩ := r2
      exact ⟨.cons a1 b1, by rw [flats, a2, b2]; rfl, rfl⟩
    | fz =>
      obtain ⟨a1, rfl⟩ := k1
      obtain ⟨b1, rfl⟩ := r2
      exact ⟨.cons a1 b1, rfl⟩
    | bor =>
      obtain ⟨a1, rfl⟩ := k1
      obtain ⟨b1, rfl⟩ := r2
      exact ⟨.cons a1 b1, rfl⟩
    | fr k => exact RVs.cons k1 r2
theorem se_call {f : List D → IH → Res D} {g : List U → Option U} (od : OdN f g) (hr : SA dp io .fz mr vr) : SE dp io .fz (mCall f mr) (vOp g vr) := fun F S h ve env gd =>
  (hr F S h ve env gd).bind fun xs as F1 S1 h1 ve1 Sr e1 t1 r1 => by
    cases z : g xs with
    | none => trivial
    | some u =>
      obtain ⟨e, q, z1, z2⟩ := od h1 F1 xs as u e1.gd.fb r1.1 z
      rw [z1]
      exact PoE.opfz e1.gd z2
theorem se_callB {f : List D → IH → Res D} {g : List U → Option U} (od : OdN f g) (hr : SA dp io .bor mr vr) : SE dp io .bor (mCall f mr) (vOp g vr) := fun F S h ve env gd =>
  (hr F S h ve env gd).bind fun xs as F1 S1 h1 ve1 Sr e1 t1 r1 => by
    cases z : g xs with
    | none => trivial
    | some u =>
      obtain ⟨e, q, z1, z2⟩ := od h1 _ xs as u (fun n y => y.1) r1.1 z
      rw [z1]
      exact PoE.opbor e1.gd z2
theorem se_callL {f : List D → IH → Res D} {g : List U → Option U} (od : OdN f g) (fl : FlN g) (hr : SA dp io .bor mr vr) : SE dp io .fl (mCall f mr) (vOp g vr) := fun F S h ve env gd =>
  (hr F S h ve env gd).bind fun xs as F1 S1 h1 ve1 Sr e1 t1 r1 => by
    cases z : g xs with
    | none => trivial
    | some u =>
      obtain ⟨e, q, z1, z2⟩ := od h1 _ xs as u (fun n y => y.1) r1.1 z
      rw [z1]
      exact PoE.opfl e1.gd z2 (fl _ _ z)
theorem se_callO {k : Nat} {f : List D → IH → Res D} {g : List U → Option U} (od : OoN k f g) (hr : SA dp io .fz mr vr) : SE dp io (.fr k) (mCall f mr) (vOp g vr) := fun F S h ve env gd =>
  (hr F S h ve env gd).bind fun xs as F1 S1 h1 ve1 Sr e1 t1 r1 => by
    cases z : g xs with
    | none => trivial
    | some u =>
      obtain ⟨e, q, T, z1, z2, z3⟩ := od h1 F1 xs as u e1.gd.fb r1.1 z
      rw [z1]
      exact PoE.opfr e1.gd e1.hl z2 z3
/-! displays -/
def vTup (r : VA) : VE := fun e => (r e).bind fun us e1 => if us.length ≤ sizeLine then .val (.tup us) e1 else .stk
def vLst (r : VA) : VE := fun e => (r e).bind fun us e1 => if us.length ≤ sizeLine then .val (.lst us) e1 else .stk
theorem RVs.length {h : IH} {F : Nat → Prop} : ∀ {k : Nat} {S : List Nat} {us : List U} {ds : List D}, RVs h F k S us ds → us.length = ds.length
  | _, _, _, _, .nil => rfl
  | _, _, _, _, .cons _ b => by rw [List.length_cons, List.length_cons, b.length]
theorem RA.len {F : Nat → Prop} {S : Nat → List Nat} {h : IH} {Sr : List Nat} {us : List U} {ds : List D} (r : RA io md F S h Sr us ds) : us.length = ds.length := by
  cases md with
  | fl => exact r.1.length
  | fz => exact r.1.length
  | bor => exact r.1.length
  | fr k => exact RVs.length r
theorem se_tup (hr : SA dp io md mr vr) (hm : md ≠ .fr 0) : SE dp io md (mTup mr) (vTup vr) := fun F S h ve env gd =>
  (hr F S h ve env gd).bind fun xs as F1 S1 h1 ve1 Sr e1 t1 r1 => by
    split
    · rename_i hl
      rw [if_pos (by rw [← r1.len]; exact hl)]
      refine PoE.val e1.gd t1 ?_
      cases md with
      | fl => exact ⟨.tup r1.1, r1.2.1, r1.2.2⟩
      | fz => exact ⟨.tup r1.1, r1.2⟩
      | bor => exact ⟨.tup r1.1, r1.2⟩
      | fr k =>
        cases k with
        | zero => exact absurd rfl hm
        | succ k => exact RV.tup r1
    · trivial
theorem last_new (h : IH) (o : IO) : (h ++ [o])[h.length]? = some o := by
  rw [List.getElem?_append_right (Nat.le_refl _), Nat.sub_self]
  rfl
theorem se_lstO {k : Nat} (hr : SA dp io (.fr k) mr vr) : SE dp io (.fr (k + 1)) (mLst mr) (vLst vr) := fun F S h ve env gd =>
  (hr F S h ve env gd).bind fun xs as F1 S1 h1 ve1 Sr e1 t1 r1 => by
    split
    · rename_i hl
      rw [if_pos (by rw [← RVs.length r1]; exact hl)]
      have g2 := EP.grow (io := io) e1.gd [.lst as] (fun _ x => x) (fun _ x => .inl x)
      refine ⟨_, _, F1, S1, h1.length :: Sr, rfl, g2, ?_, RV.ref (last_new h1 _) (RVs.mono (fun _ x => x) (fun n x => List.getElem?_append_left (e1.gd.fb n x)) r1 fun n hn => List.getElem?_append_left (t1.bd n hn))⟩
      refine ⟨List.nodup_cons.mpr ⟨fun hm => absurd (t1.bd _ hm) (Nat.lt_irrefl _), t1.nd⟩, fun n hn => ?_, fun n hn => ?_, fun n hn x => ?_, fun n hn i x => ?_⟩
      · rcases List.mem_cons.mp hn with rfl | hn
        · exact e1.hl
        · exact t1.lo n hn
      · rw [List.length_append, List.length_singleton]
        rcases List.mem_cons.mp hn with rfl | hn
        · omega
        · have := t1.bd n hn
          omega
      · rcases List.mem_cons.mp hn with rfl | hn
        · exact absurd (e1.gd.fb _ x) (Nat.lt_irrefl _)
        · exact t1.nf n hn x
      · rcases List.mem_cons.mp hn with rfl | hn
        · exact absurd (e1.gd.bd _ _ x) (Nat.lt_irrefl _)
        · exact t1.ns n hn i x
    · trivial
theorem SA.fz_fr0 (p : SA dp io .fz mr vr) : SA dp io (.fr 0) mr vr := fun F S h ve env g => (p F S h ve env g).map fun F' S' h' ve' Sr a b e t ⟨r1, r3⟩ => by
  subst r3
  exact ⟨F', [], e, t, r1.rv0⟩
theorem SA.fl_fr (k : Nat) (p : SA dp io .fl mr vr) : SA dp io (.fr k) mr vr := fun F S h ve env g => (p F S h ve env g).map fun F' S' h' ve' Sr a b e t ⟨r1, r2, r3⟩ => by
  subst r3
  exact ⟨F', [], e, t, r1.rv k r2⟩
theorem se_lstB (hr : SA dp io .bor mr vr) : SE dp io .bor (mLst mr) (vLst vr) := fun F S h ve env gd =>
  (hr F S h ve env gd).bind fun xs as F1 S1 h1 ve1 Sr e1 t1 r1 => by
    split
    · rename_i hl
      rw [if_pos (by rw [← r1.1.length]; exact hl)]
      refine PoE.opbor e1.gd (RF.ref (.inr ⟨Nat.le_refl _, by rw [List.length_append, List.length_singleton]; omega⟩) (last_new h1 _) (r1.1.mono (fun n x => .inl x) fun n x => List.getElem?_append_left x.1))
    · trivial
end
end VV
set_option Elab.async false
set_option linter.all false
set_option maxRecDepth 100000
namespace VV
open PySem L2 DD
/-! ### operations -/
theorem same {h : IH} {G : Nat → Prop} {f : Res D} {u : U} {e : D} (z : f = .val e h) (r : RF h G u e) : ∃ e' q, f = .val e' (h ++ q) ∧ RF (h ++ q) (Nw h q G) u e' :=
  ⟨e, [], by rw [List.append_nil]; exact z, by rw [List.append_nil]; exact r.mono (fun _ x => .inl x) fun _ _ => rfl⟩
def uSub : U → U → Option U
  | .int i, .int j => some (.int (i - j))
  | _, _ => none
def uMod : U → U → Option U
  | .int i, .int j => if 0 < j then some (.int (i % j)) else none
  | _, _ => none
def uDiv : U → U → Option U
  | .int i, .int j => if 0 < j ∧ (j < 1073741824 ∨ j.natAbs.log2 < 9000) then some (.int (i / j)) else none
  | _, _ => none
def uPow : U → U → Option U
  | .int i, .int j => if 0 ≤ j ∧ j ≤ 1000000 ∧ i.natAbs < 2 ^ 64 then some (.int (i ^ j.toNat)) else none
  | _, _ => none
def uNeg : U → Option U
  | .int i => some (.int (-i))
  | _ => none
def uCmp (p : Int → Int → Bool) : U → U → Option U
  | .int i, .int j => some (.bl (p i j))
  | _, _ => none
abbrev uLt := uCmp fun i j => decide (i < j)
abbrev uLe := uCmp fun i j => decide (i ≤ j)
abbrev uGt := uCmp fun i j => decide (j < i)
abbrev uGe := uCmp fun i j => decide (j ≤ i)
def uAdd : U → U → Option U
  | .int i, .int j => some (.int (i + j))
  | .str x, .str y => if x.length + y.length ≤ sizeLine then some (.str (x ++ y)) else none
  | .tup xs, .tup ys => if xs.length + ys.length ≤ sizeLine then some (.tup (xs ++ ys)) else none
  | .lst xs, .lst ys => if xs.length + ys.length ≤ sizeLine then some (.lst (xs ++ ys)) else none
  | _, _ => none
def uIAdd : U → U → Option U
  | .int i, .int j => some (.int (i + j))
  | .str x, .str y => if x.length + y.length ≤ sizeLine then some (.str (x ++ y)) else none
  | _, _ => none
def uMul : U → U → Option U
  | .int i, .int j => if (-(2 ^ 64) < i ∧ i < 2 ^ 64) ∨ (-(2 ^ 64) < j ∧ j < 2 ^ 64) then some (.int (i * j)) else none
  | .str z, .int k => if -1000000 ≤ k ∧ k ≤ 1000000 ∧ z.length ≤ 1000000 ∧ z.length * k.toNat ≤ sizeLine then some (.str (Txt.mul z k)) else none
  | .tup ds, .int k => if 0 < ds.length ∧ 2 ≤ k ∧ k ≤ 1000 ∧ ds.length ≤ 1000 then some (.tup (List.replicate k.toNat ds).flatten) else none
  | .lst xs, .int k => if -(2 ^ 63) ≤ k ∧ k < 2 ^ 63 ∧ xs.length * k.toNat ≤ sizeLine then some (.lst (List.replicate k.toNat xs).flatten) else none
  | _, _ => none
theorem od_sub : Od2 pySub uSub := fun h G u d u' d' r hb a b e => by
  cases a <;> cases b <;> simp only [uSub, reduceCtorEq, Option.some.injEq] at e
  subst e
  exact same rfl (.int _)
theorem od_mod : Od2 pyMod uMod := fun h G u d u' d' r hb a b e => by
  cases a <;> cases b <;> simp only [uMod, reduceCtorEq, Option.some.injEq] at e
  split at e <;> cases e
  rename_i z
  exact same (by simp only [pyMod, if_pos z]) (.int _)
theorem od_div : Od2 pyDiv uDiv := fun h G u d u' d' r hb a b e => by
  cases a <;> cases b <;> simp only [uDiv, reduceCtorEq, Option.some.injEq] at e
  split at e <;> cases e
  rename_i z
  exact same (by simp only [pyDiv, if_pos z]) (.int _)
theorem od_pow : Od2 pyPow uPow := fun h G u d u' d' r hb a b e => by
  cases a <;> cases b <;> simp only [uPow, reduceCtorEq, Option.some.injEq] at e
  split at e <;> cases e
  rename_i z
  exact same (by simp only [pyPow, if_pos z]) (.int _)
theorem od_neg : Od1 pyNeg uNeg := fun h G u d r hb a e => by
  cases a <;> simp only [uNeg, reduceCtorEq, Option.some.injEq] at e
  subst e
  exact same rfl (.int _)
theorem od_cmp {p : Int → Int → Bool} : Od2 (pyCmp p) (uCmp p) := fun h G u d u' d' r hb a b e => by
  cases a <;> cases b <;> simp only [uCmp, reduceCtorEq, Option.some.injEq] at e
  subst e
  exact same rfl (.bl _)
theorem fl_sub : Fl2 uSub := fun u u' r e => by
  unfold uSub at e
  split at e <;> cases e
  rfl
theorem fl_mod : Fl2 uMod := fun u u' r e => by
  unfold uMod at e
  split at e <;> (try split at e) <;> cases e
  rfl
theorem fl_div : Fl2 uDiv := fun u u' r e => by
  unfold uDiv at e
  split at e <;> (try split at e) <;> cases e
  rfl
theorem fl_pow : Fl2 uPow := fun u u' r e => by
  unfold uPow at e
  split at e <;> (try split at e) <;> cases e
  rfl
theorem fl_neg : Fl1 uNeg := fun u r e => by
  unfold uNeg at e
  split at e <;> cases e
  rfl
theorem fl_cmp {p : Int → Int → Bool} : Fl2 (uCmp p) := fun u u' r e => by
  unfold uCmp at e
  split at e <;> cases e
  rfl
theorem nw_last (h : IH) (o : IO) (G : Nat → Prop) : Nw h [o] G h.length := .inr ⟨Nat.le_refl _, by rw [List.length_append, List.length_singleton]; omega⟩
theorem RFs.grow {h q : IH} {G : Nat → Prop} (hb : ∀ n, G n → n < h.length) {us : List U} {ds : List D} (r : RFs h G us ds) : RFs (h ++ q) (Nw h q G) us ds := r.mono (fun _ x => .inl x) fun n x => List.getElem?_append_left (hb n x)
theorem RF.grow {h q : IH} {G : Nat → Prop} (hb : ∀ n, G n → n < h.length) {us : U} {ds : D} (r : RF h G us ds) : RF (h ++ q) (Nw h q G) us ds := r.mono (fun _ x => .inl x) fun n x => List.getElem?_append_left (hb n x)
theorem lstAt_of {h : IH} {n : Nat} {ds : List D} (e : h[n]? = some (.lst ds)) : lstAt h n = some ds := by
  unfold lstAt
  rw [e]
/-- a new list -/
theorem newL {h : IH} {G : Nat → Prop} (hb : ∀ n, G n → n < h.length) {us : List U} {ds : List D} (r : RFs h G us ds) : RF (h ++ [.lst ds]) (Nw h [.lst ds] G) (.lst us) (.ref h.length) := .ref (nw_last _ _ _) (last_new _ _) (r.grow hb)
theorem newO {h : IH} {G : Nat → Prop} (hb : ∀ n, G n → n < h.length) {us : List U} {ds : List D} (r : RFs h G us ds) : RV (h ++ [.lst ds]) G 1 [h.length] (.lst us) (.ref h.length) ∧ Nx h [.lst ds] [h.length] :=
  ⟨.ref (last_new _ _) (r.mono (fun _ x => x) fun n x => List.getElem?_append_left (hb n x)).rv0, List.nodup_cons.mpr ⟨by simp, List.nodup_nil⟩, fun n hn => by rw [List.mem_singleton.mp hn]; exact Nat.le_refl _, fun n hn => by rw [List.mem_singleton.mp hn, List.length_append, List.length_singleton]; omega⟩
theorem od_add : Od2 pyAdd uAdd := fun h G u d u' d' r hb a b e => by
  cases a <;> cases b <;> simp only [uAdd, reduceCtorEq, Option.some.injEq] at e
  · subst e
    exact same rfl (.int _)
  · split at e <;> cases e
    rename_i z
    exact same (by simp only [pyAdd, if_pos z]) (.str _)
  · split at e <;> cases e
    rename_i r1 _ _ r2 z
    exact same (by simp only [pyAdd, ← r1.length, ← r2.length, if_pos z]) (.tup (r1.append r2))
  · split at e <;> cases e
    rename_i f1 h1 r1 _ _ _ f2 h2 r2 z
    exact ⟨_, [_], by simp only [pyAdd, lstAt_of h1, lstAt_of h2, ← r1.length, ← r2.length, if_pos z], newL hb (r1.append r2)⟩
/-- lists alone -/
def uCat : U → U → Option U
  | .lst xs, .lst ys => if xs.length + ys.length ≤ sizeLine then some (.lst (xs ++ ys)) else none
  | _, _ => none
theorem oo_cat : Oo2 1 pyAdd uCat := fun h G u d u' d' r hb a b e => by
  cases a <;> cases b <;> simp only [uCat, reduceCtorEq, Option.some.injEq] at e
  split at e <;> cases e
  rename_i f1 h1 r1 _ _ _ f2 h2 r2 z
  exact ⟨_, [_], _, by simp only [pyAdd, lstAt_of h1, lstAt_of h2, ← r1.length, ← r2.length, if_pos z], newO hb (r1.append r2)⟩
theorem od_iadd : Od2 pyIAdd uIAdd := fun h G u d u' d' r hb a b e => by
  cases a <;> cases b <;> simp only [uIAdd, reduceCtorEq, Option.some.injEq] at e
  · subst e
    exact same rfl (.int _)
  · split at e <;> cases e
    rename_i z
    exact same (by simp only [pyIAdd, if_pos z]) (.str _)
theorem fl_iadd : Fl2 uIAdd := fun u u' r e => by
  unfold uIAdd at e
  split at e <;> (try split at e) <;> cases e <;> rfl
theorem od_mul : Od2 pyMul uMul := fun h G u d u' d' r hb a b e => by
  cases a <;> cases b <;> simp only [uMul, reduceCtorEq, Option.some.injEq] at e
  · split at e <;> cases e
    rename_i z
    exact same (by simp only [pyMul, if_pos z]) (.int _)
  · split at e <;> cases e
    rename_i z
    exact same (by simp only [pyMul, if_pos z]) (.str _)
  · split at e <;> cases e
    rename_i r1 _ z
    exact same (by simp only [pyMul, ← r1.length, if_pos z]) (.tup (r1.replicate _))
  · split at e <;> cases e
    rename_i f1 h1 r1 _ z
    exact ⟨_, [_], by simp only [pyMul, lstAt_of h1, ← r1.length, if_pos z], newL hb (r1.replicate _)⟩
def uRep : U → U → Option U
  | .lst xs, .int k => if -(2 ^ 63) ≤ k ∧ k < 2 ^ 63 ∧ xs.length * k.toNat ≤ sizeLine then some (.lst (List.replicate k.toNat xs).flatten) else none
  | _, _ => none
theorem oo_rep : Oo2 1 pyMul uRep := fun h G u d u' d' r hb a b e => by
  cases a <;> cases b <;> simp only [uRep, reduceCtorEq, Option.some.injEq] at e
  split at e <;> cases e
  rename_i f1 h1 r1 _ z
  exact ⟨_, [_], _, by simp only [pyMul, lstAt_of h1, ← r1.length, if_pos z], newO hb (r1.replicate _)⟩
/-! by data -/
def toPyU : Nat → U → Option PyData
  | 0, _ => none
  | n + 1, u => match u with
    | .non => some .none
    | .bl b => some (.bool b)
    | .int i => some (.int i)
    | .str x => some (.str x)
    | .tup us => (mapO (toPyU n) us).map .tuple
    | .fl us => (mapO (toPyU n) us).map .list
    | .lst us => (mapO (toPyU n) us).map .list
    | .dic _ => none
    | .op _ => none
theorem mapO_cons {α β : Type} {f : α → Option β} {x : α} {xs : List α} {r : List β} (e : mapO f (x :: xs) = some r) : ∃ a b, f x = some a ∧ mapO f xs = some b ∧ r = a :: b := by
  have e' : (match f x, mapO f xs with
      | some a, some b => some (a :: b)
      | _, _ => none) = some r := e
  cases z1 : f x with
  | none =>
    rw [z1] at e'
    cases e'
  | some a =>
    cases z2 : mapO f xs with
    | none =>
      rw [z1, z2] at e'
      cases e'
    | some b =>
      rw [z1, z2] at e'
      cases e'
      exact ⟨a, b, rfl, rfl, rfl⟩
theorem mapO_cons' {α β : Type} {f : α → Option β} {x : α} {xs : List α} {a : β} {b : List β} (h1 : f x = some a) (h2 : mapO f xs = some b) : mapO f (x :: xs) = some (a :: b) := by
  show (match f x, mapO f xs with
      | some a, some b => some (a :: b)
      | _, _ => none) = _
  rw [h1, h2]
theorem mapO_rel {h : IH} {G : Nat → Prop} {n : Nat} (ih : ∀ {u : U} {d : D} {p : PyData}, RF h G u d → toPyU n u = some p → toPy n h d = some p) : ∀ {us : List U} {ds : List D} {ps : List PyData}, RFs h G us ds → mapO (toPyU n) us = some ps → mapO (toPy n h) ds = some ps
  | _, _, _, .nil, e => e
  | _, _, _, .cons a b, e => by
    obtain ⟨x, xs, e1, e2, rfl⟩ := VV.mapO_cons e
    exact VV.mapO_cons' (ih a e1) (mapO_rel ih b e2)
theorem toPy_ok {h : IH} {G : Nat → Prop} : ∀ {n : Nat} {u : U} {d : D} {p : PyData}, RF h G u d → toPyU n u = some p → toPy n h d = some p
  | 0, _, _, _, _, e => by cases e
  | n + 1, _, _, _, .non, e => e
  | n + 1, _, _, _, .bl b, e => e
  | n + 1, _, _, _, .int b, e => e
  | n + 1, _, _, _, .str b, e => e
  | n + 1, _, _, _, .op b, e => e
  | n + 1, _, _, _, .tup (us := us) r, e => by
    have e' : (mapO (toPyU n) us).map PyData.tuple = some _ := e
    cases z : mapO (toPyU n) us with
    | none =>
      rw [z] at e'
      cases e'
    | some ps =>
      rw [z] at e'
      simp only [toPy, mapO_rel (fun r e => toPy_ok r e) r z]
      exact e'
  | n + 1, _, _, _, .fl (us := us) r, e => by
    have e' : (mapO (toPyU n) us).map PyData.list = some _ := e
    cases z : mapO (toPyU n) us with
    | none =>
      rw [z] at e'
      cases e'
    | some ps =>
      rw [z] at e'
      simp only [toPy, mapO_rel (fun r e => toPy_ok r e) r z]
      exact e'
  | n + 1, _, _, _, .ref (us := us) f hn r, e => by
    have e' : (mapO (toPyU n) us).map PyData.list = some _ := e
    cases z : mapO (toPyU n) us with
    | none =>
      rw [z] at e'
      cases e'
    | some ps =>
      rw [z] at e'
      simp only [toPy, lstAt_of hn, mapO_rel (fun r e => toPy_ok r e) r z]
      exact e'
  | n + 1, _, _, _, .dic _ _ _ _, e => by cases e
def eqTU (a b : U) : Option Bool := match toPyU 12 a, toPyU 12 b with
  | some p, some q => if (SeqAt.shaped p && SeqAt.shaped q) = true then some (PyData.eqv p q) else none
  | _, _ => none
def eqU (a b : U) : Option Bool := match a, b with
  | .int i, .int j => some (decide (i = j))
  | .str x, .str y => some (decide (x = y))
  | a, b => eqTU a b
theorem eqTU_ok {h : IH} {G : Nat → Prop} {a b : U} {c d : D} {k : Bool} (ra : RF h G a c) (rb : RF h G b d) (e : eqTU a b = some k) : eqT h c d = some k := by
  unfold eqTU at e
  unfold eqT
  cases z1 : toPyU 12 a with
  | none =>
    rw [z1] at e
    cases e
  | some p =>
    cases z2 : toPyU 12 b with
    | none =>
      rw [z1, z2] at e
      cases e
    | some q =>
      rw [z1, z2] at e
      rw [toPy_ok ra z1, toPy_ok rb z2]
      exact e
theorem eqU_ok {h : IH} {G : Nat → Prop} {a b : U} {c d : D} {k : Bool} (ra : RF h G a c) (rb : RF h G b d) (e : eqU a b = some k) : eqO h c d = some k := by
  unfold eqU at e
  split at e
  · cases ra
    cases rb
    exact e
  · cases ra
    cases rb
    exact e
  · rename_i n1 n2
    have z := eqTU_ok ra rb e
    unfold eqO
    split
    · cases ra
      cases rb
      exact (n1 _ _ rfl rfl).elim
    · cases ra
      cases rb
      exact (n2 _ _ rfl rfl).elim
    · exact z
def uEq (a b : U) : Option U := (eqU a b).map .bl
def uNe (a b : U) : Option U := (eqU a b).map fun k => .bl !k
theorem od_eq : Od2 pyEq uEq := fun h G u d u' d' r hb a b e => by
  unfold uEq at e
  cases z : eqU u u' with
  | none =>
    rw [z] at e
    cases e
  | some k =>
    rw [z] at e
    cases e
    exact same (by simp only [pyEq, eqU_ok a b z]) (.bl _)
theorem od_ne : Od2 pyNe uNe := fun h G u d u' d' r hb a b e => by
  unfold uNe at e
  cases z : eqU u u' with
  | none =>
    rw [z] at e
    cases e
  | some k =>
    rw [z] at e
    cases e
    exact same (by simp only [pyNe, eqU_ok a b z]) (.bl _)
theorem fl_eq : Fl2 uEq := fun u u' r e => by
  unfold uEq at e
  cases z : eqU u u' <;> rw [z] at e <;> cases e
  rfl
theorem fl_ne : Fl2 uNe := fun u u' r e => by
  unfold uNe at e
  cases z : eqU u u' <;> rw [z] at e <;> cases e
  rfl
def isNonU : U → Option Bool
  | .non => some true
  | .op _ => none
  | _ => some false
def uIs (a b : U) : Option U := match isNonU a, b with
  | some k, .non => some (.bl k)
  | _, _ => none
def uIsNot (a b : U) : Option U := match isNonU a, b with
  | some k, .non => some (.bl !k)
  | _, _ => none
theorem od_is : Od2 pyIs uIs := fun h G u d u' d' r hb a b e => by
  cases a <;> cases b <;> simp only [uIs, isNonU, reduceCtorEq, Option.some.injEq] at e <;> (subst e; exact same rfl (.bl _))
theorem od_isNot : Od2 pyIsNot uIsNot := fun h G u d u' d' r hb a b e => by
  cases a <;> cases b <;> simp only [uIsNot, isNonU, reduceCtorEq, Option.some.injEq] at e <;> (subst e; exact same rfl (.bl _))
theorem fl_is : Fl2 uIs := fun u u' r e => by
  unfold uIs at e
  split at e <;> cases e
  rfl
theorem fl_isNot : Fl2 uIsNot := fun u u' r e => by
  unfold uIsNot at e
  split at e <;> cases e
  rfl
def tyU : U → Option String
  | .non => some "NoneType"
  | .bl _ => some "bool"
  | .int _ => some "int"
  | .str _ => some "str"
  | .tup _ => some "tuple"
  | .fl _ => some "list"
  | .lst _ => some "list"
  | .dic _ => some "dict"
  | .op _ => none
theorem tyU_ok {h : IH} {G : Nat → Prop} {a : U} {c : D} {t : String} (r : RF h G a c) (e : tyU a = some t) : tyD h c = some t := by
  cases r <;> first
    | exact e
    | (rename_i hn _; simp only [tyD, hn]; exact e)
    | (rename_i hn _ _; simp only [tyD, hn]; exact e)
def uIsi : List U → Option U := fun as => match as with
  | [x, .op (.ty u)] => match tyU x with
    | some t => if (knownT t && knownT u && u != "NoneType") = true then some (.bl (isiB t u)) else none
    | none => none
  | _ => none
theorem od_isi : OdN pyIsi uIsi := fun h G us ds r hb rs e => by
  unfold uIsi at e
  split at e
  · rename_i x u
    split at e
    · rename_i t z
      split at e
      · rename_i z2
        cases e
        cases rs with
        | cons a b => cases b with
          | cons b c => cases c with
            | nil => cases b with
              | op => exact same (by simp only [pyIsi, tyU_ok a z, if_pos z2]) (.bl _)
      · cases e
    · cases e
  · cases e
theorem fl_isi : FlN uIsi := fun us r e => by
  unfold uIsi at e
  split at e
  · split at e
    · split at e <;> cases e
      rfl
    · cases e
  · cases e
def lenU : U → Option Nat
  | .str x => if x.length ≤ sizeLine then some x.length else none
  | .tup ds => some ds.length
  | .fl ds => some ds.length
  | .lst ds => some ds.length
  | _ => none
theorem lenU_ok {h : IH} {G : Nat → Prop} {a : U} {c : D} {t : Nat} (r : RF h G a c) (e : lenU a = some t) : lenD h c = some t := by
  cases r with
  | tup r =>
    simp only [lenU, lenD] at e ⊢
    rw [← r.length]
    exact e
  | fl r =>
    simp only [lenU, lenD] at e ⊢
    rw [← r.length]
    exact e
  | ref f hn r =>
    simp only [lenU, lenD, lstAt_of hn, Option.map_some] at e ⊢
    rw [← r.length]
    exact e
  | str x => exact e
  | _ => cases e
def uLen : List U → Option U := fun as => match as with
  | [x] => (lenU x).map fun n => .int (n : Nat)
  | _ => none
theorem od_len : OdN pyLen uLen := fun h G us ds r hb rs e => by
  unfold uLen at e
  split at e
  · rename_i x
    cases z : lenU x with
    | none =>
      rw [z] at e
      cases e
    | some n =>
      rw [z] at e
      cases e
      cases rs with
      | cons a b => cases b with
        | nil => exact same (by simp only [DD.pyLen, lenU_ok a z]) (.int _)
  · cases e
theorem fl_len : FlN uLen := fun us r e => by
  unfold uLen at e
  split at e
  · rename_i x
    cases z : lenU x <;> rw [z] at e <;> cases e
    rfl
  · cases e
def uInt : List U → Option U := fun as => match as with
  | [.int i] => some (.int i)
  | [.bl k] => some (.int (if k = true then 1 else 0))
  | _ => none
theorem od_int : OdN pyInt uInt := fun h G us ds r hb rs e => by
  cases rs with
  | nil => cases e
  | cons a b => cases b with
    | nil => cases a <;> first | (cases e; exact same rfl (.int _)) | cases e
    | cons b c => cases a <;> cases e
theorem fl_int : FlN uInt := fun us r e => by
  unfold uInt at e
  split at e <;> cases e <;> rfl
def seqU : U → Option (List U)
  | .fl ds => some ds
  | .lst ds => some ds
  | _ => none
theorem seqU_ok {h : IH} {G : Nat → Prop} {a : U} {c : D} {us : List U} (r : RF h G a c) (e : seqU a = some us) : ∃ ds, seqL h c = some ds ∧ RFs h G us ds := by
  cases r with
  | fl r =>
    cases e
    exact ⟨_, rfl, r⟩
  | ref f hn r =>
    cases e
    exact ⟨_, lstAt_of hn, r⟩
  | _ => cases e
def uTuple : List U → Option U := fun as => match as with
  | [.tup ds] => some (.tup ds)
  | [x] => (seqU x).map .tup
  | _ => none
theorem od_tuple : OdN pyTuple uTuple := fun h G us ds r hb rs e => by
  cases rs with
  | nil => cases e
  | cons a b => cases b with
    | nil => cases a with
      | tup q =>
        cases e
        exact same rfl (.tup q)
      | fl q =>
        cases e
        exact same rfl (.tup q)
      | ref f hn q =>
        cases e
        exact same (by simp only [pyTuple, seqL, lstAt_of hn]) (.tup q)
      | _ => cases e
    | cons b c => cases a <;> cases e
def uList : List U → Option U := fun as => match as with
  | [.tup ds] => some (.lst ds)
  | [x] => (seqU x).map .lst
  | _ => none
theorem list_cases {h : IH} {G : Nat → Prop} {us : List U} {ds : List D} {r : U} (rs : RFs h G us ds) (e : uList us = some r) : ∃ vs es, r = .lst vs ∧ RFs h G vs es ∧ pyList ds h = .val (.ref h.length) (h ++ [.lst es]) := by
  cases rs with
  | nil => cases e
  | cons a b => cases b with
    | nil => cases a with
      | tup q =>
        cases e
        exact ⟨_, _, rfl, q, rfl⟩
      | fl q =>
        cases e
        exact ⟨_, _, rfl, q, rfl⟩
      | ref f hn q =>
        cases e
        exact ⟨_, _, rfl, q, by simp only [pyList, seqD, seqL, lstAt_of hn]⟩
      | _ => cases e
    | cons b c => cases a <;> cases e
theorem od_list : OdN pyList uList := fun h G us ds r hb rs e => by
  obtain ⟨vs, es, rfl, q, z⟩ := list_cases rs e
  exact ⟨_, _, z, newL hb q⟩
theorem oo_list : OoN 1 pyList uList := fun h G us ds r hb rs e => by
  obtain ⟨vs, es, rfl, q, z⟩ := list_cases rs e
  exact ⟨_, _, _, z, newO hb q⟩
def intsU : List U → Option (List Int) := mapO fun d => match d with
  | .int i => some i
  | _ => none
def boolsU : List U → Option (List Bool) := mapO fun d => match d with
  | .bl i => some i
  | _ => none
theorem intsU_ok {h : IH} {G : Nat → Prop} : ∀ {us : List U} {ds : List D} {ns : List Int}, RFs h G us ds → intsU us = some ns → intsD ds = some ns
  | _, _, _, .nil, e => e
  | _, _, _, .cons a b, e => by
    obtain ⟨x, xs, e1, e2, rfl⟩ := mapO_cons e
    refine mapO_cons' ?_ (intsU_ok b e2)
    cases a <;> first | exact e1 | cases e1
theorem boolsU_ok {h : IH} {G : Nat → Prop} : ∀ {us : List U} {ds : List D} {ns : List Bool}, RFs h G us ds → boolsU us = some ns → boolsD ds = some ns
  | _, _, _, .nil, e => e
  | _, _, _, .cons a b, e => by
    obtain ⟨x, xs, e1, e2, rfl⟩ := mapO_cons e
    refine mapO_cons' ?_ (boolsU_ok b e2)
    cases a <;> first | exact e1 | cases e1
def seqTU : U → Option (List U)
  | .tup ds => some ds
  | d => seqU d
theorem seqTU_ok {h : IH} {G : Nat → Prop} {a : U} {c : D} {us : List U} (r : RF h G a c) (e : seqTU a = some us) : ∃ ds, seqD h c = some ds ∧ RFs h G us ds := by
  cases r with
  | tup r =>
    cases e
    exact ⟨_, rfl, r⟩
  | fl r =>
    cases e
    exact ⟨_, rfl, r⟩
  | ref f hn r =>
    cases e
    exact ⟨_, lstAt_of hn, r⟩
  | _ => cases e
def uSum : List U → Option U := fun as => match as with
  | [x] => match seqTU x with
    | some ds => (intsU ds).map fun ns => .int ns.sum
    | none => none
  | _ => none
def uAll : List U → Option U := fun as => match as with
  | [x] => match seqU x with
    | some ds => (boolsU ds).map fun ns => .bl (ns.all id)
    | none => none
  | _ => none
def uAny : List U → Option U := fun as => match as with
  | [x] => match seqU x with
    | some ds => (boolsU ds).map fun ns => .bl (ns.any id)
    | none => none
  | _ => none
theorem od_sum : OdN pySum uSum := fun h G us ds r hb rs e => by
  unfold uSum at e
  split at e
  · rename_i x
    cases rs with
    | cons a b => cases b with
      | nil =>
        split at e
        · rename_i vs z
          obtain ⟨es, z1, z2⟩ := seqTU_ok a z
          cases z3 : intsU vs with
          | none =>
            rw [z3] at e
            cases e
          | some ns =>
            rw [z3] at e
            cases e
            exact same (by simp only [pySum, z1, intsU_ok z2 z3]) (.int _)
        · cases e
  · cases e
theorem fl_sum : FlN uSum := fun us r e => by
  unfold uSum at e
  split at e
  · split at e
    · rename_i ds _
      cases z : intsU ds <;> rw [z] at e <;> cases e
      rfl
    · cases e
  · cases e
theorem od_all : OdN pyAll uAll := fun h G us ds r hb rs e => by
  unfold uAll at e
  split at e
  · rename_i x
    cases rs with
    | cons a b => cases b with
      | nil =>
        split at e
        · rename_i vs z
          obtain ⟨es, z1, z2⟩ := seqU_ok a z
          cases z3 : boolsU vs with
          | none =>
            rw [z3] at e
            cases e
          | some ns =>
            rw [z3] at e
            cases e
            exact same (by simp only [pyAll, z1, boolsU_ok z2 z3]) (.bl _)
        · cases e
  · cases e
theorem fl_all : FlN uAll := fun us r e => by
  unfold uAll at e
  split at e
  · split at e
    · rename_i ds _
      cases z : boolsU ds <;> rw [z] at e <;> cases e
      rfl
    · cases e
  · cases e
theorem od_any : OdN pyAny uAny := fun h G us ds r hb rs e => by
  unfold uAny at e
  split at e
  · rename_i x
    cases rs with
    | cons a b => cases b with
      | nil =>
        split at e
        · rename_i vs z
          obtain ⟨es, z1, z2⟩ := seqU_ok a z
          cases z3 : boolsU vs with
          | none =>
            rw [z3] at e
            cases e
          | some ns =>
            rw [z3] at e
            cases e
            exact same (by simp only [pyAny, z1, boolsU_ok z2 z3]) (.bl _)
        · cases e
  · cases e
theorem fl_any : FlN uAny := fun us r e => by
  unfold uAny at e
  split at e
  · split at e
    · rename_i ds _
      cases z : boolsU ds <;> rw [z] at e <;> cases e
      rfl
    · cases e
  · cases e
end VV
set_option Elab.async false
set_option linter.all false
set_option maxRecDepth 100000
namespace VV
open PySem L2 DD
/-! ### min, max, repr -/
def ofPyU : Nat → PyData → Option U
  | 0, _ => none
  | n + 1, p => match p with
    | .none => some .non
    | .bool b => some (.bl b)
    | .int i => some (.int i)
    | .str x => some (.str x)
    | .tuple ps => (mapO (ofPyU n) ps).map .tup
    | _ => none
theorem ofPy_all {n : Nat} (ih : ∀ {p : PyData} {u : U}, ofPyU n p = some u → ∃ d, ofPy n p = some d ∧ (∀ h G, RF h G u d) ∧ flat u = true) : ∀ {ps : List PyData} {us : List U}, mapO (ofPyU n) ps = some us → ∃ ds, mapO (ofPy n) ps = some ds ∧ (∀ h G, RFs h G us ds) ∧ flats us = true
  | [], _, e => by
    cases e
    exact ⟨[], rfl, fun _ _ => .nil, rfl⟩
  | p :: ps, _, e => by
    obtain ⟨a, b, e1, e2, rfl⟩ := mapO_cons e
    obtain ⟨d, z1, z2, z3⟩ := ih e1
    obtain ⟨ds, y1, y2, y3⟩ := ofPy_all ih e2
    exact ⟨d :: ds, mapO_cons' z1 y1, fun h G => .cons (z2 h G) (y2 h G), by rw [flats, z3, y3]; rfl⟩
theorem ofPy_ok : ∀ {n : Nat} {p : PyData} {u : U}, ofPyU n p = some u → ∃ d, ofPy n p = some d ∧ (∀ h G, RF h G u d) ∧ flat u = true
  | 0, _, _, e => by cases e
  | n + 1, p, u, e => by
    cases p with
    | none =>
      cases e
      exact ⟨_, rfl, fun _ _ => .non, rfl⟩
    | bool b =>
      cases e
      exact ⟨_, rfl, fun _ _ => .bl b, rfl⟩
    | int b =>
      cases e
      exact ⟨_, rfl, fun _ _ => .int b, rfl⟩
    | str b =>
      cases e
      exact ⟨_, rfl, fun _ _ => .str b, rfl⟩
    | tuple ps =>
      have e' : (mapO (ofPyU n) ps).map U.tup = some u := e
      cases z : mapO (ofPyU n) ps with
      | none =>
        rw [z] at e'
        cases e'
      | some us =>
        rw [z] at e'
        cases e'
        obtain ⟨ds, y1, y2, y3⟩ := ofPy_all (fun e => ofPy_ok e) z
        exact ⟨.tup ds, by simp only [ofPy, y1, Option.map_some], fun h G => .tup (y2 h G), y3⟩
    | _ => cases e
def bestU (g : PyData → List PyData → PyData) (ds : List U) : Option U := match mapO (toPyU 12) ds with
  | some (p :: ps) => if (alikeB (p :: ps) && PyData.canLayAll0 (p :: ps) && decide (PyData.depthAll (p :: ps) ≤ 60)) = true then ofPyU 12 (g p ps) else none
  | _ => none
theorem best_ok {g : PyData → List PyData → PyData} {h : IH} {G : Nat → Prop} {us : List U} {ds : List D} {u : U} (r : RFs h G us ds) (e : bestU g us = some u) : ∃ d, bestO g h ds = some d ∧ (∀ h G, RF h G u d) ∧ flat u = true := by
  unfold bestU at e
  unfold bestO
  split at e
  · rename_i p ps z
    split at e
    · rename_i c
      obtain ⟨d, z1, z2⟩ := ofPy_ok e
      exact ⟨d, by rw [mapO_rel (fun r e => toPy_ok r e) r z]; simp only [c, if_true]; exact z1, z2⟩
    · cases e
  · cases e
def uMin : List U → Option U := fun as => match as with
  | [.int i, .int j] => some (.int (if j < i then j else i))
  | [x] => match seqU x with
    | some ds => bestU PySem.W.minD ds
    | none => none
  | _ => none
def uMax : List U → Option U := fun as => match as with
  | [.int i, .int j] => some (.int (if j > i then j else i))
  | [x] => match seqU x with
    | some ds => bestU PySem.W.maxD ds
    | none => none
  | _ => none
theorem od_min : OdN pyMin uMin := fun h G us ds r hb rs e => by
  unfold uMin at e
  split at e
  · cases e
    cases rs with
    | cons a b => cases b with
      | cons b c => cases c with
        | nil =>
          cases a
          cases b
          exact same rfl (.int _)
  · rename_i x
    cases rs with
    | cons a b => cases b with
      | nil =>
        split at e
        · rename_i vs z
          obtain ⟨es, z1, z2⟩ := seqU_ok a z
          obtain ⟨d, y1, y2, y3⟩ := best_ok z2 e
          exact same (by simp only [pyMin, z1, y1]) (y2 _ _)
        · cases e
  · cases e
theorem fl_min : FlN uMin := fun us r e => by
  unfold uMin at e
  split at e
  · cases e
    rfl
  · split at e
    · unfold bestU at e
      split at e
      · split at e
        · exact (ofPy_ok e).choose_spec.2.2
        · cases e
      · cases e
    · cases e
  · cases e
theorem od_max : OdN pyMax uMax := fun h G us ds r hb rs e => by
  unfold uMax at e
  split at e
  · cases e
    cases rs with
    | cons a b => cases b with
      | cons b c => cases c with
        | nil =>
          cases a
          cases b
          exact same rfl (.int _)
  · rename_i x
    cases rs with
    | cons a b => cases b with
      | nil =>
        split at e
        · rename_i vs z
          obtain ⟨es, z1, z2⟩ := seqU_ok a z
          obtain ⟨d, y1, y2, y3⟩ := best_ok z2 e
          exact same (by simp only [pyMax, z1, y1]) (y2 _ _)
        · cases e
  · cases e
theorem fl_max : FlN uMax := fun us r e => by
  unfold uMax at e
  split at e
  · cases e
    rfl
  · split at e
    · unfold bestU at e
      split at e
      · split at e
        · exact (ofPy_ok e).choose_spec.2.2
        · cases e
      · cases e
    · cases e
  · cases e
def uRepr : List U → Option U := fun as => match as with
  | [x] => match toPyU 12 x with
    | some p => match p with
      | .list _ | .tuple _ => if (p.showable && !p.hasDict && decide (p.depth ≤ 60) && decide (p.shown.length ≤ sizeLine)) = true then some (.str p.shown) else none
      | _ => none
    | none => none
  | _ => none
theorem od_repr : OdN pyRepr uRepr := fun h G us ds r hb rs e => by
  unfold uRepr at e
  split at e
  · rename_i x
    cases rs with
    | cons a b => cases b with
      | nil =>
        split at e
        · rename_i p z
          split at e
          · split at e
            · rename_i c
              cases e
              exact same (by simp only [DD.pyRepr, toPy_ok a z, c, if_true]) (.str _)
            · cases e
          · split at e
            · rename_i c
              cases e
              exact same (by simp only [DD.pyRepr, toPy_ok a z, c, if_true]) (.str _)
            · cases e
          · cases e
        · cases e
  · cases e
theorem fl_repr : FlN uRepr := fun us r e => by
  unfold uRepr at e
  split at e
  · split at e
    · split at e
      · split at e <;> cases e
        rfl
      · split at e <;> cases e
        rfl
      · cases e
    · cases e
  · cases e
/-! ### subscripts, slices, in -/
theorem atI_ok {h : IH} {G : Nat → Prop} {us : List U} {ds : List D} {i : Int} {u : U} (r : RFs h G us ds) (e : atI us i = some u) : ∃ d, atI ds i = some d ∧ RF h G u d := by
  unfold atI at e ⊢
  rw [← r.length]
  cases z : ixN us.length i with
  | none =>
    rw [z] at e
    cases e
  | some j =>
    rw [z] at e
    exact r.get e
def keyU : U → Option Key
  | .int i => some (.inl i)
  | .str x => some (.inr x)
  | _ => none
theorem keyU_ok {h : IH} {G : Nat → Prop} {u : U} {d : D} {k : Key} (r : RF h G u d) (e : keyU u = some k) : keyD d = some k := by
  cases r <;> first | exact e | cases e
def valU (kvs : List (Key × U)) (k : Key) : Option U := match kvs with
  | [] => none
  | (j, d) :: r => if j = k then some d else valU r k
theorem valU_ok {h : IH} {G : Nat → Prop} : ∀ {ks : List (Key × U)} {kvs : List (Key × D)} (k : Key), ks.map (·.1) = kvs.map (·.1) → RFs h G (ks.map (·.2)) (kvs.map (·.2)) → (match valU ks k with
    | none => valD kvs k = none
    | some u => ∃ d, valD kvs k = some d ∧ RF h G u d)
  | [], [], k, _, _ => rfl
  | [], _ :: _, k, e, _ => by simp at e
  | _ :: _, [], k, e, _ => by simp at e
  | (j, u) :: ks, (j', d) :: kvs, k, e, r => by
    simp only [List.map_cons, List.cons.injEq] at e
    obtain ⟨rfl, e⟩ := e
    cases r with
    | cons a b =>
      by_cases hj : j = k
      · subst hj
        simp only [valU, valD, if_true]
        exact ⟨d, rfl, a⟩
      · simp only [valU, valD, if_neg hj]
        exact valU_ok k e b
def uIx : U → U → Option U
  | .str z, .int i => if z.length ≤ sizeLine then (atI z.cps.toList i).map fun c => .str ⟨#[c]⟩ else none
  | .tup ds, .int i => atI ds i
  | .fl ds, .int i => atI ds i
  | .lst ds, .int i => atI ds i
  | .dic kvs, k => match keyU k with
    | some j => valU kvs j
    | none => none
  | _, _ => none
theorem od_ix : Od2 pyIx uIx := fun h G u d u' d' r hb a b e => by
  cases a with
  | str z =>
    cases b <;> simp only [uIx, reduceCtorEq] at e
    split at e
    · rename_i hl
      rename_i i
      cases y : atI z.cps.toList i with
      | none =>
        rw [y] at e
        cases e
      | some c =>
        rw [y] at e
        cases e
        exact same (by simp only [DD.pyIx, if_pos hl, y]) (.str _)
    · cases e
  | tup q =>
    cases b <;> simp only [uIx, reduceCtorEq] at e
    obtain ⟨d, z1, z2⟩ := atI_ok q e
    exact same (by simp only [DD.pyIx, z1]) z2
  | fl q =>
    cases b <;> simp only [uIx, reduceCtorEq] at e
    obtain ⟨d, z1, z2⟩ := atI_ok q e
    exact same (by simp only [DD.pyIx, z1]) z2
  | ref f hn q =>
    cases b <;> simp only [uIx, reduceCtorEq] at e
    obtain ⟨d, z1, z2⟩ := atI_ok q e
    exact same (by simp only [DD.pyIx, hn, z1]) z2
  | dic f hn ek q =>
    simp only [uIx] at e
    split at e
    · rename_i j z
      have y := valU_ok j ek q
      rw [e] at y
      obtain ⟨d, z1, z2⟩ := y
      exact same (by simp only [DD.pyIx, hn, keyU_ok b z, z1]) z2
    · cases e
  | _ => cases b <;> simp only [uIx, reduceCtorEq] at e
abbrev VOp := UE → ER (Option Int)
def voN : VOp := fun e => .val none e
def voS (v : VE) : VOp := fun e => (v e).bind fun u e1 => match u with
  | .int i => .val (some i) e1
  | _ => .stk
def SO (dp : Nat → Nat) (io : List Nat) (m : MO) (v : VOp) : Prop := ∀ F S h ve env, Gd dp F S h ve env → PoE h.length dp io F S h ve env (fun _ _ _ Sr a b => a = b) (v ve) (m env h)
def uSlice (u : U) (lo hi : Option Int) : Option U := match u with
  | .tup ds => some (.tup (cutA ds lo hi))
  | .str z => if z.length ≤ sizeLine then some (.str (cutS z lo hi)) else none
  | x => (seqU x).map fun ds => .lst (cutA ds lo hi)
def vSl (a : VE) (lo hi : VOp) : VE := fun e => (a e).bind fun u e1 => (lo e1).bind fun l e2 => (hi e2).bind fun r e3 => ofO (uSlice u l r) e3
theorem cutA_ok {h : IH} {G : Nat → Prop} {us : List U} {ds : List D} (lo hi : Option Int) (r : RFs h G us ds) : RFs h G (cutA us lo hi) (cutA ds lo hi) := by
  unfold cutA
  rw [r.length]
  exact (r.drop _).take _
theorem slice_ok {h : IH} {G : Nat → Prop} {u : U} {d : D} {r : U} (lo hi : Option Int) (hb : ∀ n, G n → n < h.length) (a : RF h G u d) (e : uSlice u lo hi = some r) : ∃ e' q, pySlice d lo hi h = .val e' (h ++ q) ∧ RF (h ++ q) (Nw h q G) r e' := by
  cases a with
  | tup q =>
    cases e
    exact same rfl (.tup (cutA_ok lo hi q))
  | str z =>
    simp only [uSlice] at e
    split at e
    · rename_i hl
      cases e
      exact same (by simp only [DD.pySlice, if_pos hl]) (.str _)
    · cases e
  | fl q =>
    cases e
    exact ⟨_, _, rfl, newL hb (cutA_ok lo hi q)⟩
  | ref f hn q =>
    cases e
    exact ⟨_, [_], by simp only [DD.pySlice, seqL, lstAt_of hn], newL hb (cutA_ok lo hi q)⟩
  | _ => cases e
/-- lists alone -/
def uSliceL (u : U) (lo hi : Option Int) : Option U := match u with
  | .fl ds => some (.lst (cutA ds lo hi))
  | .lst ds => some (.lst (cutA ds lo hi))
  | _ => none
theorem sliceL_ok {h : IH} {G : Nat → Prop} {u : U} {d : D} {r : U} (lo hi : Option Int) (hb : ∀ n, G n → n < h.length) (a : RF h G u d) (e : uSliceL u lo hi = some r) : ∃ e' q Sr, pySlice d lo hi h = .val e' (h ++ q) ∧ RV (h ++ q) G 1 Sr r e' ∧ Nx h q Sr := by
  cases a with
  | fl q =>
    cases e
    exact ⟨_, _, _, rfl, newO hb (cutA_ok lo hi q)⟩
  | ref f hn q =>
    cases e
    exact ⟨_, [_], _, by simp only [DD.pySlice, seqL, lstAt_of hn], newO hb (cutA_ok lo hi q)⟩
  | _ => cases e
def vSlL (a : VE) (lo hi : VOp) : VE := fun e => (a e).bind fun u e1 => (lo e1).bind fun l e2 => (hi e2).bind fun r e3 => ofO (uSliceL u l r) e3
section
variable {dp : Nat → Nat} {io : List Nat} {ma : ME} {va : VE} {ml mh : MO} {vl vh : VOp}
theorem so_none : SO dp io moN voN := fun F S h ve env g => PoE.val (Sr := []) g .nil rfl
theorem so_some (ha : SE dp io .bor ma va) : SO dp io (moS ma) (voS va) := fun F S h ve env gd =>
  (ha F S h ve env gd).bind fun x d F1 S1 h1 ve1 Sr e1 t1 r1 => by
    obtain ⟨r1, rfl⟩ := r1
    cases r1 <;> first
      | trivial
      | exact PoE.val (Sr := []) e1.gd .nil rfl
theorem sl_go {md : Md} {lo : Nat} {R2 : (Nat → Prop) → (Nat → List Nat) → IH → List Nat → U → D → Prop} {F : Nat → Prop} {S : Nat → List Nat} {h : IH} {ve : UE} {env : En} {f : U → Option Int → Option Int → Option U} (ha : SE dp io md ma va) (hl : SO dp io ml vl) (hh : SO dp io mh vh) (gd : Gd dp F S h ve env)
    (q : ∀ x a l r F' S' h' ve' Sr, EP dp io F S h ve env F' S' h' ve' → RM io F' S' h' Sr x a md → PoE lo dp io F' S' h' ve' env R2 (ofO (f x l r) ve') (pySlice a l r h')) :
    PoE lo dp io F S h ve env R2 ((va ve).bind fun u e1 => (vl e1).bind fun l e2 => (vh e2).bind fun r e3 => ofO (f u l r) e3) (mSl ma ml mh env h) :=
  (ha F S h ve env gd).bind fun x d F1 S1 h1 ve1 Sr e1 t1 r1 => (hl F1 S1 h1 ve1 env e1.gd).bind fun l l' F2 S2 h2 ve2 Tr e2 t2 r2 => (hh F2 S2 h2 ve2 env e2.gd).bind fun r r' F3 S3 h3 ve3 Vr e3 t3 r3 => by
    subst r2 r3
    exact q x d l r F3 S3 h3 ve3 Sr (e1.trans (e2.trans e3)) (RM.keep e1.gd (e2.trans e3) t1 r1)
theorem se_slice (ha : SE dp io .fz ma va) (hl : SO dp io ml vl) (hh : SO dp io mh vh) : SE dp io .fz (mSl ma ml mh) (vSl va vl vh) := fun F S h ve env gd =>
  sl_go ha hl hh gd fun x a l r F1 S1 h1 ve1 Sr e1 r1 => by
    cases z : uSlice x l r with
    | none => trivial
    | some u =>
      obtain ⟨e, q, z1, z2⟩ := slice_ok l r e1.gd.fb r1.1 z
      rw [z1]
      exact PoE.opfz e1.gd z2
theorem se_sliceB (ha : SE dp io .bor ma va) (hl : SO dp io ml vl) (hh : SO dp io mh vh) : SE dp io .bor (mSl ma ml mh) (vSl va vl vh) := fun F S h ve env gd =>
  sl_go ha hl hh gd fun x a l r F1 S1 h1 ve1 Sr e1 r1 => by
    cases z : uSlice x l r with
    | none => trivial
    | some u =>
      obtain ⟨e, q, z1, z2⟩ := slice_ok l r (fun n y => y.1) r1.1 z
      rw [z1]
      exact PoE.opbor e1.gd z2
theorem se_sliceO (ha : SE dp io .fz ma va) (hl : SO dp io ml vl) (hh : SO dp io mh vh) : SE dp io (.fr 1) (mSl ma ml mh) (vSlL va vl vh) := fun F S h ve env gd =>
  sl_go ha hl hh gd fun x a l r F1 S1 h1 ve1 Sr e1 r1 => by
    cases z : uSliceL x l r with
    | none => trivial
    | some u =>
      obtain ⟨e, q, T, z1, z2, z3⟩ := sliceL_ok l r e1.gd.fb r1.1 z
      rw [z1]
      exact PoE.opfr e1.gd e1.hl z2 z3
end
def inTU (x y : U) : Option Bool := match toPyU 12 x, toPyU 12 y with
  | some d, some (.list ds) => if (SeqAt.shaped d && SeqAt.shaped (.list ds)) = true then some (ds.any fun z => PyData.eqv z d) else none
  | some d, some (.tuple ds) => if (SeqAt.shaped d && SeqAt.shaped (.list ds)) = true then some (ds.any fun z => PyData.eqv z d) else none
  | _, _ => none
def inU : U → U → Option Bool
  | .str w, .str z => some (!(Builtin.Str.occurrences z w 0 z.length 1).isEmpty)
  | x, .dic kvs => match keyU x with
    | some k => some (valU kvs k).isSome
    | none => none
  | x, y => inTU x y
theorem inTU_ok {h : IH} {G : Nat → Prop} {x y : U} {a b : D} {k : Bool} (ra : RF h G x a) (rb : RF h G y b) (e : inTU x y = some k) : inT h a b = some k := by
  unfold inTU at e
  unfold inT
  cases z1 : toPyU 12 x with
  | none =>
    rw [z1] at e
    cases e
  | some d =>
    cases z2 : toPyU 12 y with
    | none =>
      rw [z1, z2] at e
      cases e
    | some q =>
      rw [z1, z2] at e
      rw [toPy_ok ra z1, toPy_ok rb z2]
      exact e
theorem inU_ok {h : IH} {G : Nat → Prop} {x y : U} {a b : D} {k : Bool} (ra : RF h G x a) (rb : RF h G y b) (e : inU x y = some k) : inO h a b = some k := by
  unfold inU at e
  split at e
  · cases ra
    cases rb
    exact e
  · cases rb with
    | dic f hn ek q =>
      rename_i kvs n kvs'
      split at e
      · rename_i j z
        cases e
        have y := valU_ok j ek q
        have z1 : inK h a (.ref n) = some (valU kvs j).isSome := by
          have hd : dicAt h n = some kvs' := by
            unfold dicAt
            rw [hn]
          simp only [inK, hd, keyU_ok ra z, hasD]
          cases w : valU kvs j with
          | none =>
            rw [w] at y
            rw [y]
            rfl
          | some u =>
            rw [w] at y
            obtain ⟨d, y1, _⟩ := y
            rw [y1]
            rfl
        unfold inO
        cases ra <;> first | (simp only [z1]; done) | (simp [keyU] at z)
      · cases e
  · rename_i n1 n2
    have z := inTU_ok ra rb e
    unfold inO
    split
    · cases ra
      cases rb
      first | exact (n1 _ _ rfl rfl).elim | exact (n1 rfl rfl).elim | exact (n2 _ _ rfl rfl).elim
    · have z2 : inK h a b = none := by
        cases rb with
        | ref f hn q => simp only [inK, dicAt, hn]
        | dic f hn c q => first | exact (n1 _ rfl).elim | exact (n2 _ rfl).elim
        | _ => rfl
      rw [z2]
      exact z
def uIn (a b : U) : Option U := (inU a b).map .bl
def uNotIn (a b : U) : Option U := (inU a b).map fun k => .bl !k
theorem od_in : Od2 pyIn uIn := fun h G u d u' d' r hb a b e => by
  unfold uIn at e
  cases z : inU u u' with
  | none =>
    rw [z] at e
    cases e
  | some k =>
    rw [z] at e
    cases e
    exact same (by simp only [DD.pyIn, inU_ok a b z]) (.bl _)
theorem od_notIn : Od2 pyNotIn uNotIn := fun h G u d u' d' r hb a b e => by
  unfold uNotIn at e
  cases z : inU u u' with
  | none =>
    rw [z] at e
    cases e
  | some k =>
    rw [z] at e
    cases e
    exact same (by simp only [DD.pyNotIn, inU_ok a b z]) (.bl _)
theorem fl_in : Fl2 uIn := fun u u' r e => by
  unfold uIn at e
  cases z : inU u u' <;> rw [z] at e <;> cases e
  rfl
theorem fl_notIn : Fl2 uNotIn := fun u u' r e => by
  unfold uNotIn at e
  cases z : inU u u' <;> rw [z] at e <;> cases e
  rfl
end VV
set_option Elab.async false
set_option linter.all false
set_option maxRecDepth 100000
namespace VV
open PySem L2 DD
/-! ### tests, conditional values -/
def truU : U → Option Bool
  | .non => some false
  | .bl b => some b
  | .int i => some (i != 0)
  | .str x => if x.length ≤ sizeLine then some ((x.length : Int) != 0) else none
  | .tup ds => some !ds.isEmpty
  | .fl ds => some !ds.isEmpty
  | .lst ds => some !ds.isEmpty
  | .dic ds => some !ds.isEmpty
  | .op _ => none
theorem RFs.isEmpty {h : IH} {G : Nat → Prop} {us : List U} {ds : List D} (r : RFs h G us ds) : us.isEmpty = ds.isEmpty := by
  cases r <;> rfl
theorem truU_ok {h : IH} {G : Nat → Prop} {u : U} {d : D} {k : Bool} (r : RF h G u d) (e : truU u = some k) : truD h d = some k := by
  cases r with
  | tup q =>
    simp only [truU, truD] at e ⊢
    rw [← q.isEmpty]
    exact e
  | fl q =>
    simp only [truU, truD] at e ⊢
    rw [← q.isEmpty]
    exact e
  | ref f hn q =>
    simp only [truU, truD, hn] at e ⊢
    rw [← q.isEmpty]
    exact e
  | dic f hn c q =>
    rename_i n ks kvs
    simp only [truU, truD, hn] at e ⊢
    have e1 := congrArg List.length c
    rw [List.length_map, List.length_map] at e1
    cases ks <;> cases kvs <;> first | exact e | (simp at e1)
  | _ => exact e
def vTru (a : VE) : VT := fun e => (a e).bind fun u e1 => match truU u with
  | some b => .val b e1
  | none => .stk
def vTst (a : VE) : VT := fun e => (a e).bind fun u e1 => match u with
  | .bl b => .val b e1
  | _ => .stk
def vAnd (a b : VT) : VT := fun e => (a e).bind fun k e1 => if k then b e1 else .val false e1
def vOr (a b : VT) : VT := fun e => (a e).bind fun k e1 => if k then .val true e1 else b e1
def vNot (a : VT) : VT := fun e => (a e).bind fun k e1 => .val (!k) e1
def vAndV (a b : VE) : VE := fun e => (a e).bind fun d e1 => match truU d with
  | some true => b e1
  | some false => .val d e1
  | none => .stk
def vOrV (a b : VE) : VE := fun e => (a e).bind fun d e1 => match truU d with
  | some true => .val d e1
  | some false => b e1
  | none => .stk
def vNotV (a : VE) : VE := fun e => (a e).bind fun d e1 => match truU d with
  | some k => .val (.bl !k) e1
  | none => .stk
def vIf (c : VT) (a b : VE) : VE := fun e => (c e).bind fun k e1 => if k then a e1 else b e1
def vChain (f f' : U → U → Option U) (a b c : VE) : VE := fun e => (a e).bind fun x e1 => (b e1).bind fun y e2 => match f x y with
  | some (.bl true) => (c e2).bind fun w e3 => ofO (f' y w) e3
  | some (.bl false) => .val (.bl false) e2
  | _ => .stk
section
variable {dp : Nat → Nat} {io : List Nat} {md : Md} {ma mb mc : ME} {va vb vc : VE} {ta tb : MT} {wa wb : VT}
theorem RM.rf {F : Nat → Prop} {S : Nat → List Nat} {h : IH} {ve : UE} {env : En} {Sr : List Nat} {u : U} {d : D} (g : Gd dp F S h ve env) {lo : Nat} (t : Tm F S lo h Sr) : ∀ {md : Md}, RM io F S h Sr u d md → RF h (Gr io S h) u d := by
  intro md r
  cases md with
  | fl => exact r.1.mono (fun n x => Gr.of g x) fun _ _ => rfl
  | fz => exact r.1.mono (fun n x => Gr.of g x) fun _ _ => rfl
  | bor => exact r.1
  | fr k => exact RV.frz r (fun n x => Gr.of g x) fun n hn => ⟨t.bd n hn, fun i _ => t.ns n hn i⟩
theorem sb_tru (ha : SE dp io md ma va) : SB dp io (mTru ma) (vTru va) := fun F S h ve env gd =>
  (ha F S h ve env gd).bind fun x d F1 S1 h1 ve1 Sr e1 t1 r1 => by
    cases z : truU x with
    | none => trivial
    | some k =>
      simp only [truU_ok (r1.rf e1.gd t1) z]
      exact PoE.val (Sr := []) e1.gd .nil rfl
theorem sb_tst (ha : SE dp io .bor ma va) : SB dp io (mTst ma) (vTst va) := fun F S h ve env gd =>
  (ha F S h ve env gd).bind fun x d F1 S1 h1 ve1 Sr e1 t1 r1 => by
    obtain ⟨r1, rfl⟩ := r1
    cases r1 <;> first
      | trivial
      | exact PoE.val (Sr := []) e1.gd .nil rfl
theorem sb_and (ha : SB dp io ta wa) (hb : SB dp io tb wb) : SB dp io (mAnd ta tb) (vAnd wa wb) := fun F S h ve env gd =>
  (ha F S h ve env gd).bind fun x d F1 S1 h1 ve1 Sr e1 t1 r1 => by
    subst r1
    cases x with
    | true => exact (hb F1 S1 h1 ve1 env e1.gd).low e1.hl
    | false => exact PoE.val (Sr := []) e1.gd .nil rfl
theorem sb_or (ha : SB dp io ta wa) (hb : SB dp io tb wb) : SB dp io (mOr ta tb) (vOr wa wb) := fun F S h ve env gd =>
  (ha F S h ve env gd).bind fun x d F1 S1 h1 ve1 Sr e1 t1 r1 => by
    subst r1
    cases x with
    | false => exact (hb F1 S1 h1 ve1 env e1.gd).low e1.hl
    | true => exact PoE.val (Sr := []) e1.gd .nil rfl
theorem sb_not (ha : SB dp io ta wa) : SB dp io (mNot ta) (vNot wa) := fun F S h ve env gd =>
  (ha F S h ve env gd).bind fun x d F1 S1 h1 ve1 Sr e1 t1 r1 => by
    subst r1
    exact PoE.val (Sr := []) e1.gd .nil rfl
def vYes : VT := fun e => .val true e
theorem sb_yes : SB dp io mYes vYes := fun F S h ve env gd => PoE.val (Sr := []) gd .nil rfl
theorem se_and (ha : SE dp io md ma va) (hb : SE dp io md mb vb) : SE dp io md (mAndV ma mb) (vAndV va vb) := fun F S h ve env gd =>
  (ha F S h ve env gd).bind fun x d F1 S1 h1 ve1 Sr e1 t1 r1 => by
    cases z : truU x with
    | none => trivial
    | some k =>
      simp only [truU_ok (r1.rf e1.gd t1) z]
      cases k with
      | true => exact (hb F1 S1 h1 ve1 env e1.gd).low e1.hl
      | false => exact PoE.val e1.gd t1 r1
theorem se_or (ha : SE dp io md ma va) (hb : SE dp io md mb vb) : SE dp io md (mOrV ma mb) (vOrV va vb) := fun F S h ve env gd =>
  (ha F S h ve env gd).bind fun x d F1 S1 h1 ve1 Sr e1 t1 r1 => by
    cases z : truU x with
    | none => trivial
    | some k =>
      simp only [truU_ok (r1.rf e1.gd t1) z]
      cases k with
      | false => exact (hb F1 S1 h1 ve1 env e1.gd).low e1.hl
      | true => exact PoE.val e1.gd t1 r1
theorem se_not (ha : SE dp io md ma va) : SE dp io .fl (mNotV ma) (vNotV va) := fun F S h ve env gd =>
  (ha F S h ve env gd).bind fun x d F1 S1 h1 ve1 Sr e1 t1 r1 => by
    cases z : truU x with
    | none => trivial
    | some k =>
      simp only [truU_ok (r1.rf e1.gd t1) z]
      exact PoE.val (Sr := []) e1.gd .nil ⟨.bl _, rfl, rfl⟩
theorem se_if (hc : SB dp io ta wa) (ha : SE dp io md ma va) (hb : SE dp io md mb vb) : SE dp io md (mIf ta ma mb) (vIf wa va vb) := fun F S h ve env gd =>
  (hc F S h ve env gd).bind fun x d F1 S1 h1 ve1 Sr e1 t1 r1 => by
    subst r1
    cases x with
    | true => exact (ha F1 S1 h1 ve1 env e1.gd).low e1.hl
    | false => exact (hb F1 S1 h1 ve1 env e1.gd).low e1.hl
theorem se_chain {f f' : D → D → IH → Res D} {g g' : U → U → Option U} (od : Od2 f g) (od' : Od2 f' g') (fl' : Fl2 g') (ha : SE dp io .bor ma va) (hb : SE dp io .bor mb vb) (hc : SE dp io .bor mc vc) : SE dp io .fl (mChain f f' ma mb mc) (vChain g g' va vb vc) := fun F S h ve env gd =>
  (ha F S h ve env gd).bind fun x a F1 S1 h1 ve1 Sr e1 t1 r1 => (hb F1 S1 h1 ve1 env e1.gd).bind fun y b F2 S2 h2 ve2 Tr e2 t2 r2 => by
    have k1 := RM.keep e1.gd e2 t1 r1
    cases z : g x y with
    | none => trivial
    | some u =>
      obtain ⟨e, q, z1, z2⟩ := od h2 _ x a y b u (fun n y => y.1) k1.1 r2.1 z
      simp only [z1]
      have e3 := EP.grow (io := io) e2.gd q (fun _ x => x) (fun _ x => .inl x)
      cases z2 with
      | bl k =>
        cases k with
        | false => exact ⟨_, _, F2, S2, [], rfl, e3, .nil, .bl _, rfl, rfl⟩
        | true =>
          have r3 := RM.keep e2.gd e3 t2 r2
          have z3 := (hc F2 S2 (h2 ++ q) ve2 env e3.gd).bind (lo' := h.length) (R2 := RE io .fl) (f := fun w e4 => ofO (g' y w) e4) (g := fun w h4 => f' b w h4) fun w c F4 S4 h4 ve4 Vr e4 t4 r4 => by
            have r5 := RM.keep e3.gd e4 (t2.keep e3) r3
            cases z5 : g' y w with
            | none => trivial
            | some u' =>
              obtain ⟨e', q', y1, y2⟩ := od' h4 _ y b w c u' (fun n y => y.1) r5.1 r4.1 z5
              rw [y1]
              exact PoE.opfl e4.gd y2 (fl' _ _ _ z5)
          show PoE h.length dp io F2 S2 h2 ve2 env (RE io .fl) _ ((Res.val (D.bl true) (h2 ++ q)).bind _)
          revert z3
          show PoE h.length dp io F2 S2 (h2 ++ q) ve2 env (RE io .fl) ((vc ve2).bind fun w e3 => ofO (g' y w) e3) ((mc env (h2 ++ q)).bind fun w h4 => f' b w h4) → PoE h.length dp io F2 S2 h2 ve2 env (RE io .fl) ((vc ve2).bind fun w e3 => ofO (g' y w) e3) ((mc env (h2 ++ q)).bind fun w h4 => f' b w h4)
          cases (vc ve2).bind fun w e3 => ofO (g' y w) e3 with
          | val u2 ve5 =>
            rintro ⟨d5, h5, F5, S5, S6, w1, w2, w3, w4⟩
            exact ⟨d5, h5, F5, S5, S6, w1, e3.trans w2, w3, w4⟩
          | exc x5 ve5 =>
            rintro ⟨d5, h5, F5, S5, w1, w2, w4⟩
            exact ⟨d5, h5, F5, S5, w1, e3.trans w2, w4⟩
          | stk => exact fun _ => trivial
      | _ => trivial
end
/-! ### targets -/
abbrev VTg := U → UE → Option UE
abbrev VTs := List U → UE → Option UE
def tN (i : Nat) : VTg := fun u e => some (e.set i (some u))
def tsNil : VTs := fun us e => match us with
  | [] => some e
  | _ => none
def tsCons (t : VTg) (r : VTs) : VTs := fun us e => match us with
  | u :: us => match t u e with
    | some e1 => r us e1
    | none => none
  | [] => none
def tT (n : Nat) (r : VTs) : VTg := fun u e => match u with
  | .tup us => if us.length = n then r us e else none
  | _ => none
/-- slots that a target binds: ts; they hold what is frozen -/
structure GP (dp : Nat → Nat) (ts : List Nat) (F : Nat → Prop) (S : Nat → List Nat) (h : IH) (ve : UE) (env : En) (S' : Nat → List Nat) (ve' : UE) (env' : En) : Prop where
  gd : Gd dp F S' h ve' env'
  so : ∀ i, S' i = S i ∨ S' i = []
  ln : ve'.length = ve.length
  st : ∀ i, i ∉ ts → S' i = S i ∧ env'[i]? = env[i]? ∧ ve'[i]? = ve[i]?
def SG (dp : Nat → Nat) (ts : List Nat) (g : MTg) (t : VTg) : Prop := ∀ F S h ve env u d, Gd dp F S h ve env → RF h F u d → match t u ve with
  | some ve' => ∃ env' S', g d env h = some (env', h) ∧ GP dp ts F S h ve env S' ve' env'
  | none => True
def SGs (dp : Nat → Nat) (ts : List Nat) (g : MTs) (t : VTs) : Prop := ∀ F S h ve env u d, Gd dp F S h ve env → RFs h F u d → match t u ve with
  | some ve' => ∃ env' S', g d env h = some (env', h) ∧ GP dp ts F S h ve env S' ve' env'
  | none => True
section
variable {dp : Nat → Nat} {ts us : List Nat} {F : Nat → Prop} {S : Nat → List Nat} {h : IH} {ve : UE} {env : En}
/-- a slot gets a value -/
theorem Gd.set (g : Gd dp F S h ve env) (i : Nat) {u : U} {d : D} {Sr : List Nat} {lo : Nat} (t : Tm F S lo h Sr) (r : RV h F (dp i) Sr u d) : Gd dp F (fun j => if j = i then Sr else S j) h (ve.set i (some u)) (env.set i (some d)) := by
  refine ⟨by rw [List.length_set, List.length_set]; exact g.len, fun j v e => ?_, fun j => ?_, fun j k n hj hk => ?_, fun j n hj => ?_, fun j n hj => ?_, g.fb⟩
  · rw [List.getElem?_set] at e ⊢
    by_cases hj : i = j
    · subst hj
      rw [if_pos rfl] at e ⊢
      by_cases hi : i < ve.length
      · rw [if_pos hi] at e
        cases e
        rw [if_pos (by rw [← g.len]; exact hi)]
        refine ⟨d, rfl, ?_⟩
        rw [if_pos rfl]
        exact r
      · rw [if_neg hi] at e
        cases e
    · rw [if_neg hj] at e ⊢
      obtain ⟨d', e1, r1⟩ := g.get j v e
      refine ⟨d', e1, ?_⟩
      rw [if_neg fun z => hj z.symm]
      exact r1
  · split
    · exact t.nd
    · exact g.nd j
  · split at hj <;> split at hk
    · rename_i a b
      rw [a, b]
    · exact absurd hk (t.ns n hj k)
    · exact absurd hj (t.ns n hk j)
    · exact g.dj j k n hj hk
  · split at hj
    · exact t.nf n hj
    · exact g.nf j n hj
  · split at hj
    · exact t.bd n hj
    · exact g.bd j n hj
theorem sg_name (i : Nat) (hi : dp i = 0) : SG dp [i] (gN i) (tN i) := fun F S h ve env u d g r => by
  refine ⟨env.set i (some d), fun j => if j = i then [] else S j, rfl, ?_, fun j => ?_, List.length_set, fun j hj => ?_⟩
  · exact g.set i (lo := 0) .nil (by rw [hi]; exact .fz r)
  · split
    · exact .inr rfl
    · exact .inl rfl
  · have hj : j ≠ i := fun e => hj (by rw [e]; exact List.mem_singleton_self _)
    refine ⟨if_neg hj, List.getElem?_set_ne fun e => hj e.symm, List.getElem?_set_ne fun e => hj e.symm⟩
theorem sgs_nil : SGs dp [] gsNil tsNil := fun F S h ve env u d g r => by
  cases r with
  | nil => exact ⟨env, S, rfl, g, fun _ => .inl rfl, rfl, fun _ _ => ⟨rfl, rfl, rfl⟩⟩
  | cons a b => trivial
theorem sgs_cons {g : MTg} {gs : MTs} {t : VTg} {r : VTs} (h1 : SG dp ts g t) (h2 : SGs dp us gs r) : SGs dp (ts ++ us) (gsCons g gs) (tsCons t r) := fun F S h ve env u d gd rs => by
  cases rs with
  | nil => trivial
  | cons a b =>
    rename_i x y xs ys
    have z := h1 F S h ve env x y gd a
    unfold tsCons gsCons
    dsimp only
    revert z
    cases t x ve with
    | none => exact fun _ => trivial
    | some ve1 =>
      rintro ⟨env1, S1, e1, p1⟩
      rw [e1]
      have z := h2 F S1 h ve1 env1 xs ys p1.gd b
      dsimp only
      revert z
      cases r xs ve1 with
      | none => exact fun _ => trivial
      | some ve2 =>
        rintro ⟨env2, S2, e2, p2⟩
        refine ⟨env2, S2, e2, p2.gd, fun i => ?_, p2.ln.trans p1.ln, fun i hi => ?_⟩
        · rcases p2.so i with z | z
          · rw [z]
            exact p1.so i
          · exact .inr z
        · obtain ⟨a1, a2, a3⟩ := p2.st i fun z => hi (List.mem_append_right _ z)
          obtain ⟨b1, b2, b3⟩ := p1.st i fun z => hi (List.mem_append_left _ z)
          exact ⟨a1.trans b1, a2.trans b2, a3.trans b3⟩
theorem sg_tup {n : Nat} {gs : MTs} {r : VTs} (h1 : SGs dp ts gs r) : SG dp ts (gT n gs) (tT n r) := fun F S h ve env u d gd rs => by
  cases rs with
  | tup q =>
    rename_i xs ys
    by_cases hl : xs.length = n
    · have z := h1 F S h ve env xs ys gd q
      simp only [tT, gT, ← q.length, if_pos hl]
      exact z
    · simp only [tT, if_neg hl]
  | _ => trivial
end
/-! ### what is walked -/
abbrev VI := UE → ER (List U)
/-- the items: frozen -/
def RI : (Nat → Prop) → (Nat → List Nat) → IH → List Nat → List U → Src → Prop := fun F S h Sr us s => match s with
  | .st ds => RFs h F us ds
  | .lv get => ∀ h' : IH, (∀ n, F n → h'[n]? = h[n]?) → ∃ ds, get h' = some ds ∧ RFs h F us ds
def SI (dp : Nat → Nat) (io : List Nat) (m : MI) (v : VI) : Prop := ∀ F S h ve env, Gd dp F S h ve env → PoE h.length dp io F S h ve env RI (v ve) (m env h)
def signsU (z : Str) : List U := z.cps.toList.map fun c => .str ⟨#[c]⟩
def itU : U → Option (List U)
  | .tup ds => some ds
  | .fl ds => some ds
  | .lst ds => some ds
  | .str z => some (signsU z)
  | _ => none
def vIt (a : VE) : VI := fun e => (a e).bind fun u e1 => match itU u with
  | some us => .val us e1
  | none => .stk
def rangeU (lo : Int) (n : Nat) : List U := (List.range n).map fun i => .int (lo + (i : Nat))
def vRng1 (a : VE) : VI := fun e => (a e).bind fun d e1 => match d with
  | .int j => .val (rangeU 0 j.toNat) e1
  | _ => .stk
def vRng2 (a b : VE) : VI := fun e => (a e).bind fun x e1 => (b e1).bind fun y e2 => match x, y with
  | .int i, .int j => .val (rangeU i (j - i).toNat) e2
  | _, _ => .stk
def enumU (i : Nat) : List U → List U
  | [] => []
  | d :: ds => .tup [.int (i : Nat), d] :: enumU (i + 1) ds
def vEn (a : VE) : VI := fun e => (a e).bind fun u e1 => match itU u with
  | some us => .val (enumU 0 us) e1
  | none => .stk
section
variable {dp : Nat → Nat} {io : List Nat} {ma mb : ME} {va vb : VE}
theorem signs_ok {h : IH} {F : Nat → Prop} (z : Str) : RFs h F (signsU z) (signsD z) := by
  unfold signsU signsD
  generalize z.cps.toList = cs
  induction cs with
  | nil => exact .nil
  | cons c cs ih => exact .cons (.str _) ih
theorem range_ok {h : IH} {F : Nat → Prop} (lo : Int) (n : Nat) : RFs h F (rangeU lo n) (rangeD lo n) := by
  unfold rangeU rangeD
  generalize List.range n = cs
  induction cs with
  | nil => exact .nil
  | cons c cs ih => exact .cons (.int _) ih
theorem enum_ok {h : IH} {F : Nat → Prop} : ∀ (i : Nat) {us : List U} {ds : List D}, RFs h F us ds → RFs h F (enumU i us) (enumD i ds)
  | _, _, _, .nil => .nil
  | i, _, _, .cons a b => .cons (.tup (.cons (.int _) (.cons a .nil))) (enum_ok (i + 1) b)
theorem si_val (ha : SE dp io .fz ma va) : SI dp io (mIt ma) (vIt va) := fun F S h ve env gd =>
  (ha F S h ve env gd).bind fun x d F1 S1 h1 ve1 Sr e1 t1 r1 => by
    obtain ⟨r1, rfl⟩ := r1
    cases r1 with
    | tup q => exact PoE.val (Sr := []) e1.gd .nil q
    | fl q => exact PoE.val (Sr := []) e1.gd .nil q
    | str z => exact PoE.val (Sr := []) e1.gd .nil (signs_ok z)
    | ref f hn q =>
      rename_i n us ds
      simp only [srcD, lstAt_of hn]
      refine PoE.val (R := RI) (Sr := []) e1.gd .nil fun h' hk => ⟨ds, ?_, q⟩
      exact lstAt_of ((hk n f).trans hn)
    | _ => trivial
theorem si_enum (ha : SE dp io .fz ma va) : SI dp io (mEn ma) (vEn va) := fun F S h ve env gd =>
  (ha F S h ve env gd).bind fun x d F1 S1 h1 ve1 Sr e1 t1 r1 => by
    obtain ⟨r1, rfl⟩ := r1
    cases r1 with
    | tup q => exact PoE.val (Sr := []) e1.gd .nil (enum_ok 0 q)
    | fl q => exact PoE.val (Sr := []) e1.gd .nil (enum_ok 0 q)
    | str z => exact PoE.val (Sr := []) e1.gd .nil (enum_ok 0 (signs_ok z))
    | ref f hn q =>
      rename_i n us ds
      simp only [enSrc, lstAt_of hn]
      refine PoE.val (R := RI) (Sr := []) e1.gd .nil fun h' hk => ⟨enumD 0 ds, ?_, enum_ok 0 q⟩
      simp only [lstAt_of ((hk n f).trans hn), Option.map_some]
    | _ => trivial
theorem si_range1 (ha : SE dp io .bor ma va) : SI dp io (mRng1 ma) (vRng1 va) := fun F S h ve env gd =>
  (ha F S h ve env gd).bind fun x d F1 S1 h1 ve1 Sr e1 t1 r1 => by
    obtain ⟨r1, rfl⟩ := r1
    cases r1 with
    | int i => exact PoE.val (R := RI) (Sr := []) e1.gd .nil (range_ok 0 _)
    | _ => trivial
theorem si_range2 (ha : SE dp io .bor ma va) (hb : SE dp io .bor mb vb) : SI dp io (mRng2 ma mb) (vRng2 va vb) := fun F S h ve env gd =>
  PoE.two (f := fun x y e2 => match x, y with
    | .int i, .int j => .val (rangeU i (j - i).toNat) e2
    | _, _ => .stk) (g := fun x y h2 => match x, y with
    | .int i, .int j => Res.val (Src.st (rangeD i (j - i).toNat)) h2
    | _, _ => .stk) ha hb gd fun x y a b F1 S1 h1 ve1 Sr Tr e1 t1 t2 _ r1 r2 => by
      obtain ⟨r1, rfl⟩ := r1
      obtain ⟨r2, rfl⟩ := r2
      cases r1 with
      | int i => cases r2 with
        | int j => exact PoE.val (R := RI) (Sr := []) e1.gd .nil (range_ok i _)
        | _ => trivial
      | _ => trivial
end
end VV
set_option Elab.async false
set_option linter.all false
set_option maxRecDepth 100000
namespace VV
open PySem L2 DD
/-! ### statements -/
abbrev dpOf (l : List Nat) : Nat → Nat := fun i => l.getD i 0
/-- ps: how deep the function's first parameters are owned (they are changed for the caller); b0: what stood when it began -/
structure SP (ps : List Nat) (b0 : Nat) (dp : Nat → Nat) (F : Nat → Prop) (S : Nat → List Nat) (h : IH) (env : En) (F' : Nat → Prop) (S' : Nat → List Nat) (h' : IH) (ve' : UE) (env' : En) : Prop where
  gd : Gd dp F' S' h' ve' env'
  lw : ∀ i, ps.length ≤ i → ∀ n ∈ S' i, b0 ≤ n
  ff : ∀ n, F n → F' n
  fn : ∀ n, F' n → F n ∨ h.length ≤ n ∨ ∃ i, n ∈ S i
  hl : h.length ≤ h'.length
  fr : ∀ n, n < h.length → (∀ i, n ∉ S i) → h'[n]? = h[n]?
  sn : ∀ i n, n ∈ S' i → h.length ≤ n ∨ (i < ps.length ∧ n ∈ S i) ∨ ∃ j, ps.length ≤ j ∧ n ∈ S j
  ro : ∀ i, i < ps.length → env'[i]? = env[i]?
/-- the ends: dp of going on, dl of break and continue; return and raise leave what is owned by the first parameters alone -/
def PoS (ps : List Nat) (b0 : Nat) (rm : Md) (dl dp : Nat → Nat) (F : Nat → Prop) (S : Nat → List Nat) (h : IH) (env : En) : UO → Out → Prop
  | .nx ve', o => ∃ env' h' F' S', o = .nx env' h' ∧ SP ps b0 dp F S h env F' S' h' ve' env'
  | .bk ve', o => ∃ env' h' F' S', o = .bk env' h' ∧ SP ps b0 dl F S h env F' S' h' ve' env'
  | .ct ve', o => ∃ env' h' F' S', o = .ct env' h' ∧ SP ps b0 dl F S h env F' S' h' ve' env'
  | .rt u ve', o => ∃ d env' h' F' S' Sr, o = .rt d h' ∧ SP ps b0 (dpOf ps) F S h env F' S' h' ve' env' ∧ Tm F' S' b0 h' Sr ∧ RM [] F' S' h' Sr u d rm
  | .exc x ve', o => ∃ y env' h' F' S', o = .exc y env' h' ∧ SP ps b0 (dpOf ps) F S h env F' S' h' ve' env' ∧ RX h' F' x y
  | .stk, _ => True
def SS (ps : List Nat) (rm : Md) (dl dp dp' : Nat → Nat) (m : MS) (v : VS) : Prop := ∀ b0 F S h ve env, Gd dp F S h ve env → (∀ i, ps.length ≤ i → ∀ n ∈ S i, b0 ≤ n) → b0 ≤ h.length → PoS ps b0 rm dl dp' F S h env (v ve) (m env h)
/-- dp keeps the first parameters -/
def Pd (ps : List Nat) (dp : Nat → Nat) : Prop := ∀ i, dpOf ps i = dp i ∨ dpOf ps i = 0
theorem pd_of {ps l : List Nat} (h : (ps.zipIdx.all fun p => decide (l.getD p.2 0 = p.1)) = true) : Pd ps (dpOf l) := fun i => by
  by_cases hi : i < ps.length
  · rw [List.all_eq_true] at h
    have := h (ps[i], i) (by rw [List.mk_mem_zipIdx_iff_getElem?]; exact List.getElem?_eq_getElem hi)
    simp only [decide_eq_true_eq] at this
    left
    unfold dpOf
    rw [this, List.getD_eq_getElem?_getD, List.getElem?_eq_getElem hi]
    rfl
  · right
    unfold dpOf
    rw [List.getD_eq_getElem?_getD, List.getElem?_eq_none (by omega)]
    rfl
section
variable {ps : List Nat} {b0 : Nat} {rm : Md} {dl dp dp' dp2 : Nat → Nat} {F F' F2 : Nat → Prop} {S S' S2 : Nat → List Nat} {h h' h2 : IH} {ve ve' ve2 : UE} {env env' env2 : En} {io : List Nat}
/-- what is owned is frozen -/
theorem Gd.weak (g : Gd dp F S h ve env) (hw : ∀ i, dp2 i = dp i ∨ dp2 i = 0) : Gd dp2 (fun n => F n ∨ ∃ i, dp2 i = 0 ∧ n ∈ S i) (fun i => if dp2 i = 0 then [] else S i) h ve env := by
  refine ⟨g.len, fun i u e => ?_, fun i => ?_, fun i j n hi hj => ?_, fun i n hi hf => ?_, fun i n hi => ?_, fun n hf => ?_⟩
  · obtain ⟨d, e1, r⟩ := g.get i u e
    refine ⟨d, e1, ?_⟩
    split
    · rename_i z
      rw [z]
      exact .fz (r.frz (fun n x => .inl x) fun n x => .inr ⟨i, z, x⟩)
    · rename_i z
      rcases hw i with w | w
      · rw [w]
        exact r.mono (fun n x => .inl x) (fun _ _ => rfl) fun _ _ => rfl
      · exact absurd w z
  · split
    · exact List.nodup_nil
    · exact g.nd i
  · split at hi
    · cases hi
    · split at hj
      · cases hj
      · exact g.dj i j n hi hj
  · split at hi
    · cases hi
    · rename_i z
      rcases hf with hf | ⟨j, z2, hj⟩
      · exact g.nf i n hi hf
      · rw [g.dj i j n hi hj] at z
        exact z z2
  · split at hi
    · cases hi
    · exact g.bd i n hi
  · rcases hf with hf | ⟨j, _, hj⟩
    · exact g.fb n hf
    · exact g.bd j n hj
theorem SP.weak (p : SP ps b0 dp F S h env F' S' h' ve' env') (hw : ∀ i, dp2 i = dp i ∨ dp2 i = 0) : SP ps b0 dp2 F S h env (fun n => F' n ∨ ∃ i, dp2 i = 0 ∧ n ∈ S' i) (fun i => if dp2 i = 0 then [] else S' i) h' ve' env' := by
  refine ⟨p.gd.weak hw, fun i hi n hn => ?_, fun n x => .inl (p.ff n x), fun n x => ?_, p.hl, p.fr, fun i n hn => ?_, p.ro⟩
  · split at hn
    · cases hn
    · exact p.lw i hi n hn
  · rcases x with x | ⟨i, _, hi⟩
    · exact p.fn n x
    · rcases p.sn i n hi with q | ⟨_, q⟩ | ⟨j, _, q⟩
      · exact .inr (.inl q)
      · exact .inr (.inr ⟨i, q⟩)
      · exact .inr (.inr ⟨j, q⟩)
  · split at hn
    · cases hn
    · exact p.sn i n hn
theorem SP.trans (a : SP ps b0 dp F S h env F' S' h' ve' env') (b : SP ps b0 dp' F' S' h' env' F2 S2 h2 ve2 env2) : SP ps b0 dp' F S h env F2 S2 h2 ve2 env2 := by
  refine ⟨b.gd, b.lw, fun n x => b.ff n (a.ff n x), fun n x => ?_, Nat.le_trans a.hl b.hl, fun n hn hs => ?_, fun i n x => ?_, fun i hi => (b.ro i hi).trans (a.ro i hi)⟩
  · rcases b.fn n x with y | y | ⟨i, y⟩
    · exact a.fn n y
    · exact .inr (.inl (Nat.le_trans a.hl y))
    · rcases a.sn i n y with q | ⟨_, q⟩ | ⟨j, _, q⟩
      · exact .inr (.inl q)
      · exact .inr (.inr ⟨i, q⟩)
      · exact .inr (.inr ⟨j, q⟩)
  · rw [b.fr n (Nat.lt_of_lt_of_le hn a.hl) fun i z => ?_, a.fr n hn hs]
    rcases a.sn i n z with y | ⟨_, y⟩ | ⟨j, _, y⟩
    · omega
    · exact hs i y
    · exact hs j y
  · rcases b.sn i n x with y | ⟨z, y⟩ | ⟨j, z, y⟩
    · exact .inl (Nat.le_trans a.hl y)
    · exact a.sn i n y
    · rcases a.sn j n y with q | ⟨w, q⟩ | q
      · exact .inl q
      · omega
      · exact .inr (.inr q)
/-- an expression's end as a statement's -/
theorem EP.sp (a : EP dp io F S h ve env F' S' h' ve') (lw : ∀ i, ps.length ≤ i → ∀ n ∈ S i, b0 ≤ n) (hb : b0 ≤ h.length) : SP ps b0 dp F S h env F' S' h' ve' env := by
  refine ⟨a.gd, fun i hi n hn => ?_, a.ff, fun n x => (a.fn n x).imp id fun z => z.imp id fun ⟨i, _, y⟩ => ⟨i, y⟩, a.hl, fun n hn hs => a.fr n hn fun i _ => hs i, fun i n x => ?_, fun _ _ => rfl⟩
  · rcases a.sn i n hn with x | x
    · exact lw i hi n x
    · omega
  · rcases a.sn i n x with y | y
    · rcases Nat.lt_or_ge i ps.length with z | z
      · exact .inr (.inl ⟨z, y⟩)
      · exact .inr (.inr ⟨i, z, y⟩)
    · exact .inl y
theorem SP.low (a : SP ps b0 dp F S h env F' S' h' ve' env') (hb : b0 ≤ h.length) : b0 ≤ h'.length := Nat.le_trans hb a.hl
theorem RX.grow {x : XU} {y : XD} (hf : ∀ n, F n → F' n) (r : RX h F x y) : RX h F' x y := r.mono hf fun _ _ => rfl
theorem PoS.trans (a : SP ps b0 dp F S h env F' S' h' ve' env') {o : UO} {r : Out} (p : PoS ps b0 rm dl dp' F' S' h' env' o r) : PoS ps b0 rm dl dp' F S h env o r := by
  cases o with
  | nx e =>
    obtain ⟨e2, h2, F2, S2, z, q⟩ := p
    exact ⟨e2, h2, F2, S2, z, a.trans q⟩
  | bk e =>
    obtain ⟨e2, h2, F2, S2, z, q⟩ := p
    exact ⟨e2, h2, F2, S2, z, a.trans q⟩
  | ct e =>
    obtain ⟨e2, h2, F2, S2, z, q⟩ := p
    exact ⟨e2, h2, F2, S2, z, a.trans q⟩
  | rt u e =>
    obtain ⟨d, e2, h2, F2, S2, Sr, z, q, t, r⟩ := p
    exact ⟨d, e2, h2, F2, S2, Sr, z, a.trans q, t, r⟩
  | exc u e =>
    obtain ⟨d, e2, h2, F2, S2, z, q, r⟩ := p
    exact ⟨d, e2, h2, F2, S2, z, a.trans q, r⟩
  | stk => trivial
/-- an expression, then a statement -/
theorem PoE.bindS {α β : Type} {R : (Nat → Prop) → (Nat → List Nat) → IH → List Nat → α → β → Prop} {r : ER α} {m : Res β} {f : α → UE → UO} {g : β → IH → Out} {lo : Nat} (pd : Pd ps dp) (lw : ∀ i, ps.length ≤ i → ∀ n ∈ S i, b0 ≤ n) (hb : b0 ≤ h.length) (p : PoE lo dp io F S h ve env R r m)
    (q : ∀ a b F' S' h' ve' Sr, EP dp io F S h ve env F' S' h' ve' → Tm F' S' lo h' Sr → R F' S' h' Sr a b → (∀ i, ps.length ≤ i → ∀ n ∈ S' i, b0 ≤ n) → b0 ≤ h'.length → PoS ps b0 rm dl dp' F' S' h' env (f a ve') (g b h')) :
    PoS ps b0 rm dl dp' F S h env (r.bindS f) (m.bindS env g) := by
  cases r with
  | val a ve1 =>
    obtain ⟨b, h1, F1, S1, Sr, rfl, e1, t1, r1⟩ := p
    have s1 := e1.sp lw hb
    exact PoS.trans s1 (q a b F1 S1 h1 ve1 Sr e1 t1 r1 s1.lw (s1.low hb))
  | exc x ve1 =>
    obtain ⟨y, h1, F1, S1, rfl, e1, rx⟩ := p
    exact ⟨y, env, h1, _, _, rfl, (e1.sp lw hb).weak pd, rx.grow fun n x => .inl x⟩
  | stk => trivial
/-- .. told from the beginning -/
theorem PoE.bindS0 {α β : Type} {R : (Nat → Prop) → (Nat → List Nat) → IH → List Nat → α → β → Prop} {r : ER α} {m : Res β} {f : α → UE → UO} {g : β → IH → Out} {lo : Nat} (pd : Pd ps dp) (lw : ∀ i, ps.length ≤ i → ∀ n ∈ S i, b0 ≤ n) (hb : b0 ≤ h.length) (p : PoE lo dp io F S h ve env R r m)
    (q : ∀ a b F' S' h' ve' Sr, EP dp io F S h ve env F' S' h' ve' → Tm F' S' lo h' Sr → R F' S' h' Sr a b → SP ps b0 dp F S h env F' S' h' ve' env → PoS ps b0 rm dl dp' F S h env (f a ve') (g b h')) :
    PoS ps b0 rm dl dp' F S h env (r.bindS f) (m.bindS env g) := by
  cases r with
  | val a ve1 =>
    obtain ⟨b, h1, F1, S1, Sr, rfl, e1, t1, r1⟩ := p
    exact q a b F1 S1 h1 ve1 Sr e1 t1 r1 (e1.sp lw hb)
  | exc x ve1 =>
    obtain ⟨y, h1, F1, S1, rfl, e1, rx⟩ := p
    exact ⟨y, env, h1, _, _, rfl, (e1.sp lw hb).weak pd, rx.grow fun n x => .inl x⟩
  | stk => trivial
/-- a slot gets what an expression made -/
theorem SP.set (s : SP ps b0 dp F S h env F' S' h' ve' env') (i : Nat) (hi : ps.length ≤ i) {u : U} {d : D} {Sr : List Nat} (t : Tm F' S' h.length h' Sr) (hb : b0 ≤ h.length) (r : RV h' F' (dp i) Sr u d) : SP ps b0 dp F S h env F' (fun j => if j = i then Sr else S' j) h' (ve'.set i (some u)) (env'.set i (some d)) := by
  refine ⟨s.gd.set i t r, fun j hj n hn => ?_, s.ff, s.fn, s.hl, s.fr, fun j n hn => ?_, fun j hj => ?_⟩
  · split at hn
    · exact Nat.le_trans hb (t.lo n hn)
    · exact s.lw j hj n hn
  · split at hn
    · exact .inl (t.lo n hn)
    · exact s.sn j n hn
  · rw [List.getElem?_set_ne (by omega)]
    exact s.ro j hj
end
/-! rules -/
def vSkip : VS := fun e => .nx e
def vSeq (a b : VS) : VS := fun e => (a e).then b
def vAsg (v : VE) (i : Nat) : VS := fun e => (v e).bindS fun u e1 => .nx (e1.set i (some u))
def toUO : Option UE → UO
  | some e => .nx e
  | none => .stk
def vAsgT (v : VE) (t : VTg) : VS := fun e => (v e).bindS fun u e1 => toUO (t u e1)
def vExpr (v : VE) : VS := fun e => (v e).bindS fun _ e1 => .nx e1
def vRet (v : VE) : VS := fun e => (v e).bindS fun u e1 => .rt u e1
def vRetN : VS := fun e => .rt .non e
def vRetT (i : Nat) : VS := fun e => match e[i]? with
  | some (some u) => .rt u (e.set i none)
  | _ => .stk
def vIfS (c : VT) (a b : VS) : VS := fun e => (c e).bindS fun k e1 => if k then a e1 else b e1
def vBrk : VS := fun e => .bk e
def vCnt : VS := fun e => .ct e
def vNever : VS := fun _ => .stk
def vAug (i : Nat) (f : U → U → Option U) (v : VE) : VS := fun e => (vBin f (vVar i) v e).bindS fun u e1 => .nx (e1.set i (some u))
def vWhile : Nat → VT → VS → VS
  | 0, _, _ => fun _ => .stk
  | n + 1, c, b => fun e => (c e).bindS fun t e1 => if t then (match b e1 with
    | .nx e2 => vWhile n c b e2
    | .ct e2 => vWhile n c b e2
    | .bk e2 => .nx e2
    | .rt d e2 => .rt d e2
    | .exc x e2 => .exc x e2
    | .stk => .stk) else .nx e1
def forV (t : VTg) (b : VS) : List U → VS
  | [] => fun e => .nx e
  | u :: us => fun e => match t u e with
    | none => .stk
    | some e1 => match b e1 with
      | .nx e2 => forV t b us e2
      | .ct e2 => forV t b us e2
      | .bk e2 => .nx e2
      | .rt d e2 => .rt d e2
      | .exc x e2 => .exc x e2
      | .stk => .stk
def vFor (it : VI) (t : VTg) (b : VS) : VS := fun e => (it e).bindS fun us e1 => forV t b us e1
section
variable {ps : List Nat} {rm : Md} {dl dp dp' dp2 : Nat → Nat} {io : List Nat} {ma : ME} {va : VE} {m1 m2 : MS} {v1 v2 : VS} {tc : MT} {wc : VT}
theorem Gd.sp {b0 : Nat} {F : Nat → Prop} {S : Nat → List Nat} {h : IH} {ve : UE} {env : En} (g : Gd dp F S h ve env) (lw : ∀ i, ps.length ≤ i → ∀ n ∈ S i, b0 ≤ n) (hb : b0 ≤ h.length) : SP ps b0 dp F S h env F S h ve env := (EP.refl (io := []) g).sp lw hb
theorem ss_skip : SS ps rm dl dp dp sNil vSkip := fun b0 F S h ve env g lw hb => ⟨env, h, F, S, rfl, g.sp lw hb⟩
theorem ss_never : SS ps rm dl dp dp' (fun _ _ => .stk) vNever := fun b0 F S h ve env g lw hb => trivial
theorem ss_neverM (m : MS) : SS ps rm dl dp dp' m vNever := fun b0 F S h ve env g lw hb => trivial
theorem ss_seq (h1 : SS ps rm dl dp dp' m1 v1) (h2 : SS ps rm dl dp' dp2 m2 v2) : SS ps rm dl dp dp2 (sSeq m1 m2) (vSeq v1 v2) := fun b0 F S h ve env g lw hb => by
  have z := h1 b0 F S h ve env g lw hb
  unfold vSeq sSeq
  revert z
  cases v1 ve with
  | nx e =>
    rintro ⟨e1, h3, F1, S1, z, q⟩
    rw [z]
    exact PoS.trans q (h2 b0 F1 S1 h3 e e1 q.gd q.lw (q.low hb))
  | bk e =>
    rintro ⟨e1, h3, F1, S1, z, q⟩
    rw [z]
    exact ⟨e1, h3, F1, S1, rfl, q⟩
  | ct e =>
    rintro ⟨e1, h3, F1, S1, z, q⟩
    rw [z]
    exact ⟨e1, h3, F1, S1, rfl, q⟩
  | rt u e =>
    rintro ⟨d, e1, h3, F1, S1, Sr, z, q⟩
    rw [z]
    exact ⟨d, e1, h3, F1, S1, Sr, rfl, q⟩
  | exc u e =>
    rintro ⟨d, e1, h3, F1, S1, z, q⟩
    rw [z]
    exact ⟨d, e1, h3, F1, S1, rfl, q⟩
  | stk => exact fun _ => trivial
/-- lists are frozen ahead of a statement, behind it -/
theorem SS.pre (hw : ∀ i, dp2 i = dp i ∨ dp2 i = 0) (h1 : SS ps rm dl dp2 dp' m1 v1) : SS ps rm dl dp dp' m1 v1 := fun b0 F S h ve env g lw hb =>
  have s := (g.sp lw hb).weak hw
  PoS.trans s (h1 b0 _ _ h ve env s.gd s.lw hb)
theorem SS.post (hw : ∀ i, dp2 i = dp' i ∨ dp2 i = 0) (h1 : SS ps rm dl dp dp' m1 v1) : SS ps rm dl dp dp2 m1 v1 := fun b0 F S h ve env g lw hb => by
  have z := h1 b0 F S h ve env g lw hb
  revert z
  cases v1 ve with
  | nx e =>
    rintro ⟨e1, h3, F1, S1, z, q⟩
    exact ⟨e1, h3, _, _, z, q.weak hw⟩
  | bk e => exact fun z => z
  | ct e => exact fun z => z
  | rt u e => exact fun z => z
  | exc u e => exact fun z => z
  | stk => exact fun z => z
theorem wk_of {a b : List Nat} (h : (a.zipIdx.all fun p => decide (p.1 = 0) || decide (b.getD p.2 0 = p.1)) = true) : ∀ i, dpOf a i = dpOf b i ∨ dpOf a i = 0 := fun i => by
  by_cases hi : i < a.length
  · rw [List.all_eq_true] at h
    have := h (a[i], i) (by rw [List.mk_mem_zipIdx_iff_getElem?]; exact List.getElem?_eq_getElem hi)
    simp only [Bool.or_eq_true, decide_eq_true_eq] at this
    have e : dpOf a i = a[i] := by
      unfold dpOf
      rw [List.getD_eq_getElem?_getD, List.getElem?_eq_getElem hi]
      rfl
    rw [e]
    rcases this with z | z
    · exact .inr z
    · exact .inl z.symm
  · right
    unfold dpOf
    rw [List.getD_eq_getElem?_getD, List.getElem?_eq_none (by omega)]
    rfl
theorem ss_expr (pd : Pd ps dp) {md : Md} (ha : SE dp io md ma va) : SS ps rm dl dp dp (sExpr ma) (vExpr va) := fun b0 F S h ve env g lw hb =>
  PoE.bindS pd lw hb (ha F S h ve env g) fun a b F1 S1 h1 ve1 Sr e1 t1 r1 lw1 hb1 => ⟨env, h1, F1, S1, rfl, e1.gd.sp lw1 hb1⟩
theorem ss_ret (pd : Pd ps dp) (ha : SE dp io rm ma va) (hm : rm ≠ .bor) : SS ps rm dl dp dp' (sRet ma) (vRet va) := fun b0 F S h ve env g lw hb =>
  PoE.bindS pd lw hb (ha F S h ve env g) fun a b F1 S1 h1 ve1 Sr e1 t1 r1 lw1 hb1 => by
    have s := (e1.gd.sp lw1 hb1).weak pd
    refine ⟨b, env, h1, _, _, Sr, rfl, s, ⟨t1.nd, fun n hn => Nat.le_trans hb (t1.lo n hn), t1.bd, fun n hn x => ?_, fun n hn i x => ?_⟩, ?_⟩
    · rcases x with x | ⟨i, _, x⟩
      · exact t1.nf n hn x
      · exact t1.ns n hn i x
    · split at x
      · cases x
      · exact t1.ns n hn i x
    · cases rm with
      | fl => exact ⟨r1.1.mono (fun n x => .inl x) fun _ _ => rfl, r1.2⟩
      | fz => exact ⟨r1.1.mono (fun n x => .inl x) fun _ _ => rfl, r1.2⟩
      | bor => exact absurd rfl hm
      | fr k => exact RV.mono (fun n x => .inl x) (fun _ _ => rfl) r1 fun _ _ => rfl
theorem ss_retN (pd : Pd ps dp) (hm : rm ≠ .bor) : SS ps rm dl dp dp' sRetN vRetN := fun b0 F S h ve env g lw hb => by
  have s := (g.sp lw hb).weak pd
  refine ⟨.non, env, h, _, _, [], rfl, s, .nil, ?_⟩
  cases rm with
  | fl => exact ⟨.non, rfl, rfl⟩
  | fz => exact ⟨.non, rfl⟩
  | bor => exact absurd rfl hm
  | fr k => exact RF.rv k .non rfl
/-- an owned list is handed out -/
theorem ss_retT {k : Nat} (i : Nat) (pd : Pd ps dp) (hi : ps.length ≤ i) (hk : dp i = k) : SS ps (.fr k) dl dp dp' (sRet (mVar i)) (vRetT i) := fun b0 F S h ve env g lw hb => by
  unfold vRetT sRet mVar
  cases e : ve[i]? with
  | none => trivial
  | some o =>
    cases o with
    | none => trivial
    | some u =>
      obtain ⟨d, e1, r⟩ := g.get i u e
      rw [e1]
      have s := (g.sp (ps := ps) lw hb)
      have g2 : Gd dp F (fun j => if j = i then [] else S j) h (ve.set i none) env := by
        refine ⟨by rw [List.length_set]; exact g.len, fun j v ej => ?_, fun j => ?_, fun j k n hj hk => ?_, fun j n hj => ?_, fun j n hj => ?_, g.fb⟩
        · rw [List.getElem?_set] at ej
          split at ej
          · split at ej <;> cases ej
          · rename_i z
            rw [if_neg fun q => z q.symm]
            exact g.get j v ej
        · split
          · exact List.nodup_nil
          · exact g.nd j
        · split at hj
          · cases hj
          · split at hk
            · cases hk
            · exact g.dj j k n hj hk
        · split at hj
          · cases hj
          · exact g.nf j n hj
        · split at hj
          · cases hj
          · exact g.bd j n hj
      have s2 : SP ps b0 dp F S h env F (fun j => if j = i then [] else S j) h (ve.set i none) env := by
        refine ⟨g2, fun j hj n hn => ?_, fun _ x => x, fun _ x => .inl x, Nat.le_refl _, fun _ _ _ => rfl, fun j n hn => ?_, fun _ _ => rfl⟩
        · split at hn
          · cases hn
          · exact lw j hj n hn
        · split at hn
          · cases hn
          · rcases Nat.lt_or_ge j ps.length with z | z
            · exact .inr (.inl ⟨z, hn⟩)
            · exact .inr (.inr ⟨j, z, hn⟩)
      refine ⟨d, env, h, _, _, S i, rfl, s2.weak pd, ⟨g.nd i, lw i hi, g.bd i, fun n hn x => ?_, fun n hn j x => ?_⟩, ?_⟩
      · rcases x with x | ⟨j, _, x⟩
        · exact g.nf i n hn x
        · split at x
          · cases x
          · rename_i z
            exact z (g.dj j i n x hn)
      · split at x
        · cases x
        · split at x
          · cases x
          · rename_i z
            exact z (g.dj j i n x hn)
      · show RV h _ k (S i) u d
        rw [← hk]
        exact r.mono (fun n x => .inl x) (fun _ _ => rfl) fun _ _ => rfl
theorem ss_asg (pd : Pd ps dp) (i : Nat) (ha : SE dp io (.fr (dp i)) ma va) (hi : ps.length ≤ i) : SS ps rm dl dp dp (sAsg ma (gN i)) (vAsg va i) := fun b0 F S h ve env g lw hb =>
  PoE.bindS0 pd lw hb (ha F S h ve env g) fun a b F1 S1 h1 ve1 Sr e1 t1 r1 s1 => ⟨env.set i (some b), h1, F1, _, rfl, s1.set i hi t1 hb r1⟩
theorem GP.sp {ts : List Nat} {b0 : Nat} {F F' : Nat → Prop} {S S' S2 : Nat → List Nat} {h h' : IH} {ve' ve2 : UE} {env env' env2 : En} (s : SP ps b0 dp F S h env F' S' h' ve' env') (p : GP dp ts F' S' h' ve' env' S2 ve2 env2) (hts : ∀ i ∈ ts, ps.length ≤ i) : SP ps b0 dp F S h env F' S2 h' ve2 env2 := by
  refine ⟨p.gd, fun j hj n hn => ?_, s.ff, s.fn, s.hl, s.fr, fun j n hn => ?_, fun j hj => ?_⟩
  · rcases p.so j with z | z
    · rw [z] at hn
      exact s.lw j hj n hn
    · rw [z] at hn
      cases hn
  · rcases p.so j with z | z
    · rw [z] at hn
      exact s.sn j n hn
    · rw [z] at hn
      cases hn
  · rw [(p.st j fun z => absurd (hts j z) (by omega)).2.1]
    exact s.ro j hj
theorem ss_asgT {ts : List Nat} {gt : MTg} {t : VTg} (pd : Pd ps dp) (ha : SE dp io .fz ma va) (ht : SG dp ts gt t) (hts : ∀ i ∈ ts, ps.length ≤ i) : SS ps rm dl dp dp (sAsg ma gt) (vAsgT va t) := fun b0 F S h ve env g lw hb =>
  PoE.bindS0 pd lw hb (ha F S h ve env g) fun a b F1 S1 h1 ve1 Sr e1 t1 r1 s1 => by
    have z := ht F1 S1 h1 ve1 env a b e1.gd r1.1
    revert z
    cases t a ve1 with
    | none => exact fun _ => trivial
    | some ve2 =>
      rintro ⟨env2, S2, z, p⟩
      rw [z]
      exact ⟨env2, h1, F1, S2, rfl, p.sp s1 hts⟩
theorem ss_if (pd : Pd ps dp) (hc : SB dp io tc wc) (h1 : SS ps rm dl dp dp' m1 v1) (h2 : SS ps rm dl dp dp' m2 v2) : SS ps rm dl dp dp' (sIf tc m1 m2) (vIfS wc v1 v2) := fun b0 F S h ve env g lw hb =>
  PoE.bindS pd lw hb (hc F S h ve env g) fun a b F1 S1 h3 ve1 Sr e1 t1 r1 lw1 hb1 => by
    subst r1
    cases a with
    | true => exact h1 b0 F1 S1 h3 ve1 env e1.gd lw1 hb1
    | false => exact h2 b0 F1 S1 h3 ve1 env e1.gd lw1 hb1
theorem ss_brk : SS ps rm dl dl dp' sBrk vBrk := fun b0 F S h ve env g lw hb => ⟨env, h, F, S, rfl, g.sp lw hb⟩
theorem ss_cnt : SS ps rm dl dl dp' sCnt vCnt := fun b0 F S h ve env g lw hb => ⟨env, h, F, S, rfl, g.sp lw hb⟩
theorem ss_aug (pd : Pd ps dp) (i : Nat) {f : D → D → IH → Res D} {gf : U → U → Option U} (od : Od2 f gf) (fl : Fl2 gf) (h0 : dp i = 0) (ha : SE dp io .bor ma va) (hi : ps.length ≤ i) : SS ps rm dl dp dp (sAug i f ma) (vAug i gf va) := fun b0 F S h ve env g lw hb =>
  PoE.bindS0 pd lw hb ((se_binL od fl (se_var i h0).fz_bor ha) F S h ve env g) fun a b F1 S1 h1 ve1 Sr e1 t1 r1 s1 => by
    obtain ⟨r1, r2, rfl⟩ := r1
    refine ⟨env.set i (some b), h1, F1, _, rfl, s1.set i hi t1 hb ?_⟩
    rw [h0]
    exact .fz r1
/-- the value may be a tuple, a list -/
theorem ss_augF (pd : Pd ps dp) (i : Nat) {f : D → D → IH → Res D} {gf : U → U → Option U} (od : Od2 f gf) (h0 : dp i = 0) (ha : SE dp io .fz ma va) (hi : ps.length ≤ i) : SS ps rm dl dp dp (sAug i f ma) (vAug i gf va) := fun b0 F S h ve env g lw hb =>
  PoE.bindS0 pd lw hb ((se_bin od (se_var i h0) ha) F S h ve env g) fun a b F1 S1 h1 ve1 Sr e1 t1 r1 s1 => by
    obtain ⟨r1, rfl⟩ := r1
    refine ⟨env.set i (some b), h1, F1, _, rfl, s1.set i hi t1 hb ?_⟩
    rw [h0]
    exact .fz r1
theorem ss_while (n : Nat) (pd : Pd ps dp) (hc : SB dp io tc wc) (h1 : SS ps rm dp dp dp m1 v1) : SS ps rm dl dp dp (whileM n tc m1) (vWhile n wc v1) := by
  induction n with
  | zero => exact fun b0 F S h ve env g lw hb => trivial
  | succ n ih =>
    refine fun b0 F S h ve env g lw hb => PoE.bindS pd lw hb (hc F S h ve env g) fun a b F1 S1 h3 ve1 Sr e1 t1 r1 lw1 hb1 => ?_
    subst r1
    cases a with
    | false => exact ⟨env, h3, F1, S1, rfl, e1.gd.sp lw1 hb1⟩
    | true =>
      have z := h1 b0 F1 S1 h3 ve1 env e1.gd lw1 hb1
      simp only [if_true]
      revert z
      cases v1 ve1 with
      | nx e =>
        rintro ⟨e2, h4, F2, S2, z, q⟩
        rw [z]
        exact PoS.trans q (ih b0 F2 S2 h4 e e2 q.gd q.lw (q.low hb1))
      | ct e =>
        rintro ⟨e2, h4, F2, S2, z, q⟩
        rw [z]
        exact PoS.trans q (ih b0 F2 S2 h4 e e2 q.gd q.lw (q.low hb1))
      | bk e =>
        rintro ⟨e2, h4, F2, S2, z, q⟩
        rw [z]
        exact ⟨e2, h4, F2, S2, rfl, q⟩
      | rt u e =>
        rintro ⟨d, e2, h4, F2, S2, Sr, z, q⟩
        rw [z]
        exact ⟨d, e2, h4, F2, S2, Sr, rfl, q⟩
      | exc u e =>
        rintro ⟨d, e2, h4, F2, S2, z, q⟩
        rw [z]
        exact ⟨d, e2, h4, F2, S2, rfl, q⟩
      | stk => exact fun _ => trivial
/-- one turn of a for -/
theorem for_turn {ts : List Nat} {gt : MTg} {t : VTg} {b0 : Nat} {F : Nat → Prop} {S : Nat → List Nat} {h : IH} {ve : UE} {env : En} {u : U} {d : D} {k : UE → UO} {km : En → IH → Out} (ht : SG dp ts gt t) (hts : ∀ i ∈ ts, ps.length ≤ i) (h1 : SS ps rm dp dp dp m1 v1) (g : Gd dp F S h ve env) (lw : ∀ i, ps.length ≤ i → ∀ n ∈ S i, b0 ≤ n) (hb : b0 ≤ h.length) (r : RF h F u d)
    (q : ∀ F' S' h' ve' env', SP ps b0 dp F S h env F' S' h' ve' env' → PoS ps b0 rm dl dp F' S' h' env' (k ve') (km env' h')) :
    PoS ps b0 rm dl dp F S h env (match t u ve with
      | none => .stk
      | some e1 => match v1 e1 with
        | .nx e2 => k e2
        | .ct e2 => k e2
        | .bk e2 => .nx e2
        | .rt d e2 => .rt d e2
        | .exc x e2 => .exc x e2
        | .stk => .stk) (match gt d env h with
      | none => .stk
      | some (e, h1) => match m1 e h1 with
        | .nx e h2 => km e h2
        | .ct e h2 => km e h2
        | .bk e h2 => .nx e h2
        | .rt d h2 => .rt d h2
        | .exc x e h2 => .exc x e h2
        | .stk => .stk) := by
  have z := ht F S h ve env u d g r
  revert z
  cases t u ve with
  | none => exact fun _ => trivial
  | some ve1 =>
    rintro ⟨env1, S1, z, p⟩
    rw [z]
    have s1 := p.sp (g.sp lw hb) hts
    have z := h1 b0 F S1 h ve1 env1 s1.gd s1.lw hb
    dsimp only
    revert z
    cases v1 ve1 with
    | nx e =>
      rintro ⟨e2, h4, F2, S2, z, q2⟩
      rw [z]
      exact PoS.trans (s1.trans q2) (q F2 S2 h4 e e2 (s1.trans q2))
    | ct e =>
      rintro ⟨e2, h4, F2, S2, z, q2⟩
      rw [z]
      exact PoS.trans (s1.trans q2) (q F2 S2 h4 e e2 (s1.trans q2))
    | bk e =>
      rintro ⟨e2, h4, F2, S2, z, q⟩
      rw [z]
      exact ⟨e2, h4, F2, S2, rfl, s1.trans q⟩
    | rt u e =>
      rintro ⟨d, e2, h4, F2, S2, Sr, z, q⟩
      rw [z]
      exact ⟨d, e2, h4, F2, S2, Sr, rfl, s1.trans q.1, q.2⟩
    | exc u e =>
      rintro ⟨d, e2, h4, F2, S2, z, q⟩
      rw [z]
      exact ⟨d, e2, h4, F2, S2, rfl, s1.trans q.1, q.2⟩
    | stk => exact fun _ => trivial
theorem SP.fz {b0 : Nat} {F F' : Nat → Prop} {S S' : Nat → List Nat} {h h' : IH} {ve ve' : UE} {env env' : En} (g : Gd dp F S h ve env) (s : SP ps b0 dp' F S h env F' S' h' ve' env') : ∀ n, F n → h'[n]? = h[n]? := fun n x => s.fr n (g.fb n x) fun i z => g.nf i n z x
theorem forS_ok {ts : List Nat} {gt : MTg} {t : VTg} (ht : SG dp ts gt t) (hts : ∀ i ∈ ts, ps.length ≤ i) (h1 : SS ps rm dp dp dp m1 v1) : ∀ {us : List U} {ds : List D} {b0 : Nat} {F : Nat → Prop} {S : Nat → List Nat} {h : IH} {ve : UE} {env : En}, Gd dp F S h ve env → (∀ i, ps.length ≤ i → ∀ n ∈ S i, b0 ≤ n) → b0 ≤ h.length → RFs h F us ds →
    PoS ps b0 rm dl dp F S h env (forV t v1 us ve) (forS gt m1 ds env h)
  | _, _, b0, F, S, h, ve, env, g, lw, hb, .nil => ⟨env, h, F, S, rfl, g.sp lw hb⟩
  | _, _, b0, F, S, h, ve, env, g, lw, hb, .cons a b => for_turn (k := forV t v1 _) (km := forS gt m1 _) ht hts h1 g lw hb a fun F' S' h' ve' env' s =>
      forS_ok ht hts h1 s.gd s.lw (s.low hb) (b.mono s.ff (s.fz g))
theorem forL_ok {ts : List Nat} {gt : MTg} {t : VTg} {get : IH → Option (List D)} (ht : SG dp ts gt t) (hts : ∀ i ∈ ts, ps.length ≤ i) (h1 : SS ps rm dp dp dp m1 v1) : ∀ (n i : Nat) {us : List U} {b0 : Nat} {F : Nat → Prop} {S : Nat → List Nat} {h : IH} {ve : UE} {env : En}, Gd dp F S h ve env → (∀ i, ps.length ≤ i → ∀ n ∈ S i, b0 ≤ n) → b0 ≤ h.length →
    (∀ h' : IH, (∀ n, F n → h'[n]? = h[n]?) → ∃ ds, get h' = some ds ∧ RFs h F us ds) → us.length < n + i → i ≤ us.length → PoS ps b0 rm dl dp F S h env (forV t v1 (us.drop i) ve) (forL get gt m1 n i env h)
  | 0, i, us, b0, F, S, h, ve, env, g, lw, hb, hg, hn, hi => by omega
  | n + 1, i, us, b0, F, S, h, ve, env, g, lw, hb, hg, hn, hi => by
    obtain ⟨ds, e, r⟩ := hg h fun _ _ => rfl
    unfold forL
    rw [e]
    dsimp only
    by_cases hi : i < us.length
    · obtain ⟨d, e1, r1⟩ := r.get (List.getElem?_eq_getElem hi)
      rw [e1, List.drop_eq_getElem_cons hi]
      refine for_turn (k := forV t v1 _) (km := forL get gt m1 n (i + 1)) ht hts h1 g lw hb r1 fun F' S' h' ve' env' s => ?_
      have hf := s.fz g
      refine forL_ok ht hts h1 n (i + 1) s.gd s.lw (s.low hb) (fun h2 hk => ?_) (by omega) (by omega)
      obtain ⟨ds2, e2, r2⟩ := hg h2 fun n x => (hk n (s.ff n x)).trans (hf n x)
      exact ⟨ds2, e2, r2.mono s.ff hf⟩
    · rw [List.drop_eq_nil_of_le (by omega), List.getElem?_eq_none (by rw [← r.length]; omega)]
      exact ⟨env, h, F, S, rfl, g.sp lw hb⟩
theorem ss_for {ts : List Nat} {gt : MTg} {t : VTg} {mi : MI} {vi : VI} (pd : Pd ps dp) (hi : SI dp io mi vi) (ht : SG dp ts gt t) (h1 : SS ps rm dp dp dp m1 v1) (hts : ∀ i ∈ ts, ps.length ≤ i) : SS ps rm dl dp dp (sFor mi gt m1) (vFor vi t v1) := fun b0 F S h ve env g lw hb =>
  PoE.bindS pd lw hb (hi F S h ve env g) fun us s F1 S1 h3 ve1 Sr e1 t1 r1 lw1 hb1 => by
    cases s with
    | st ds => exact forS_ok ht hts h1 e1.gd lw1 hb1 r1
    | lv get =>
      obtain ⟨ds, e, r⟩ := r1 h3 fun _ _ => rfl
      simp only [e]
      have := forL_ok (dl := dl) (us := us) ht hts h1 (ds.length + 1) 0 e1.gd lw1 hb1 r1 (by rw [r.length]; omega) (Nat.zero_le _)
      rw [List.drop_zero] at this
      exact this
end
end VV
set_option Elab.async false
set_option linter.all false
set_option maxRecDepth 100000
namespace VV
open PySem L2 DD
/-! ### several values, each to its own depth -/
section
variable (h : IH) (F : Nat → Prop)
inductive RVl : List Nat → List Nat → List U → List D → Prop
  | nil : RVl [] [] [] []
  | cons {k : Nat} {ks S T : List Nat} {u : U} {d : D} {us : List U} {ds : List D} : RV h F k S u d → RVl ks T us ds → RVl (k :: ks) (S ++ T) (u :: us) (d :: ds)
end
def SL (dp : Nat → Nat) (io : List Nat) (ks : List Nat) (m : MA) (v : VA) : Prop := ∀ F S h ve env, Gd dp F S h ve env → PoE h.length dp io F S h ve env (fun F' S' h' Sr us ds => RVl h' F' ks Sr us ds) (v ve) (m env h)
def setAll : List Nat → List U → UE → UE
  | i :: is, u :: us, e => setAll is us (e.set i (some u))
  | _, _, e => e
def setAllD : List Nat → List D → En → En
  | i :: is, u :: us, e => setAllD is us (e.set i (some u))
  | _, _, e => e
def vParN (is : List Nat) (r : VA) : VS := fun e => (r e).bindS fun us e1 => .nx (setAll is us e1)
section
variable {ps : List Nat} {rm : Md} {dl dp dp' dp2 : Nat → Nat} {io : List Nat} {ma : ME} {va : VE} {mr : MA} {vr : VA} {ks : List Nat}
theorem sl_nil : SL dp io [] mNil vNil := fun F S h ve env g => PoE.val (Sr := []) g .nil .nil
theorem Tm.append {F : Nat → Prop} {S : Nat → List Nat} {h : IH} {lo : Nat} {Sr Tr : List Nat} (a : Tm F S lo h Sr) (b : Tm F S lo h Tr) (hd : ∀ n ∈ Sr, n ∉ Tr) : Tm F S lo h (Sr ++ Tr) := by
  refine ⟨?_, fun n hn => ?_, fun n hn => ?_, fun n hn => ?_, fun n hn => ?_⟩
  · rw [List.nodup_append]
    refine ⟨a.nd, b.nd, fun x hx y hy e => ?_⟩
    subst e
    exact hd x hx hy
  · exact (List.mem_append.mp hn).elim (a.lo n) (b.lo n)
  · exact (List.mem_append.mp hn).elim (a.bd n) (b.bd n)
  · exact (List.mem_append.mp hn).elim (a.nf n) (b.nf n)
  · exact (List.mem_append.mp hn).elim (a.ns n) (b.ns n)
theorem sl_cons {k : Nat} (ha : SE dp io (.fr k) ma va) (hr : SL dp io ks mr vr) : SL dp io (k :: ks) (mCons ma mr) (vCons va vr) := fun F S h ve env gd =>
  (ha F S h ve env gd).bind fun x a F1 S1 h1 ve1 Sr e1 t1 r1 => (hr F1 S1 h1 ve1 env e1.gd).bind fun xs as F2 S2 h2 ve2 Tr e2 t2 r2 =>
    PoE.val (Sr := Sr ++ Tr) e2.gd ((t1.keep e2).append (t2.low e1.hl) fun n h1 h2 => absurd (t1.bd n h1) (Nat.not_lt.mpr (t2.lo n h2))) (.cons (RM.keep (md := .fr k) e1.gd e2 t1 r1) r2)
theorem SP.setAll {b0 : Nat} {F F' : Nat → Prop} {S : Nat → List Nat} {h h' : IH} {env : En} (hb : b0 ≤ h.length) : ∀ {is : List Nat} {us : List U} {ds : List D} {Sr : List Nat} {S' : Nat → List Nat} {ve' : UE} {env' : En}, SP ps b0 dp F S h env F' S' h' ve' env' → Tm F' S' h.length h' Sr → RVl h' F' (is.map dp) Sr us ds → (∀ i ∈ is, ps.length ≤ i) →
    ∃ S2, SP ps b0 dp F S h env F' S2 h' (VV.setAll is us ve') (setAllD is ds env')
  | [], _, _, _, S', _, _, s, _, _, _ => by
    refine ⟨S', ?_⟩
    unfold VV.setAll setAllD
    exact s
  | i :: is, us, ds, Sr, S', ve', env', s, t, r, hi => by
    cases r with
    | cons a b =>
      rename_i A B u d us ds
      have t1 : Tm F' S' h.length h' A := ⟨(List.nodup_append.mp t.nd).1, fun n hn => t.lo n (List.mem_append_left _ hn), fun n hn => t.bd n (List.mem_append_left _ hn), fun n hn => t.nf n (List.mem_append_left _ hn), fun n hn => t.ns n (List.mem_append_left _ hn)⟩
      have s1 := s.set i (hi i List.mem_cons_self) t1 hb a
      have t2 : Tm F' (fun j => if j = i then A else S' j) h.length h' B := ⟨(List.nodup_append.mp t.nd).2.1, fun n hn => t.lo n (List.mem_append_right _ hn), fun n hn => t.bd n (List.mem_append_right _ hn), fun n hn => t.nf n (List.mem_append_right _ hn), fun n hn j x => by
        split at x
        · exact (List.nodup_append.mp t.nd).2.2 n x n hn rfl
        · exact t.ns n (List.mem_append_right _ hn) j x⟩
      show ∃ S2, SP ps b0 dp F S h env F' S2 h' (VV.setAll is us (ve'.set i (some u))) (setAllD is ds (env'.set i (some d)))
      exact SP.setAll hb s1 t2 b fun j hj => hi j (List.mem_cons_of_mem _ hj)
theorem RVl.length {h : IH} {F : Nat → Prop} : ∀ {ks S : List Nat} {us : List U} {ds : List D}, RVl h F ks S us ds → us.length = ks.length ∧ ds.length = ks.length
  | _, _, _, _, .nil => ⟨rfl, rfl⟩
  | _, _, _, _, .cons _ b => by
    obtain ⟨a, c⟩ := b.length
    exact ⟨by rw [List.length_cons, List.length_cons, a], by rw [List.length_cons, List.length_cons, c]⟩
theorem ss_parN {f : List D → En → IH → Out} {is : List Nat} (pd : Pd ps dp) (ha : SL dp io (is.map dp) mr vr) (hi : ∀ i ∈ is, ps.length ≤ i) (hf : ∀ ds env h, ds.length = is.length → f ds env h = .nx (setAllD is ds env) h) : SS ps rm dl dp dp (fun env h => (mr env h).bindS env fun ds h1 => f ds env h1) (vParN is vr) := fun b0 F S h ve env g lw hb =>
  PoE.bindS0 pd lw hb (ha F S h ve env g) fun a b F1 S1 h1 ve1 Sr e1 t1 r1 s1 => by
    obtain ⟨S2, s2⟩ := SP.setAll hb s1 t1 r1 hi
    rw [hf b env h1 (by rw [r1.length.2, List.length_map])]
    exact ⟨_, h1, F1, S2, rfl, s2⟩
theorem ss_par (i j : Nat) (pd : Pd ps dp) (ha : SL dp io [dp i, dp j] mr vr) (hi : ps.length ≤ i) (hj : ps.length ≤ j) : SS ps rm dl dp dp (sPar i j mr) (vParN [i, j] vr) :=
  ss_parN (f := fun ds env h1 => match ds with
    | [d, e] => .nx ((env.set i (some d)).set j (some e)) h1
    | _ => .stk) (is := [i, j]) pd ha (fun k hk => by simp at hk; omega) fun ds env h hl => match ds, hl with
    | [d, e], _ => rfl
theorem ss_par3 (i j k : Nat) (pd : Pd ps dp) (ha : SL dp io [dp i, dp j, dp k] mr vr) (hi : ps.length ≤ i) (hj : ps.length ≤ j) (hk : ps.length ≤ k) : SS ps rm dl dp dp (sPar3 i j k mr) (vParN [i, j, k] vr) :=
  ss_parN (f := fun ds env h1 => match ds with
    | [d, e, f] => .nx (((env.set i (some d)).set j (some e)).set k (some f)) h1
    | _ => .stk) (is := [i, j, k]) pd ha (fun k hk => by simp at hk; omega) fun ds env h hl => match ds, hl with
    | [d, e, f], _ => rfl
def gsOf : List Nat → MTs
  | [] => gsNil
  | i :: is => gsCons (gN i) (gsOf is)
theorem gsOf_ok : ∀ (is : List Nat) (ds : List D) (env : En) (h : IH), ds.length = is.length → gsOf is ds env h = some (setAllD is ds env, h)
  | [], [], env, h, _ => rfl
  | i :: is, d :: ds, env, h, e => gsOf_ok is ds (env.set i (some d)) h (by simpa using e)
theorem bind_bindS {α β : Type} (r : Res α) (f : α → IH → Res β) (env : En) (g : β → IH → Out) : (r.bind f).bindS env g = r.bindS env fun a h => (f a h).bindS env g := by
  cases r <;> rfl
/-- a tuple's parts to names -/
theorem ss_parT (is : List Nat) (n : Nat) (pd : Pd ps dp) (ha : SL dp io (is.map dp) mr vr) (hn : is.length = n) (hs : n ≤ sizeLine) (hi : ∀ i ∈ is, ps.length ≤ i) : SS ps rm dl dp dp (sAsg (mTup mr) (gT n (gsOf is))) (vParN is vr) := by
  have := ss_parN (rm := rm) (dl := dl) (f := fun ds env h1 => (if ds.length ≤ sizeLine then Res.val (D.tup ds) h1 else .stk).bindS env fun d h1 => toOut (gT n (gsOf is) d env h1)) (is := is) pd ha hi fun ds env h hl => by
    rw [if_pos (by omega)]
    simp only [Res.bindS, gT, hl, hn, if_true, gsOf_ok is ds env h hl, toOut]
  have e : sAsg (mTup mr) (gT n (gsOf is)) = fun env h => (mr env h).bindS env fun ds h1 => (if ds.length ≤ sizeLine then Res.val (D.tup ds) h1 else .stk).bindS env fun d h1 => toOut (gT n (gsOf is) d env h1) := by
    funext env h
    unfold sAsg mTup
    rw [bind_bindS]
  rw [e]
  exact this
end
/-! ### lists and dicts that are changed -/
theorem RVs.get {h : IH} {F : Nat → Prop} {k : Nat} : ∀ {S : List Nat} {us : List U} {ds : List D} {i : Nat} {u : U}, RVs h F k S us ds → us[i]? = some u → ∃ d A T B, ds[i]? = some d ∧ S = A ++ T ++ B ∧ RV h F k T u d ∧
    ∀ h' F' u' d' T', (∀ n, F n → F' n) → (∀ n, F n → h'[n]? = h[n]?) → (∀ n, n ∈ A ∨ n ∈ B → h'[n]? = h[n]?) → RV h' F' k T' u' d' → RVs h' F' k (A ++ T' ++ B) (us.set i u') (ds.set i d')
  | _, _, _, _, _, .nil, e => by simp at e
  | _, _, _, 0, _, .cons (S := S) (T := T) a b, e => by
    simp at e
    subst e
    exact ⟨_, [], S, T, rfl, rfl, a, fun h' F' u' d' T' hf hh hs r => RVs.cons r (RVs.mono hf hh b fun n hn => hs n (.inr hn))⟩
  | _, _, _, i + 1, _, .cons (S := S) (T := T) a b, e => by
    obtain ⟨d, A, T2, B, h1, h2, h3, h4⟩ := RVs.get (i := i) b (by simpa using e)
    refine ⟨d, S ++ A, T2, B, by simpa using h1, by rw [h2]; simp, h3, fun h' F' u' d' T' hf hh hs r => ?_⟩
    have := RVs.cons (a.mono hf hh fun n hn => hs n (.inl (List.mem_append_left _ hn))) (h4 h' F' u' d' T' hf hh (fun n hn => hs n (hn.imp (List.mem_append_right _) id)) r)
    simpa using this
theorem RVs.append {h : IH} {F : Nat → Prop} {k : Nat} : ∀ {S T : List Nat} {us vs : List U} {ds es : List D}, RVs h F k S us ds → RVs h F k T vs es → RVs h F k (S ++ T) (us ++ vs) (ds ++ es)
  | _, _, _, _, _, _, .nil, s => s
  | _, _, _, _, _, _, .cons a b, s => by
    rw [List.append_assoc]
    exact RVs.cons a (b.append s)
def setU (kvs : List (Key × U)) (k : Key) (v : U) : List (Key × U) := match kvs with
  | [] => []
  | (j, d) :: r => (if j = k then (j, v) else (j, d)) :: setU r k v
def putU (kvs : List (Key × U)) (k : Key) (v : U) : List (Key × U) := if (valU kvs k).isSome = true then setU kvs k v else kvs ++ [(k, v)]
/-- what is deep in a thing, by keys -/
def getP : U → List U → Option U
  | u, [] => some u
  | .lst us, k :: p => match k with
    | .int i => match ixN us.length i with
      | some j => match us[j]? with
        | some w => getP w p
        | none => none
      | none => none
    | _ => none
  | .dic kvs, k :: p => match keyU k with
    | some j => match valU kvs j with
      | some w => getP w p
      | none => none
    | none => none
  | _, _ :: _ => none
def setP : U → List U → U → U
  | _, [], w => w
  | .lst us, k :: p, w => match k with
    | .int i => match ixN us.length i with
      | some j => match us[j]? with
        | some x => .lst (us.set j (setP x p w))
        | none => .lst us
      | none => .lst us
    | _ => .lst us
  | .dic kvs, k :: p, w => match keyU k with
    | some j => match valU kvs j with
      | some x => .dic (setU kvs j (setP x p w))
      | none => .dic kvs
    | none => .dic kvs
  | u, _ :: _, _ => u
/-- the same way on D -/
def getPD (h : IH) : D → List D → Option D
  | d, [] => some d
  | d, k :: p => match DD.pyIx d k h with
    | .val x _ => getPD h x p
    | _ => none
theorem set_self {α : Type} (xs : List α) (i : Nat) (x : α) (e : xs[i]? = some x) : xs.set i x = xs := by
  apply List.ext_getElem?
  intro j
  rw [List.getElem?_set]
  split
  · rename_i z
    subst z
    split
    · exact e.symm
    · rw [List.getElem?_eq_none (by omega)]
  · rfl
theorem setU_keys : ∀ (kvs : List (Key × U)) (k : Key) (v : U), (setU kvs k v).map (·.1) = kvs.map (·.1)
  | [], _, _ => rfl
  | (j, d) :: r, k, v => by
    simp only [setU, List.map_cons, setU_keys r k v]
    split <;> rfl
theorem setD_keys : ∀ (kvs : List (Key × D)) (k : Key) (v : D), (setD kvs k v).map (·.1) = kvs.map (·.1)
  | [], _, _ => rfl
  | (j, d) :: r, k, v => by
    simp only [setD, List.map_cons, setD_keys r k v]
    split <;> rfl
theorem setU_not : ∀ (kvs : List (Key × U)) (k : Key) (v : U), k ∉ kvs.map (·.1) → setU kvs k v = kvs
  | [], _, _, _ => rfl
  | (j, d) :: r, k, v, hn => by
    rw [List.map_cons, List.mem_cons] at hn
    simp only [setU, setU_not r k v fun z => hn (.inr z)]
    rw [if_neg fun e => hn (.inl e.symm)]
theorem setD_not : ∀ (kvs : List (Key × D)) (k : Key) (v : D), k ∉ kvs.map (·.1) → setD kvs k v = kvs
  | [], _, _, _ => rfl
  | (j, d) :: r, k, v, hn => by
    rw [List.map_cons, List.mem_cons] at hn
    simp only [setD, setD_not r k v fun z => hn (.inr z)]
    rw [if_neg fun e => hn (.inl e.symm)]
/-- the value at a key of a dict, that may be changed -/
theorem RVs.key {h : IH} {F : Nat → Prop} {k : Nat} : ∀ {S : List Nat} {ks : List (Key × U)} {kvs : List (Key × D)} {j : Key} {u : U}, ks.map (·.1) = kvs.map (·.1) → (kvs.map (·.1)).Nodup → RVs h F k S (ks.map (·.2)) (kvs.map (·.2)) → valU ks j = some u → ∃ d A T B, valD kvs j = some d ∧ S = A ++ T ++ B ∧ RV h F k T u d ∧
    ∀ h' F' u' d' T', (∀ n, F n → F' n) → (∀ n, F n → h'[n]? = h[n]?) → (∀ n, n ∈ A ∨ n ∈ B → h'[n]? = h[n]?) → RV h' F' k T' u' d' → RVs h' F' k (A ++ T' ++ B) ((setU ks j u').map (·.2)) ((setD kvs j d').map (·.2))
  | _, [], _, _, _, _, _, _, e => by cases e
  | _, _ :: _, [], _, _, e, _, _, _ => by simp at e
  | _, (i, x) :: ks, (i', y) :: kvs, j, u, e, nd, r, z => by
    simp only [List.map_cons, List.cons.injEq] at e
    obtain ⟨rfl, e⟩ := e
    rw [List.map_cons, List.nodup_cons] at nd
    cases r with
    | cons a b =>
      rename_i S T
      by_cases hj : i = j
      · subst hj
        simp only [valU, if_true, Option.some.injEq] at z
        subst z
        refine ⟨y, [], S, T, by simp only [valD, if_true], rfl, a, fun h' F' u' d' T' hf hh hs r => ?_⟩
        simp only [setU, setD, if_true, List.map_cons]
        rw [setU_not ks i u' (by rw [e]; exact nd.1), setD_not kvs i d' nd.1]
        exact RVs.cons r (RVs.mono hf hh b fun n hn => hs n (.inr hn))
      · simp only [valU, if_neg hj] at z
        obtain ⟨d, A, T2, B, h1, h2, h3, h4⟩ := RVs.key e nd.2 b z
        refine ⟨d, S ++ A, T2, B, by simp only [valD, if_neg hj, h1], by rw [h2]; simp, h3, fun h' F' u' d' T' hf hh hs r => ?_⟩
        have := RVs.cons (a.mono hf hh fun n hn => hs n (.inl (List.mem_append_left _ hn))) (h4 h' F' u' d' T' hf hh (fun n hn => hs n (hn.imp (List.mem_append_right _) id)) r)
        simp only [setU, setD, if_neg hj, List.map_cons]
        simpa using this
theorem setD_self : ∀ (kvs : List (Key × D)) (k : Key) (v : D), (kvs.map (·.1)).Nodup → valD kvs k = some v → setD kvs k v = kvs
  | [], _, _, _, _ => rfl
  | (j, d) :: r, k, v, nd, e => by
    rw [List.map_cons, List.nodup_cons] at nd
    by_cases hj : j = k
    · subst hj
      simp only [valD, if_true, Option.some.injEq] at e
      subst e
      simp only [setD, if_true]
      rw [setD_not r j d nd.1]
    · simp only [valD, if_neg hj] at e
      simp only [setD, if_neg hj, setD_self r k v nd.2 e]
/-- THE WAY to what is deep in an owned thing -/
theorem way {h : IH} {F : Nat → Prop} : ∀ {p : List U} {q : List D} {k : Nat} {S : List Nat} {u w : U} {d : D}, RFs h F p q → RV h F (p.length + (k + 1)) S u d → getP u p = some w → ∃ e A T B, (∀ h' : IH, (∀ n ∈ A, h'[n]? = h[n]?) → getPD h' d q = some e) ∧ S = A ++ T ++ B ∧ RV h F (k + 1) T w e ∧
    ∀ h' F' w' T', (∀ n, F n → F' n) → (∀ n, F n → h'[n]? = h[n]?) → (∀ n, n ∈ A ∨ n ∈ B → h'[n]? = h[n]?) → RV h' F' (k + 1) T' w' e → RV h' F' (p.length + (k + 1)) (A ++ T' ++ B) (setP u p w') d
  | [], _, k, S, u, w, d, .nil, r, e => by
    simp only [getP, Option.some.injEq] at e
    subst e
    have r' : RV h F (k + 1) S u d := by simpa using r
    refine ⟨d, [], S, [], fun _ _ => rfl, by simp, r', fun h' F' w' T' hf hh hs r2 => ?_⟩
    simpa [setP] using r2
  | x :: p, _, k, S, u, w, d, .cons (d := y) (ds := q) a b, r, e => by
    have hk : (x :: p).length + (k + 1) = (p.length + (k + 1)) + 1 := by rw [List.length_cons]; omega
    rw [hk] at r
    cases r with
    | ref hn rs =>
      rename_i n S us ds
      cases x with
      | int i =>
        cases a with
        | int =>
          simp only [getP] at e
          split at e
          · rename_i j hj
            split at e
            · rename_i v hv
              obtain ⟨dv, A, T, B, h1, h2, h3, h4⟩ := rs.get hv
              obtain ⟨e2, A2, T2, B2, z1, z2, z3, z4⟩ := way b h3 e
              refine ⟨e2, n :: (A ++ A2), T2, B2 ++ B, ?_, by rw [h2, z2]; simp, z3, fun h' F' w' T' hf hh hs r2 => ?_⟩
              · intro h' hA
                unfold getPD
                have : atI ds i = some dv := by
                  unfold atI
                  rw [← rs.length, hj]
                  exact h1
                simp only [DD.pyIx, hA n List.mem_cons_self, hn, this]
                exact z1 h' fun m hm => hA m (List.mem_cons_of_mem _ (List.mem_append_right _ hm))
              · rw [hk]
                simp only [setP, hj, hv]
                have y1 := z4 h' F' w' T' hf hh (fun m hm => hs m (by
                  rcases hm with hm | hm
                  · exact .inl (List.mem_cons_of_mem _ (List.mem_append_right _ hm))
                  · exact .inr (List.mem_append_left _ hm))) r2
                have y2 := h4 h' F' _ dv _ hf hh (fun m hm => hs m (by
                  rcases hm with hm | hm
                  · exact .inl (List.mem_cons_of_mem _ (List.mem_append_left _ hm))
                  · exact .inr (List.mem_append_right _ hm))) y1
                rw [set_self ds j dv h1] at y2
                have y3 := RV.ref ((hs n (.inl List.mem_cons_self)).trans hn) y2
                simpa using y3
            · cases e
          · cases e
      | _ => simp [getP] at e
    | dic hn c rs =>
      rename_i n S ks kvs
      simp only [getP] at e
      split at e
      · rename_i j hj
        split at e
        · rename_i v hv
          obtain ⟨dv, A, T, B, h1, h2, h3, h4⟩ := rs.key c.1 c.2 hv
          obtain ⟨e2, A2, T2, B2, z1, z2, z3, z4⟩ := way b h3 e
          refine ⟨e2, n :: (A ++ A2), T2, B2 ++ B, ?_, by rw [h2, z2]; simp, z3, fun h' F' w' T' hf hh hs r2 => ?_⟩
          · intro h' hA
            unfold getPD
            simp only [DD.pyIx, hA n List.mem_cons_self, hn, keyU_ok a hj, h1]
            exact z1 h' fun m hm => hA m (List.mem_cons_of_mem _ (List.mem_append_right _ hm))
          · rw [hk]
            have y1 := z4 h' F' w' T' hf hh (fun m hm => hs m (by
              rcases hm with hm | hm
              · exact .inl (List.mem_cons_of_mem _ (List.mem_append_right _ hm))
              · exact .inr (List.mem_append_left _ hm))) r2
            have y2 := h4 h' F' _ dv _ hf hh (fun m hm => hs m (by
              rcases hm with hm | hm
              · exact .inl (List.mem_cons_of_mem _ (List.mem_append_left _ hm))
              · exact .inr (List.mem_append_right _ hm))) y1
            rw [setD_self kvs j dv c.2 h1] at y2
            have y3 := RV.dic (ks := setU ks j (setP v p w')) ((hs n (.inl List.mem_cons_self)).trans hn) ⟨by rw [setU_keys]; exact c.1, c.2⟩ y2
            simp only [setP, hj, hv]
            simpa using y3
        · cases e
      · cases e
    | _ => simp [getP] at e
end VV
set_option Elab.async false
set_option linter.all false
set_option maxRecDepth 100000
namespace VV
open PySem L2 DD
/-! ### ways as expressions -/
def slot (e : UE) (i : Nat) : Option U := match e[i]? with
  | some (some u) => some u
  | _ => none
def vHere (i : Nat) : VA := fun e => match slot e i with
  | some _ => .val [] e
  | none => .stk
def vStep (i : Nat) (ks : VA) (k : VE) : VA := fun e => (ks e).bind fun kv e1 => (k e1).bind fun x e2 => match slot e2 i with
  | some u => if (getP u (kv ++ [x])).isSome = true then .val (kv ++ [x]) e2 else .stk
  | none => .stk
def OP (dp : Nat → Nat) (io : List Nat) (i n : Nat) (o : ME) (ks : VA) : Prop := ∀ F S h ve env, Gd dp F S h ve env → PoE h.length dp io F S h ve env (fun F' S' h' Sr kv d => Sr = [] ∧ ∃ di kd, env[i]? = some (some di) ∧ RFs h' F' kv kd ∧ kv.length = n ∧ getPD h' di kd = some d) (ks ve) (o env h)
theorem slot_some {e : UE} {i : Nat} {u : U} (z : slot e i = some u) : e[i]? = some (some u) := by
  unfold slot at z
  split at z
  · rename_i z2
    cases z
    exact z2
  · cases z
theorem pyIx_heap {a b x : D} {h h' : IH} (e : DD.pyIx a b h = .val x h') : h' = h := by
  unfold DD.pyIx at e
  split at e
  · split at e
    · split at e
      · cases e
        rfl
      · cases e
    · cases e
  · split at e
    · cases e
      rfl
    · cases e
  · split at e
    · cases e
      rfl
    · cases e
  · split at e
    · split at e
      · split at e
        · cases e
          rfl
        · cases e
      · cases e
    · split at e
      · split at e
        · cases e
          rfl
        · cases e
      · cases e
    · cases e
  · cases e
theorem getPD_snoc (h : IH) : ∀ (q : List D) (d y : D), getPD h d (q ++ [y]) = (getPD h d q).bind fun x => getPD h x [y]
  | [], d, y => rfl
  | k :: q, d, y => by
    rw [List.cons_append]
    unfold getPD
    cases DD.pyIx d k h with
    | val x h1 => exact getPD_snoc h q x y
    | exc x h1 => rfl
    | stk => rfl
theorem getPD_one {h : IH} {d y x : D} (e : getPD h d [y] = some x) : DD.pyIx d y h = .val x h := by
  unfold getPD at e
  split at e
  · rename_i z h1 e1
    cases e
    have := pyIx_heap e1
    subst this
    exact e1
  · cases e
theorem RFs.snoc {h : IH} {F : Nat → Prop} {us : List U} {ds : List D} {u : U} {d : D} (a : RFs h F us ds) (b : RF h F u d) : RFs h F (us ++ [u]) (ds ++ [d]) := a.append (.cons b .nil)
section
variable {dp : Nat → Nat} {io : List Nat} {i n : Nat} {o mk : ME} {ks : VA} {vk : VE}
theorem op_here : OP dp io i 0 (mVar i) (vHere i) := fun F S h ve env g => by
  unfold vHere
  cases z : slot ve i with
  | none => trivial
  | some u =>
    obtain ⟨d, e1, r⟩ := g.get i u (slot_some z)
    have hv : mVar i env h = .val d h := by
      unfold mVar
      rw [e1]
    rw [hv]
    exact PoE.val (Sr := []) g .nil ⟨rfl, d, [], e1, .nil, rfl, rfl⟩
theorem op_step (hi : i ∉ io) (hd : n + 2 ≤ dp i) (ho : OP dp io i n o ks) (hk : SE dp io .fz mk vk) : OP dp io i (n + 1) (mBin DD.pyIx o mk) (vStep i ks vk) := fun F S h ve env g =>
  (ho F S h ve env g).bind fun kv d F1 S1 h1 ve1 Sr e1 t1 r1 => (hk F1 S1 h1 ve1 env e1.gd).bind fun x y F2 S2 h2 ve2 Tr e2 t2 r2 => by
    obtain ⟨_, di, kd, ei, rk, hl, hp⟩ := r1
    cases z : slot ve2 i with
    | none => trivial
    | some u =>
      dsimp only
      split
      · rename_i hs
        obtain ⟨d2, e3, r⟩ := e2.gd.get i u (slot_some z)
        rw [ei] at e3
        cases e3
        have hF : ∀ n, F1 n → h2[n]? = h1[n]? := fun n x => e2.fr n (e1.gd.fb n x) fun i _ z => e1.gd.nf i n z x
        have rk2 := rk.mono e2.ff hF
        cases hg : getP u (kv ++ [x]) with
        | none =>
          rw [hg] at hs
          cases hs
        | some w =>
          obtain ⟨u1, eu1⟩ : ∃ u1, ve1[i]? = some (some u1) := by
            have := (e2.st i hi).2
            rw [slot_some z] at this
            exact ⟨u, this.symm⟩
          -- the way at h2
          have key : ∃ e, getPD h2 di (kd ++ [y]) = some e ∧ getPD h2 di kd = some d := by
            have pre : ∀ (p : List U) (x : U) (u w : U), getP u (p ++ [x]) = some w → ∃ v, getP u p = some v := by
              intro p
              induction p with
              | nil => exact fun x u w _ => ⟨u, by cases u <;> rfl⟩
              | cons a p ih =>
                intro x u w hw
                cases u <;> simp only [List.cons_append, getP] at hw ⊢ <;> try (cases hw; done)
                · split at hw
                  · split at hw
                    · split at hw
                      · exact ih _ _ _ hw
                      · cases hw
                    · cases hw
                  · cases hw
                · split at hw
                  · split at hw
                    · exact ih _ _ _ hw
                    · cases hw
                  · cases hw
            obtain ⟨v, hv⟩ := pre kv x u w hg
            obtain ⟨k, hk⟩ : ∃ k, dp i = kv.length + (k + 1) := ⟨dp i - kv.length - 1, by omega⟩
            rw [hk] at r
            obtain ⟨ev, A, T, B, w1, w2, w3, _⟩ := way rk2 r hv
            have hd1 : getPD h2 di kd = some d := by
              -- the same way at h1
              have ru : u1 = u := by
                have := (e2.st i hi).2
                rw [slot_some z, eu1] at this
                cases this
                rfl
              subst ru
              obtain ⟨d1, e5, r5⟩ := e1.gd.get i u1 eu1
              rw [ei] at e5
              cases e5
              rw [hk] at r5
              obtain ⟨ev1, A1, T1, B1, y1, y2, _, _⟩ := way rk r5 hv
              have y3 := y1 h1 fun _ _ => rfl
              rw [hp] at y3
              cases y3
              refine y1 h2 fun n hn => e2.fr n (e1.gd.bd i n ?_) fun j hj z => ?_
              · rw [y2]
                exact List.mem_append_left _ (List.mem_append_left _ hn)
              · have : n ∈ S1 i := by
                  rw [y2]
                  exact List.mem_append_left _ (List.mem_append_left _ hn)
                rw [e1.gd.dj i j n this z] at hi
                exact hi hj
            have rkx : RFs h2 F2 (kv ++ [x]) (kd ++ [y]) := rk2.snoc r2.1
            obtain ⟨k2, hk2⟩ : ∃ k2, kv.length + (k + 1) = (kv ++ [x]).length + (k2 + 1) := ⟨k - 1, by rw [List.length_append, List.length_singleton]; omega⟩
            rw [hk2] at r
            obtain ⟨e, _, _, _, w4, _⟩ := way rkx r hg
            exact ⟨e, w4 h2 fun _ _ => rfl, hd1⟩
          obtain ⟨e, z1, z2⟩ := key
          have z3 : getPD h2 d [y] = some e := by
            rw [getPD_snoc, z2] at z1
            exact z1
          rw [getPD_one z3]
          exact PoE.val (Sr := []) e2.gd .nil ⟨rfl, di, kd ++ [y], ei, rk2.snoc r2.1, by rw [List.length_append, hl]; rfl, z1⟩
      · trivial
end
/-! ### operations that change -/
/-- what an operation on an owned thing does (its items owned to a depth of j) -/
def Mo (j : Nat) (T : String) (f : D → List D → IH → Res D) (g : U → List U → Option (U × U)) : Prop := ∀ h (F : Nat → Prop) Sw Sa w d as das w' r, (∀ n, F n → n < h.length) → RV h F (j + 1) Sw w d → RVs h F j Sa as das → (Sw ++ Sa).Nodup → (∀ m ∈ Sw ++ Sa, ¬ F m) → g w as = some (w', r) →
  ∃ n h' r' Sw', f d das h = .val r' h' ∧ h'.length = h.length ∧ (∀ m, m ≠ n → h'[m]? = h[m]?) ∧ n ∈ Sw ∧ RV h' F (j + 1) Sw' w' d ∧ Sw'.Nodup ∧ (∀ m ∈ Sw', m ∈ Sw ∨ m ∈ Sa) ∧ RF h' F r r'
def vMut (T : String) (i : Nat) (ks : VA) (g : U → List U → Option (U × U)) (as : VA) : VE := fun e => (ks e).bind fun kv e1 => match slot e1 i with
  | some u0 => if (getP u0 kv).bind tyU = some T then (as e1).bind fun av e2 => (match slot e2 i with
    | some u => match getP u kv with
      | some w => match g w av with
        | some (w', r) => .val r (e2.set i (some (setP u kv w')))
        | none => .stk
      | none => .stk
    | none => .stk) else .stk
  | none => .stk
section
variable {dp : Nat → Nat} {io : List Nat} {i n j : Nat} {o mk : ME} {ks : VA} {vk : VE} {F F2 : Nat → Prop} {S S2 : Nat → List Nat} {h h2 : IH} {ve ve2 : UE} {env : En}
/-- the change itself -/
theorem mut_go {f : D → List D → IH → Res D} {g : U → List U → Option (U × U)} {T : String} (mo : Mo j T f g) (hd : dp i = n + (j + 1)) (a : EP dp io F S h ve env F2 S2 h2 ve2) {u w w' r : U} {kv as : List U} {kd das : List D} {di d : D} {Sa : List Nat} (ei : env[i]? = some (some di)) (rk : RFs h2 F2 kv kd) (hl : kv.length = n) (hp : getPD h2 di kd = some d)
    (hs : slot ve2 i = some u) (hg : getP u kv = some w) (ra : RVs h2 F2 j Sa as das) (t : Tm F2 S2 h.length h2 Sa) (z : g w as = some (w', r)) :
    ∃ h3 r' S3, f d das h2 = .val r' h3 ∧ EP dp (i :: io) F S h ve env F2 S3 h3 (ve2.set i (some (setP u kv w'))) ∧ RF h3 F2 r r' := by
  obtain ⟨d2, e3, ru⟩ := a.gd.get i u (slot_some hs)
  rw [ei] at e3
  cases e3
  have hk : dp i = kv.length + (j + 1) := by rw [hl]; exact hd
  rw [hk] at ru
  obtain ⟨e, A, Tw, B, w1, w2, w3, w4⟩ := way rk ru hg
  have w5 := w1 h2 fun _ _ => rfl
  rw [hp] at w5
  cases w5
  have nd := a.gd.nd i
  rw [w2] at nd
  have hTi : ∀ m ∈ Tw, m ∈ S2 i := fun m hm => by
    rw [w2]
    exact List.mem_append_left _ (List.mem_append_right _ hm)
  have nd1 := (List.nodup_append.mp nd).1
  have ndT := (List.nodup_append.mp nd1).2.1
  obtain ⟨n0, h3, r', T', y1, y2, y3, y4, y5, y6, y7, y8⟩ := mo h2 F2 Tw Sa w d as das w' r a.gd.fb w3 ra (by
    rw [List.nodup_append]
    refine ⟨ndT, t.nd, fun x hx y hy e => ?_⟩
    subst e
    exact t.ns x hy i (hTi x hx)) (fun m hm => by
    rcases List.mem_append.mp hm with hm | hm
    · exact a.gd.nf i m (hTi m hm)
    · exact t.nf m hm) z
  have n0i : n0 ∈ S2 i := hTi n0 y4
  have hF : ∀ m, F2 m → h3[m]? = h2[m]? := fun m x => y3 m fun e => a.gd.nf i n0 n0i (by rw [← e]; exact x)
  have hAB : ∀ m, m ∈ A ∨ m ∈ B → m ≠ n0 := fun m hm e => by
    subst e
    rcases hm with hm | hm
    · exact (List.nodup_append.mp nd1).2.2 m hm m y4 rfl
    · exact (List.nodup_append.mp nd).2.2 m (List.mem_append_right _ y4) m hm rfl
  have rn := w4 h3 F2 w' T' (fun _ x => x) hF (fun m hm => y3 m (hAB m hm)) y5
  have hmem : ∀ m, m ∈ A ++ T' ++ B → m ∈ S2 i ∨ m ∈ Sa := fun m hm => by
    rw [w2]
    rcases List.mem_append.mp hm with hm | hm
    · rcases List.mem_append.mp hm with hm | hm
      · exact .inl (List.mem_append_left _ (List.mem_append_left _ hm))
      · rcases y7 m hm with q | q
        · exact .inl (List.mem_append_left _ (List.mem_append_right _ q))
        · exact .inr q
    · exact .inl (List.mem_append_right _ hm)
  refine ⟨h3, r', fun k => if k = i then A ++ T' ++ B else S2 k, y1, ⟨⟨?_, fun k v ek => ?_, fun k => ?_, fun k l m hk hl => ?_, fun k m hk => ?_, fun k m hk => ?_, fun m x => by rw [y2]; exact a.gd.fb m x⟩, fun k hk => ?_, a.ff, fun m x => (a.fn m x).imp id fun z => z.imp id fun ⟨k, q1, q2⟩ => ⟨k, List.mem_cons_of_mem _ q1, q2⟩, by rw [y2]; exact a.hl, fun m hm hn => ?_, fun k m hkm => ?_⟩, y8⟩
  · rw [List.length_set]
    exact a.gd.len
  · rw [List.getElem?_set] at ek
    split at ek
    · rename_i q
      subst q
      split at ek
      · cases ek
        refine ⟨di, ei, ?_⟩
        rw [if_pos rfl, hk]
        exact rn
      · cases ek
    · rename_i q
      obtain ⟨dk, e5, r5⟩ := a.gd.get k v ek
      refine ⟨dk, e5, ?_⟩
      rw [if_neg fun z => q z.symm]
      exact r5.mono (fun _ x => x) hF fun m hm => y3 m fun e => q (a.gd.dj i k n0 n0i (by rw [← e]; exact hm))
  · split
    · rw [List.nodup_append] at nd ⊢
      rw [List.nodup_append] at nd1 ⊢
      refine ⟨⟨nd1.1, y6, fun x hx y hy e => ?_⟩, nd.2.1, fun x hx y hy e => ?_⟩
      · subst e
        rcases y7 x hy with q | q
        · exact nd1.2.2 x hx x q rfl
        · exact t.ns x q i (by rw [w2]; exact List.mem_append_left _ (List.mem_append_left _ hx))
      · subst e
        rcases List.mem_append.mp hx with hx | hx
        · exact nd.2.2 x (List.mem_append_left _ hx) x hy rfl
        · rcases y7 x hx with q | q
          · exact nd.2.2 x (List.mem_append_right _ q) x hy rfl
          · exact t.ns x q i (by rw [w2]; exact List.mem_append_right _ hy)
    · exact a.gd.nd k
  · split at hk <;> split at hl
    · rename_i p q
      rw [p, q]
    · rename_i p q
      rcases hmem m hk with x | x
      · exact absurd (a.gd.dj i l m x hl).symm q
      · exact absurd hl (t.ns m x l)
    · rename_i p q
      rcases hmem m hl with x | x
      · exact absurd (a.gd.dj i k m x hk).symm p
      · exact absurd hk (t.ns m x k)
    · exact a.gd.dj k l m hk hl
  · split at hk
    · rcases hmem m hk with x | x
      · exact a.gd.nf i m x
      · exact t.nf m x
    · exact a.gd.nf k m hk
  · rw [y2]
    split at hk
    · rcases hmem m hk with x | x
      · exact a.gd.bd i m x
      · exact t.bd m x
    · exact a.gd.bd k m hk
  · have hki : k ≠ i := fun e => hk (by rw [e]; exact List.mem_cons_self)
    obtain ⟨q1, q2⟩ := a.st k fun z => hk (List.mem_cons_of_mem _ z)
    refine ⟨by rw [if_neg hki]; exact q1, ?_⟩
    rw [List.getElem?_set_ne fun e => hki e.symm]
    exact q2
  · rw [y3 m fun e => ?_]
    · exact a.fr m hm fun k hk => hn k (List.mem_cons_of_mem _ hk)
    · subst e
      rcases a.sn i m n0i with q | q
      · exact hn i List.mem_cons_self q
      · omega
  · split at hkm
    · rename_i q
      subst q
      rcases hmem m hkm with x | x
      · exact a.sn k m x
      · exact .inr (t.lo m x)
    · exact a.sn k m hkm
theorem EP.wio (a : EP dp io F S h ve env F2 S2 h2 ve2) {io' : List Nat} (hs : ∀ k ∈ io, k ∈ io') : EP dp io' F S h ve env F2 S2 h2 ve2 :=
  ⟨a.gd, fun k hk => a.st k fun z => hk (hs k z), a.ff, fun n x => (a.fn n x).imp id fun z => z.imp id fun ⟨k, q1, q2⟩ => ⟨k, hs k q1, q2⟩, a.hl, fun n hn hk => a.fr n hn fun k hk2 => hk k (hs k hk2), a.sn⟩
theorem PoE.wio {α β : Type} {R : (Nat → Prop) → (Nat → List Nat) → IH → List Nat → α → β → Prop} {lo : Nat} {r : ER α} {m : Res β} (p : PoE lo dp io F S h ve env R r m) {io' : List Nat} (hs : ∀ k ∈ io, k ∈ io') : PoE lo dp io' F S h ve env R r m := by
  cases r with
  | val a e =>
    obtain ⟨b, h1, F1, S1, Sr, z, e1, t1, r1⟩ := p
    exact ⟨b, h1, F1, S1, Sr, z, e1.wio hs, t1, r1⟩
  | exc x e =>
    obtain ⟨y, h1, F1, S1, z, e1, rx⟩ := p
    exact ⟨y, h1, F1, S1, z, e1.wio hs, rx⟩
  | stk => trivial
/-- an object by its way, its items by their modes: .. -/
theorem se_mut {f : D → List D → IH → Res D} {g : U → List U → Option (U × U)} {T : String} {mr : MA} {vr : VA} (mo : Mo j T f g) (hi : i ∉ io) (hd : dp i = n + (j + 1)) (ho : OP dp io i n o ks) (ha : SA dp io (.fr j) mr vr) : SE dp (i :: io) .fz (mMeth T f o mr) (vMut T i ks g vr) := fun F S h ve env gd => by
  have hmon : ∀ k ∈ io, k ∈ i :: io := fun k hk => List.mem_cons_of_mem _ hk
  unfold vMut mMeth
  have p1 := ho F S h ve env gd
  revert p1
  cases ks ve with
  | exc x e =>
    rintro ⟨y, h1, F1, S1, z, e1, rx⟩
    rw [z]
    exact ⟨y, h1, F1, S1, rfl, e1.wio hmon, rx⟩
  | stk => exact fun _ => trivial
  | val kv ve1 =>
    rintro ⟨d, h1, F1, S1, Sr, z, e1, t1, _, di, kd, ei, rk, hl, hp⟩
    rw [z]
    simp only [ER.bind, Res.bind]
    cases zs : slot ve1 i with
    | none => trivial
    | some u0 =>
      dsimp only
      split
      · rename_i ht
        have hty : tyD h1 d = some T := by
          cases hg : getP u0 kv with
          | none =>
            rw [hg] at ht
            cases ht
          | some w =>
            rw [hg] at ht
            obtain ⟨d2, e3, ru⟩ := e1.gd.get i u0 (slot_some zs)
            rw [ei] at e3
            cases e3
            have hk : dp i = kv.length + (j + 1) := by rw [hl]; exact hd
            rw [hk] at ru
            obtain ⟨e, A, Tw, B, w1, w2, w3, w4⟩ := way rk ru hg
            have w5 := w1 h1 fun _ _ => rfl
            rw [hp] at w5
            cases w5
            exact tyU_ok (w3.frz (F' := fun n => F1 n ∨ n ∈ Tw) (fun n x => .inl x) fun n x => .inr x) ht
        rw [if_pos hty]
        have p2 := ha F1 S1 h1 ve1 env e1.gd
        revert p2
        cases vr ve1 with
        | exc x e =>
          rintro ⟨y, h2, F2, S2, z, e2, rx⟩
          rw [z]
          exact ⟨y, h2, F2, S2, rfl, (e1.trans e2).wio hmon, rx⟩
        | stk => exact fun _ => trivial
        | val av ve2 =>
          rintro ⟨das, h2, F2, S2, Sa, z, e2, t2, ra⟩
          rw [z]
          dsimp only
          cases zs2 : slot ve2 i with
          | none => trivial
          | some u =>
            dsimp only
            cases hg : getP u kv with
            | none => trivial
            | some w =>
              dsimp only
              cases zg : g w av with
              | none => trivial
              | some wr =>
                obtain ⟨w', r⟩ := wr
                have hF : ∀ m, F1 m → h2[m]? = h1[m]? := fun m x => e2.fr m (e1.gd.fb m x) fun k _ q => e1.gd.nf k m q x
                have hu : u0 = u := by
                  have := (e2.st i hi).2
                  rw [slot_some zs, slot_some zs2] at this
                  cases this
                  rfl
                subst hu
                have hp2 : getPD h2 di kd = some d := by
                  obtain ⟨d2, e3, ru⟩ := e1.gd.get i u0 (slot_some zs)
                  rw [ei] at e3
                  cases e3
                  have hk : dp i = kv.length + (j + 1) := by rw [hl]; exact hd
                  rw [hk] at ru
                  obtain ⟨e, A, Tw, B, w1, w2, _, _⟩ := way rk ru hg
                  have w5 := w1 h1 fun _ _ => rfl
                  rw [hp] at w5
                  cases w5
                  have hA : ∀ m ∈ A, m ∈ S1 i := fun m hm => by
                    rw [w2]
                    exact List.mem_append_left _ (List.mem_append_left _ hm)
                  exact w1 h2 fun m hm => e2.fr m (e1.gd.bd i m (hA m hm)) fun k hk2 q => hi (by rw [e1.gd.dj i k m (hA m hm) q]; exact hk2)
                obtain ⟨h3, r', S3, y1, y2, y3⟩ := mut_go mo hd (e1.trans e2) ei (rk.mono e2.ff hF) hl hp2 zs2 hg ra (t2.low e1.hl) zg
                exact ⟨r', h3, F2, S3, [], y1, y2, .nil, y3, rfl⟩
      · trivial
end
end VV
set_option Elab.async false
set_option linter.all false
set_option maxRecDepth 100000
namespace VV
open PySem L2 DD
/-! ### append, items set -/
def uAppend (w : U) (as : List U) : Option (U × U) := match w, as with
  | .lst us, [y] => if us.length < sizeLine then some (.lst (us ++ [y]), .non) else none
  | _, _ => none
theorem set_get {h : IH} {n m : Nat} {o : IO} (e : m ≠ n) : (h.set n o)[m]? = h[m]? := List.getElem?_set_ne fun z => e z.symm
theorem set_same {h : IH} {n : Nat} {o o' : IO} (e : h[n]? = some o') : (h.set n o)[n]? = some o := by
  rw [List.getElem?_set_self]
  exact (List.getElem?_eq_some_iff.mp e).1
theorem mo_append (j : Nat) : Mo j "list" pyAppend uAppend := fun h F Sw Sa w d as das w' r fb rw ra nd nf e => by
  unfold uAppend at e
  split at e
  · rename_i us y
    split at e
    · rename_i hl
      cases e
      cases rw with
      | ref hn rs =>
        rename_i n S ds
        rw [List.cons_append, List.nodup_cons] at nd
        have hne : ∀ m, m ∈ S ++ Sa → m ≠ n := fun m hm z => nd.1 (by rw [← z]; exact hm)
        have hF : ∀ m, F m → (h.set n (.lst (ds ++ das)))[m]? = h[m]? := fun m x => set_get fun z => nf n (List.mem_append_left _ List.mem_cons_self) (by rw [← z]; exact x)
        cases ra with
        | cons a b =>
          cases b with
          | nil =>
            rename_i A dy
            refine ⟨n, h.set n (.lst (ds ++ [dy])), .non, n :: (S ++ (A ++ [])), ?_, List.length_set, fun m hm => set_get hm, List.mem_cons_self, RV.ref (set_same hn) ?_, List.nodup_cons.mpr ⟨nd.1, nd.2⟩, fun m hm => ?_, .non⟩
            · simp only [pyAppend, lstAt_of hn, ← rs.length, if_pos hl]
            · exact (RVs.mono (fun _ x => x) hF rs fun m hm => set_get (hne m (List.mem_append_left _ hm))).append (RVs.mono (fun _ x => x) hF (RVs.cons a .nil) fun m hm => set_get (hne m (List.mem_append_right _ hm)))
            · rcases List.mem_cons.mp hm with rfl | hm
              · exact .inl List.mem_cons_self
              · exact (List.mem_append.mp hm).imp (List.mem_cons_of_mem _) id
    · cases e
  · cases e
def setF (d : D) (as : List D) (h : IH) : Res D := match as with
  | [y, v] => match pySet d y v h with
    | some h' => .val .non h'
    | none => .stk
  | _ => .stk
def uPut (w : U) (as : List U) : Option (U × U) := match w, as with
  | .lst us, [k, y] => match k with
    | .int i => match ixN us.length i with
      | some j => some (.lst (us.set j y), .non)
      | none => none
    | _ => none
  | .dic kvs, [k, y] => match keyU k with
    | some j => if kvs.length < sizeLine then some (.dic (putU kvs j y), .non) else none
    | none => none
  | _, _ => none
theorem RVs.two {h : IH} {F : Nat → Prop} {j : Nat} {Sa : List Nat} {k y : U} {das : List D} (hf : flat k = true) (ra : RVs h F j Sa [k, y] das) : ∃ dk dy, das = [dk, dy] ∧ RF h F k dk ∧ RV h F j Sa y dy := by
  cases ra with
  | cons a b =>
    cases b with
    | cons b c =>
      cases c with
      | nil =>
        rename_i A dk B dy
        refine ⟨dk, dy, rfl, ?_, ?_⟩
        · have := a.frz (F' := fun n => F n ∨ n ∈ A) (fun _ x => .inl x) fun _ x => .inr x
          exact this.flat hf _ _
        · have hA : A = [] := by
            have key : ∀ {j : Nat} {A : List Nat} {k : U} {d : D}, RV h F j A k d → flat k = true → A = [] := by
              intro j A k d r hf
              have aux : (∀ {j : Nat} {A : List Nat} {k : U} {d : D}, RV h F j A k d → flat k = true → A = []) := by
                intro j A k d r
                refine RV.rec (motive_1 := fun j A k d _ => flat k = true → A = []) (motive_2 := fun j A ks ds _ => flats ks = true → A = []) ?_ ?_ ?_ ?_ ?_ ?_ ?_ ?_ ?_ ?_ ?_ ?_ r
                · intros; rfl
                · intros; rfl
                · intros; rfl
                · intros; rfl
                · intros; rfl
                · intros; rfl
                · intros; rfl
                · intro k S us ds r ih hf
                  exact ih hf
                · intro k n S us ds e r ih hf
                  simp [flat] at hf
                · intro k n S ks kvs e c r ih hf
                  simp [flat] at hf
                · intros; rfl
                · intro k S T u d us ds a b iha ihb hf
                  rw [flats, Bool.and_eq_true] at hf
                  rw [iha hf.1, ihb hf.2]
                  rfl
              exact aux r hf
            exact key a hf
          subst hA
          simpa using b
theorem keyU_flat {k : U} {j : Key} (e : keyU k = some j) : flat k = true := by
  cases k <;> first | rfl | cases e
theorem putU_keys {ks : List (Key × U)} {kvs : List (Key × D)} {j : Key} {y : U} {v : D} (e : ks.map (·.1) = kvs.map (·.1)) (hs : (valU ks j).isSome = hasD kvs j) : (putU ks j y).map (·.1) = (putD kvs j v).map (·.1) := by
  unfold putU putD
  rw [hs]
  split
  · rw [setU_keys, setD_keys, e]
  · simp [e]
theorem mem_val : ∀ (kvs : List (Key × D)) (j : Key), j ∈ kvs.map (·.1) → hasD kvs j = true
  | [], j, h => by cases h
  | (i, d) :: r, j, h => by
    unfold hasD
    by_cases e : i = j
    · simp [valD, e]
    · rw [List.map_cons, List.mem_cons] at h
      simp only [valD, if_neg e]
      rcases h with h | h
      · exact absurd h.symm e
      · exact mem_val r j h
theorem mo_put (j : Nat) : Mo j "" setF uPut := fun h F Sw Sa w d as das w' r fb rw ra nd nf e => by
  unfold uPut at e
  split at e
  · rename_i us k y
    split at e
    · rename_i i
      split at e
      · rename_i x hx
        cases e
        obtain ⟨dk, dy, rfl, rk, ry⟩ := ra.two rfl
        cases rk
        cases rw with
        | ref hn rs =>
          rename_i n S ds
          have hj := (ixN_seq hx).2.1
          obtain ⟨dv, A, T, B, q1, q2, q3, q4⟩ := rs.get (List.getElem?_eq_getElem hj)
          rw [List.cons_append, List.nodup_cons] at nd
          have hne : ∀ m, m ∈ S ++ Sa → m ≠ n := fun m hm z => nd.1 (by rw [← z]; exact hm)
          have hF : ∀ m, F m → (h.set n (.lst (ds.set x dy)))[m]? = h[m]? := fun m x => set_get fun z => nf n (List.mem_append_left _ List.mem_cons_self) (by rw [← z]; exact x)
          have hS : ∀ m, m ∈ A ∨ m ∈ B → m ∈ S := fun m hm => by
            rw [q2]
            rcases hm with hm | hm
            · exact List.mem_append_left _ (List.mem_append_left _ hm)
            · exact List.mem_append_right _ hm
          refine ⟨n, h.set n (.lst (ds.set x dy)), .non, n :: (A ++ Sa ++ B), ?_, List.length_set, fun m hm => set_get hm, List.mem_cons_self, RV.ref (set_same hn) ?_, ?_, fun m hm => ?_, .non⟩
          · have : ixN ds.length i = some x := by rw [← rs.length]; exact hx
            simp only [setF, pySet, hn, this]
          · exact q4 _ F y dy Sa (fun _ x => x) hF (fun m hm => set_get (hne m (List.mem_append_left _ (hS m hm)))) (ry.mono (fun _ x => x) hF fun m hm => set_get (hne m (List.mem_append_right _ hm)))
          · have nS := (List.nodup_append.mp nd.2).1
            rw [q2] at nS
            have nS1 := List.nodup_append.mp nS
            have nS2 := List.nodup_append.mp nS1.1
            have dis := (List.nodup_append.mp nd.2).2.2
            rw [List.nodup_cons, List.nodup_append, List.nodup_append]
            refine ⟨fun hm => ?_, ⟨nS2.1, (List.nodup_append.mp nd.2).2.1, fun a ha b hb z => ?_⟩, nS1.2.1, fun a ha b hb z => ?_⟩
            · refine nd.1 ?_
              rcases List.mem_append.mp hm with hm | hm
              · rcases List.mem_append.mp hm with hm | hm
                · exact List.mem_append_left _ (hS n (.inl hm))
                · exact List.mem_append_right _ hm
              · exact List.mem_append_left _ (hS n (.inr hm))
            · subst z
              exact dis a (hS a (.inl ha)) a hb rfl
            · subst z
              rcases List.mem_append.mp ha with ha | ha
              · exact nS1.2.2 a (List.mem_append_left _ ha) a hb rfl
              · exact dis a (hS a (.inr hb)) a ha rfl
          · rcases List.mem_cons.mp hm with rfl | hm
            · exact .inl List.mem_cons_self
            · rcases List.mem_append.mp hm with hm | hm
              · rcases List.mem_append.mp hm with hm | hm
                · exact .inl (List.mem_cons_of_mem _ (hS m (.inl hm)))
                · exact .inr hm
              · exact .inl (List.mem_cons_of_mem _ (hS m (.inr hm)))
      · cases e
    · cases e
  · rename_i ks k y
    split at e
    · rename_i x hx
      split at e
      · rename_i hl
        cases e
        obtain ⟨dk, dy, rfl, rk, ry⟩ := ra.two (keyU_flat hx)
        cases rw with
        | dic hn c rs =>
          rename_i n S kvs
          rw [List.cons_append, List.nodup_cons] at nd
          have hne : ∀ m, m ∈ S ++ Sa → m ≠ n := fun m hm z => nd.1 (by rw [← z]; exact hm)
          have hlk : kvs.length = ks.length := by
            have := congrArg List.length c.1
            rw [List.length_map, List.length_map] at this
            exact this.symm
          have hF : ∀ m, F m → (h.set n (.dic (putD kvs x dy)))[m]? = h[m]? := fun m x => set_get fun z => nf n (List.mem_append_left _ List.mem_cons_self) (by rw [← z]; exact x)
          have hset : setF (.ref n) [dk, dy] h = .val .non (h.set n (.dic (putD kvs x dy))) := by
            simp only [setF, pySet, hn, keyU_ok rk hx, hlk, if_pos hl]
          have ry2 := ry.mono (h' := h.set n (.dic (putD kvs x dy))) (fun _ x => x) hF fun m hm => set_get (hne m (List.mem_append_right _ hm))
          cases hv : valU ks x with
          | some v =>
            obtain ⟨dv, A, T, B, q1, q2, q3, q4⟩ := rs.key c.1 c.2 hv
            have hh : hasD kvs x = true := by
              unfold hasD
              rw [q1]
              rfl
            have hS : ∀ m, m ∈ A ∨ m ∈ B → m ∈ S := fun m hm => by
              rw [q2]
              rcases hm with hm | hm
              · exact List.mem_append_left _ (List.mem_append_left _ hm)
              · exact List.mem_append_right _ hm
            have eU : putU ks x y = setU ks x y := by
              unfold putU
              rw [hv]
              rfl
            have eD : putD kvs x dy = setD kvs x dy := by
              unfold putD
              rw [if_pos hh]
            rw [eU]
            rw [eD] at hset ry2
            rw [eD] at hF
            refine ⟨n, h.set n (.dic (setD kvs x dy)), .non, n :: (A ++ Sa ++ B), hset, List.length_set, fun m hm => set_get hm, List.mem_cons_self, RV.dic (set_same hn) ⟨by rw [setU_keys, setD_keys]; exact c.1, by rw [setD_keys]; exact c.2⟩ ?_, ?_, fun m hm => ?_, .non⟩
            · exact q4 _ F y dy Sa (fun _ x => x) hF (fun m hm => set_get (hne m (List.mem_append_left _ (hS m hm)))) ry2
            · have nS := (List.nodup_append.mp nd.2).1
              rw [q2] at nS
              have nS1 := List.nodup_append.mp nS
              have nS2 := List.nodup_append.mp nS1.1
              have dis := (List.nodup_append.mp nd.2).2.2
              rw [List.nodup_cons, List.nodup_append, List.nodup_append]
              refine ⟨fun hm => ?_, ⟨nS2.1, (List.nodup_append.mp nd.2).2.1, fun a ha b hb z => ?_⟩, nS1.2.1, fun a ha b hb z => ?_⟩
              · refine nd.1 ?_
                rcases List.mem_append.mp hm with hm | hm
                · rcases List.mem_append.mp hm with hm | hm
                  · exact List.mem_append_left _ (hS n (.inl hm))
                  · exact List.mem_append_right _ hm
                · exact List.mem_append_left _ (hS n (.inr hm))
              · subst z
                exact dis a (hS a (.inl ha)) a hb rfl
              · subst z
                rcases List.mem_append.mp ha with ha | ha
                · exact nS1.2.2 a (List.mem_append_left _ ha) a hb rfl
                · exact dis a (hS a (.inr hb)) a ha rfl
            · rcases List.mem_cons.mp hm with rfl | hm
              · exact .inl List.mem_cons_self
              · rcases List.mem_append.mp hm with hm | hm
                · rcases List.mem_append.mp hm with hm | hm
                  · exact .inl (List.mem_cons_of_mem _ (hS m (.inl hm)))
                  · exact .inr hm
                · exact .inl (List.mem_cons_of_mem _ (hS m (.inr hm)))
          | none =>
            have hv2 : hasD kvs x = false := by
              have := valU_ok (h := h) (G := fun n => F n ∨ n ∈ S) x c.1 (rs.frz (fun _ z => .inl z) fun _ z => .inr z)
              rw [hv] at this
              unfold hasD
              rw [this]
              rfl
            have eU : putU ks x y = ks ++ [(x, y)] := by
              unfold putU
              rw [hv]
              rfl
            have eD : putD kvs x dy = kvs ++ [(x, dy)] := by
              unfold putD
              rw [hv2]
              rfl
            rw [eU]
            rw [eD] at hset ry2
            rw [eD] at hF
            refine ⟨n, h.set n (.dic (kvs ++ [(x, dy)])), .non, n :: (S ++ (Sa ++ [])), hset, List.length_set, fun m hm => set_get hm, List.mem_cons_self, RV.dic (set_same hn) ⟨by simp [c.1], ?_⟩ ?_, ?_, fun m hm => ?_, .non⟩
            · rw [List.map_append, List.nodup_append]
              refine ⟨c.2, by simp, fun a ha b hb z => ?_⟩
              simp at hb
              subst z hb
              rw [mem_val kvs a ha] at hv2
              cases hv2
            · rw [List.map_append, List.map_append]
              exact (RVs.mono (fun _ x => x) hF rs fun m hm => set_get (hne m (List.mem_append_left _ hm))).append (RVs.cons ry2 .nil)
            · rw [List.append_nil]
              exact List.nodup_cons.mpr ⟨nd.1, nd.2⟩
            · rw [List.append_nil] at hm
              rcases List.mem_cons.mp hm with rfl | hm
              · exact .inl List.mem_cons_self
              · exact (List.mem_append.mp hm).imp (List.mem_cons_of_mem _) id
      · cases e
    · cases e
  · cases e
end VV
set_option Elab.async false
set_option linter.all false
set_option maxRecDepth 100000
namespace VV
open PySem L2 DD
/-! ### an item is set -/
def vSetI (i : Nat) (ks : VA) (k : VE) (v : VE) : VS := fun e => (v e).bindS fun y e1 => match ks e1 with
  | .val kv e2 => (match k e2 with
    | .val x e3 => (match slot e3 i with
      | some u => match getP u kv with
        | some w => if flat x = true then (match uPut w [x, y] with
          | some (w', _) => .nx (e3.set i (some (setP u kv w')))
          | none => .stk) else .stk
        | none => .stk
      | none => .stk)
    | _ => .stk)
  | _ => .stk
section
variable {ps : List Nat} {rm : Md} {dl dp : Nat → Nat} {io : List Nat} {i n j : Nat} {o mk mv : ME} {ks : VA} {vk vv : VE}
theorem ss_setI (pd : Pd ps dp) (hi : i ∉ io) (hd : dp i = n + (j + 1)) (ho : OP dp io i n o ks) (hk : SE dp io .fz mk vk) (hv : SE dp io (.fr j) mv vv) : SS ps rm dl dp dp (sAsg mv (gSubM o mk)) (vSetI i ks vk vv) := fun b0 F S h ve env gd lw hb =>
  PoE.bindS0 pd lw hb (hv F S h ve env gd) fun y dy F1 S1 h1 ve1 Sr e1 t1 r1 s1 => by
    have p1 := ho F1 S1 h1 ve1 env e1.gd
    revert p1
    cases ks ve1 with
    | exc x e => exact fun _ => trivial
    | stk => exact fun _ => trivial
    | val kv ve2 =>
      rintro ⟨d, h2, F2, S2, Tr, z, e2, t2, _, di, kd, ei, rk, hl, hp⟩
      dsimp only
      have p2 := hk F2 S2 h2 ve2 env e2.gd
      revert p2
      cases vk ve2 with
      | exc x e => exact fun _ => trivial
      | stk => exact fun _ => trivial
      | val x ve3 =>
        rintro ⟨dx, h3, F3, S3, Vr, z3, e3, t3, rx, _⟩
        dsimp only
        cases zs : slot ve3 i with
        | none => trivial
        | some u =>
          dsimp only
          cases hg : getP u kv with
          | none => trivial
          | some w =>
            dsimp only
            split
            · rename_i hfx
              cases zp : uPut w [x, y] with
              | none => trivial
              | some wr =>
                obtain ⟨w', r⟩ := wr
                dsimp only
                have e13 := e1.trans (e2.trans e3)
                have ry : RV h3 F3 j Sr y dy := RM.keep (md := .fr j) e1.gd (e2.trans e3) t1 r1
                have tr := t1.keep (e2.trans e3)
                have hF : ∀ m, F2 m → h3[m]? = h2[m]? := fun m x => e3.fr m (e2.gd.fb m x) fun k _ q => e2.gd.nf k m q x
                have hp3 : getPD h3 di kd = some d := by
                  have hu : ve2[i]? = some (some u) := by
                    have := (e3.st i hi).2
                    rw [slot_some zs] at this
                    exact this.symm
                  obtain ⟨d2, e5, ru⟩ := e2.gd.get i u hu
                  rw [ei] at e5
                  cases e5
                  have hk2 : dp i = kv.length + (j + 1) := by rw [hl]; exact hd
                  rw [hk2] at ru
                  obtain ⟨e, A, Tw, B, w1, w2, _, _⟩ := way rk ru hg
                  have w5 := w1 h2 fun _ _ => rfl
                  rw [hp] at w5
                  cases w5
                  have hA : ∀ m ∈ A, m ∈ S2 i := fun m hm => by
                    rw [w2]
                    exact List.mem_append_left _ (List.mem_append_left _ hm)
                  exact w1 h3 fun m hm => e3.fr m (e2.gd.bd i m (hA m hm)) fun k hk2 q => hi (by rw [e2.gd.dj i k m (hA m hm) q]; exact hk2)
                have ra : RVs h3 F3 j Sr [x, y] [dx, dy] := by
                  have := RVs.cons (rx.rv j hfx) (RVs.cons ry .nil)
                  simpa using this
                obtain ⟨h4, r', S4, y1, y2, y3⟩ := mut_go (mo_put j) hd e13 ei (rk.mono e3.ff hF) hl hp3 zs hg ra tr zp
                have hset : toOut (gSubM o mk dy env h1) = .nx env h4 := by
                  simp only [gSubM, z, z3]
                  simp only [setF] at y1
                  cases q : pySet d dx dy h3 with
                  | none =>
                    rw [q] at y1
                    cases y1
                  | some h5 =>
                    rw [q] at y1
                    cases y1
                    rfl
                rw [hset]
                exact ⟨env, h4, F3, S4, rfl, y2.sp lw hb⟩
            · trivial
end
/-! ### comprehensions -/
def wipeU (e : UE) : List Nat → UE
  | [] => e
  | v :: vs => (wipeU e vs).set v none
def backU (e0 : UE) : List Nat → UE → UE
  | [], e => e
  | v :: vs, e => (backU e0 vs e).set v (e0.getD v none)
def lcVT (t : VTg) (c : VT) (x : VE) (own : List Nat) (u : U) (acc : List U) (e : UE) : ER (List U) := match t u e with
  | none => .stk
  | some e1 => match c e1 with
    | .val true e2 => (match x e2 with
      | .val y e3 => if acc.length < sizeLine then .val (acc ++ [y]) (wipeU e3 own) else .stk
      | _ => .stk)
    | .val false e2 => .val acc (wipeU e2 own)
    | _ => .stk
def lcV (t : VTg) (c : VT) (x : VE) (own : List Nat) : List U → List U → UE → ER (List U)
  | [], acc, e => .val acc e
  | u :: us, acc, e => match lcVT t c x own u acc e with
    | .val acc' e' => lcV t c x own us acc' e'
    | _ => .stk
def vLc (it : VI) (t : VTg) (c : VT) (x : VE) (own : List Nat) : VE := fun e => (it e).bind fun us e1 => match lcV t c x own us [] (wipeU e1 own) with
  | .val ys e2 => .val (.lst ys) (backU e1 own e2)
  | _ => .stk
theorem wipeU_len (e : UE) : ∀ vs, (wipeU e vs).length = e.length
  | [] => rfl
  | v :: vs => by rw [wipeU, List.length_set, wipeU_len e vs]
theorem wipeE_len (e : En) : ∀ vs, (wipeE e vs).length = e.length
  | [] => rfl
  | v :: vs => by rw [wipeE, List.length_set, wipeE_len e vs]
theorem wipeU_get (e : UE) (i : Nat) : ∀ vs : List Nat, (wipeU e vs)[i]? = if i ∈ vs then (if i < e.length then some none else none) else e[i]?
  | [] => by simp [wipeU]
  | v :: vs => by
    rw [wipeU, List.getElem?_set, wipeU_get e i vs, wipeU_len]
    by_cases h : v = i
    · subst h
      simp
    · rw [if_neg h]
      have : (i ∈ v :: vs) ↔ i ∈ vs := by
        rw [List.mem_cons]
        exact ⟨fun z => z.elim (fun z => absurd z.symm h) id, .inr⟩
      simp only [this]
theorem wipeE_get (e : En) (i : Nat) : ∀ vs : List Nat, (wipeE e vs)[i]? = if i ∈ vs then (if i < e.length then some none else none) else e[i]?
  | [] => by simp [wipeE]
  | v :: vs => by
    rw [wipeE, List.getElem?_set, wipeE_get e i vs, wipeE_len]
    by_cases h : v = i
    · subst h
      simp
    · rw [if_neg h]
      have : (i ∈ v :: vs) ↔ i ∈ vs := by
        rw [List.mem_cons]
        exact ⟨fun z => z.elim (fun z => absurd z.symm h) id, .inr⟩
      simp only [this]
theorem backU_len (e0 : UE) (e : UE) : ∀ vs, (backU e0 vs e).length = e.length
  | [] => rfl
  | v :: vs => by rw [backU, List.length_set, backU_len e0 e vs]
theorem backU_get (e0 e : UE) (i : Nat) : ∀ vs : List Nat, (backU e0 vs e)[i]? = if i ∈ vs then (if i < e.length then some (e0.getD i none) else none) else e[i]?
  | [] => by simp [backU]
  | v :: vs => by
    rw [backU, List.getElem?_set, backU_get e0 e i vs, backU_len]
    by_cases h : v = i
    · subst h
      simp
    · rw [if_neg h]
      have : (i ∈ v :: vs) ↔ i ∈ vs := by
        rw [List.mem_cons]
        exact ⟨fun z => z.elim (fun z => absurd z.symm h) id, .inr⟩
      simp only [this]
section
variable {dp : Nat → Nat} {io own ts : List Nat} {k : Nat} {g : MTg} {t : VTg} {mc : MT} {vc : VT} {mx : ME} {vx : VE} {F F' : Nat → Prop} {S S' : Nat → List Nat} {h h' : IH} {ve ve' : UE} {env env1 : En}
/-- slots are wiped -/
theorem Gd.wipe (gd : Gd dp F S h ve env) (own : List Nat) : Gd dp F (fun i => if i ∈ own then [] else S i) h (wipeU ve own) (wipeE env own) := by
  refine ⟨by rw [wipeU_len, wipeE_len]; exact gd.len, fun i u e => ?_, fun i => ?_, fun i j n hi hj => ?_, fun i n hi => ?_, fun i n hi => ?_, gd.fb⟩
  · rw [wipeU_get] at e
    rw [wipeE_get]
    split at e
    · split at e <;> cases e
    · rename_i z
      rw [if_neg z, if_neg z]
      exact gd.get i u e
  · split
    · exact List.nodup_nil
    · exact gd.nd i
  · split at hi
    · cases hi
    · split at hj
      · cases hj
      · exact gd.dj i j n hi hj
  · split at hi
    · cases hi
    · exact gd.nf i n hi
  · split at hi
    · cases hi
    · exact gd.bd i n hi
theorem lc_turn {u : U} {d : D} {acc : List U} {dacc : List D} {Sacc : List Nat} {lo : Nat} (ht : SG dp ts g t) (hts : ∀ i ∈ ts, i ∈ own) (hio : ∀ i ∈ own, i ∉ io) (hc : SB dp io mc vc) (hx : SE dp io (.fr k) mx vx) (gd : Gd dp F S h ve env) (hS : ∀ i ∈ own, S i = []) (hw : ∀ i ∈ own, ve[i]? = if i < ve.length then some none else none)
    (r : RF h F u d) (ra : RVs h F k Sacc acc dacc) (ta : Tm F S lo h Sacc) (hlo : lo ≤ h.length) : match lcVT t vc vx own u acc ve with
    | .val acc' ve' => ∃ dacc' h' F' S' Sacc', lcT g mc mx env d dacc h = .val dacc' h' ∧ EP dp io F S h ve env F' S' h' ve' ∧ (∀ i ∈ own, S' i = []) ∧ (∀ i ∈ own, ve'[i]? = if i < ve'.length then some none else none) ∧ RVs h' F' k Sacc' acc' dacc' ∧ Tm F' S' lo h' Sacc'
    | _ => True := by
  -- the end of a turn: the own slots are wiped
  have fin : ∀ {F1 : Nat → Prop} {S1 S0 : Nat → List Nat} {h1 : IH} {e0 e1 : UE} {env1 : En}, GP dp ts F S h ve env S0 e0 env1 → EP dp io F S0 h e0 env1 F1 S1 h1 e1 → EP dp io F S h ve env F1 (fun i => if i ∈ own then [] else S1 i) h1 (wipeU e1 own) ∧ (∀ i ∈ own, (wipeU e1 own)[i]? = if i < (wipeU e1 own).length then some none else none) := by
    intro F1 S1 S0 h1 e0 e1 env1 p e
    have l1 : e1.length = ve.length := by
      rw [e.gd.len, ← p.gd.len, p.ln]
    have h0 : ∀ i, i ∉ own → S0 i = S i := fun i hi => (p.st i fun z => hi (hts i z)).1
    have h0' : ∀ i n, n ∈ S0 i → n ∈ S i := fun i n hn => by
      rcases p.so i with z | z
      · rw [← z]
        exact hn
      · rw [z] at hn
        cases hn
    refine ⟨⟨⟨?_, fun i u ei => ?_, fun i => ?_, fun i j n hi hj => ?_, fun i n hi => ?_, fun i n hi => ?_, e.gd.fb⟩, fun i hi => ?_, e.ff, fun n x => (e.fn n x).imp id fun z => z.imp id fun ⟨i, q1, q2⟩ => ⟨i, q1, h0' i n q2⟩, e.hl, fun n hn hs => e.fr n hn fun i hi z => hs i hi (h0' i n z), fun i n hi => ?_⟩, fun i hi => ?_⟩
    · rw [wipeU_len, l1]
      exact gd.len
    · rw [wipeU_get] at ei
      split at ei
      · split at ei <;> cases ei
      · rename_i z
        rw [if_neg z]
        obtain ⟨d, e2, r2⟩ := e.gd.get i u ei
        exact ⟨d, by rw [← (p.st i fun q => z (hts i q)).2.1]; exact e2, r2⟩
    · split
      · exact List.nodup_nil
      · exact e.gd.nd i
    · split at hi
      · cases hi
      · split at hj
        · cases hj
        · exact e.gd.dj i j n hi hj
    · split at hi
      · cases hi
      · exact e.gd.nf i n hi
    · split at hi
      · cases hi
      · exact e.gd.bd i n hi
    · by_cases z : i ∈ own
      · refine ⟨by rw [if_pos z, hS i z], ?_⟩
        rw [wipeU_get, if_pos z, hw i z, l1]
      · obtain ⟨q1, q2⟩ := e.st i hi
        refine ⟨by rw [if_neg z, q1, h0 i z], ?_⟩
        rw [wipeU_get, if_neg z, q2]
        exact (p.st i fun q => z (hts i q)).2.2
    · split at hi
      · cases hi
      · exact (e.sn i n hi).imp (h0' i n) id
    · rw [wipeU_get, if_pos hi, wipeU_len]
  unfold lcVT lcT
  have z := ht F S h ve env u d gd r
  revert z
  cases t u ve with
  | none => exact fun _ => trivial
  | some e1 =>
    rintro ⟨env1, S1, z, p⟩
    rw [z]
    dsimp only
    have ta1 : Tm F S1 lo h Sacc := ⟨ta.nd, ta.lo, ta.bd, ta.nf, fun n hn i x => by
      rcases p.so i with z | z
      · rw [z] at x
        exact ta.ns n hn i x
      · rw [z] at x
        cases x⟩
    have z := hc F S1 h e1 env1 p.gd
    revert z
    cases vc e1 with
    | exc x e => exact fun _ => trivial
    | stk => exact fun _ => trivial
    | val b e2 =>
      rintro ⟨b', h2, F2, S2, Sr, z, p2, t2, rb⟩
      have rb : b = b' := rb
      subst rb
      rw [z]
      have k2 := RVs.mono p2.ff (fun n x => p2.fr n (p.gd.fb n x) fun i _ z => p.gd.nf i n z x) ra fun n hn => p2.fr n (ta1.bd n hn) fun i _ => ta1.ns n hn i
      have ta2 := ta1.keep p2
      cases b with
      | false =>
        obtain ⟨f1, f2⟩ := fin p p2
        exact ⟨dacc, h2, F2, _, Sacc, rfl, f1, fun i hi => if_pos hi, f2, k2, ⟨ta2.nd, ta2.lo, ta2.bd, ta2.nf, fun n hn i x => by
          split at x
          · cases x
          · exact ta2.ns n hn i x⟩⟩
      | true =>
        dsimp only
        have z := hx F2 S2 h2 e2 env1 p2.gd
        revert z
        cases vx e2 with
        | exc x e => exact fun _ => trivial
        | stk => exact fun _ => trivial
        | val y e3 =>
          rintro ⟨dy, h3, F3, S3, Sy, z, p3, t3, ry⟩
          rw [z]
          dsimp only
          by_cases hl : acc.length < sizeLine
          · rw [if_pos hl, if_pos (by rw [← ra.length]; exact hl)]
            have k3 := RVs.mono p3.ff (fun n x => p3.fr n (p2.gd.fb n x) fun i _ z => p2.gd.nf i n z x) k2 fun n hn => p3.fr n (ta2.bd n hn) fun i _ => ta2.ns n hn i
            have ta3 := ta2.keep p3
            have tall : Tm F3 S3 lo h3 (Sacc ++ (Sy ++ [])) := by
              rw [List.append_nil]
              exact ta3.append (t3.low (Nat.le_trans hlo p2.hl)) fun n h1 h2 => absurd (ta2.bd n h1) (Nat.not_lt.mpr (t3.lo n h2))
            obtain ⟨f1, f2⟩ := fin p (p2.trans p3)
            exact ⟨_, h3, F3, _, _, rfl, f1, fun i hi => if_pos hi, f2, k3.append (RVs.cons ry .nil), ⟨tall.nd, tall.lo, tall.bd, tall.nf, fun n hn i x => by
              split at x
              · cases x
              · exact tall.ns n hn i x⟩⟩
          · rw [if_neg hl]
            trivial
theorem lcS_ok (ht : SG dp ts g t) (hts : ∀ i ∈ ts, i ∈ own) (hio : ∀ i ∈ own, i ∉ io) (hc : SB dp io mc vc) (hx : SE dp io (.fr k) mx vx) : ∀ {us : List U} {ds : List D} {F : Nat → Prop} {S : Nat → List Nat} {h : IH} {ve : UE} {acc : List U} {dacc : List D} {Sacc : List Nat} {lo : Nat}, Gd dp F S h ve env → (∀ i ∈ own, S i = []) → (∀ i ∈ own, ve[i]? = if i < ve.length then some none else none) →
    RFs h F us ds → RVs h F k Sacc acc dacc → Tm F S lo h Sacc → lo ≤ h.length → match lcV t vc vx own us acc ve with
    | .val acc' ve' => ∃ dacc' h' F' S' Sacc', lcS g mc mx env ds dacc h = .val dacc' h' ∧ EP dp io F S h ve env F' S' h' ve' ∧ RVs h' F' k Sacc' acc' dacc' ∧ Tm F' S' lo h' Sacc'
    | _ => True
  | _, _, F, S, h, ve, acc, dacc, Sacc, lo, gd, hS, hw, .nil, ra, ta, hlo => ⟨dacc, h, F, S, Sacc, rfl, .refl gd, ra, ta⟩
  | _, _, F, S, h, ve, acc, dacc, Sacc, lo, gd, hS, hw, .cons (u := u) (d := d) a b, ra, ta, hlo => by
    have z := lc_turn ht hts hio hc hx gd hS hw a ra ta hlo
    unfold lcV lcS
    revert z
    cases lcVT t vc vx own u acc ve with
    | exc x e => exact fun _ => trivial
    | stk => exact fun _ => trivial
    | val acc1 ve1 =>
      rintro ⟨dacc1, h1, F1, S1, Sacc1, z, e1, hS1, hw1, ra1, ta1⟩
      rw [z]
      dsimp only
      have hF : ∀ m, F m → h1[m]? = h[m]? := fun m x => e1.fr m (gd.fb m x) fun k _ q => gd.nf k m q x
      have z := lcS_ok ht hts hio hc hx e1.gd hS1 hw1 (b.mono e1.ff hF) ra1 ta1 (Nat.le_trans hlo e1.hl)
      revert z
      split
      · rintro ⟨dacc2, h2, F2, S2, Sacc2, z, e2, ra2, ta2⟩
        exact ⟨dacc2, h2, F2, S2, Sacc2, z, e1.trans e2, ra2, ta2⟩
      · exact fun _ => trivial
theorem lcL_ok {get : IH → Option (List D)} (ht : SG dp ts g t) (hts : ∀ i ∈ ts, i ∈ own) (hio : ∀ i ∈ own, i ∉ io) (hc : SB dp io mc vc) (hx : SE dp io (.fr k) mx vx) : ∀ (n i : Nat) {us : List U} {F : Nat → Prop} {S : Nat → List Nat} {h : IH} {ve : UE} {acc : List U} {dacc : List D} {Sacc : List Nat} {lo : Nat}, Gd dp F S h ve env → (∀ i ∈ own, S i = []) → (∀ i ∈ own, ve[i]? = if i < ve.length then some none else none) →
    (∀ h' : IH, (∀ n, F n → h'[n]? = h[n]?) → ∃ ds, get h' = some ds ∧ RFs h F us ds) → us.length < n + i → i ≤ us.length → RVs h F k Sacc acc dacc → Tm F S lo h Sacc → lo ≤ h.length → match lcV t vc vx own (us.drop i) acc ve with
    | .val acc' ve' => ∃ dacc' h' F' S' Sacc', lcL get g mc mx env n i dacc h = .val dacc' h' ∧ EP dp io F S h ve env F' S' h' ve' ∧ RVs h' F' k Sacc' acc' dacc' ∧ Tm F' S' lo h' Sacc'
    | _ => True
  | 0, i, us, F, S, h, ve, acc, dacc, Sacc, lo, gd, hS, hw, hg, hn, hi, ra, ta, hlo => by omega
  | n + 1, i, us, F, S, h, ve, acc, dacc, Sacc, lo, gd, hS, hw, hg, hn, hi, ra, ta, hlo => by
    obtain ⟨ds, e, r⟩ := hg h fun _ _ => rfl
    unfold lcL
    rw [e]
    dsimp only
    by_cases hlt : i < us.length
    · obtain ⟨d, e1, r1⟩ := r.get (List.getElem?_eq_getElem hlt)
      rw [e1, List.drop_eq_getElem_cons hlt]
      have z := lc_turn ht hts hio hc hx gd hS hw r1 ra ta hlo
      unfold lcV
      dsimp only
      revert z
      cases lcVT t vc vx own us[i] acc ve with
      | exc x e => exact fun _ => trivial
      | stk => exact fun _ => trivial
      | val acc1 ve1 =>
        rintro ⟨dacc1, h1, F1, S1, Sacc1, z, e1, hS1, hw1, ra1, ta1⟩
        rw [z]
        dsimp only
        have hF : ∀ m, F m → h1[m]? = h[m]? := fun m x => e1.fr m (gd.fb m x) fun k _ q => gd.nf k m q x
        have z := lcL_ok ht hts hio hc hx n (i + 1) (us := us) e1.gd hS1 hw1 (fun h2 hk => by
          obtain ⟨ds2, e2, r2⟩ := hg h2 fun n x => (hk n (e1.ff n x)).trans (hF n x)
          exact ⟨ds2, e2, r2.mono e1.ff hF⟩) (by omega) (by omega) ra1 ta1 (Nat.le_trans hlo e1.hl)
        revert z
        split
        · rintro ⟨dacc2, h2, F2, S2, Sacc2, z, e2, ra2, ta2⟩
          exact ⟨dacc2, h2, F2, S2, Sacc2, z, e1.trans e2, ra2, ta2⟩
        · exact fun _ => trivial
    · rw [List.drop_eq_nil_of_le (by omega), List.getElem?_eq_none (by rw [← r.length]; omega)]
      exact ⟨dacc, h, F, S, Sacc, rfl, .refl gd, ra, ta⟩
theorem lcRun_ok {us : List U} {s : Src} (ht : SG dp ts g t) (hts : ∀ i ∈ ts, i ∈ own) (hio : ∀ i ∈ own, i ∉ io) (hc : SB dp io mc vc) (hx : SE dp io (.fr k) mx vx) (gd : Gd dp F S h ve env) (hS : ∀ i ∈ own, S i = []) (hw : ∀ i ∈ own, ve[i]? = if i < ve.length then some none else none) {Sr : List Nat} (r : RI F S' h Sr us s) :
    match lcV t vc vx own us [] ve with
    | .val ys ve' => ∃ dys h' F' S2 Sy, lcRun g mc mx env s h = .val dys h' ∧ EP dp io F S h ve env F' S2 h' ve' ∧ RVs h' F' k Sy ys dys ∧ Tm F' S2 h.length h' Sy
    | _ => True := by
  cases s with
  | st ds => exact lcS_ok ht hts hio hc hx gd hS hw r .nil .nil (Nat.le_refl _)
  | lv get =>
    obtain ⟨ds, e, rr⟩ := r h fun _ _ => rfl
    have := lcL_ok (us := us) (acc := []) (dacc := []) ht hts hio hc hx (ds.length + 1) 0 gd hS hw r (by rw [rr.length]; omega) (Nat.zero_le _) .nil .nil (Nat.le_refl h.length)
    rw [List.drop_zero] at this
    simp only [lcRun, e]
    exact this
theorem se_lc {mi : MI} {vi : VI} (hi : SI dp io mi vi) (ht : SG dp ts g t) (hc : SB dp io mc vc) (hx : SE dp io (.fr k) mx vx) (hts : ∀ i ∈ ts, i ∈ own) (hio : ∀ i ∈ own, i ∉ io) : SE dp io (.fr (k + 1)) (mLc mi g mc mx own) (vLc vi t vc vx own) := fun F S h ve env gd =>
  (hi F S h ve env gd).bind fun us s F1 S1 h1 ve1 Sr e1 t1 r1 => by
    have z := lcRun_ok (S' := S1) ht hts hio hc hx (e1.gd.wipe own) (fun i hi => if_pos hi) (fun i hi => by rw [wipeU_get, if_pos hi, wipeU_len]) r1
    revert z
    cases lcV t vc vx own us [] (wipeU ve1 own) with
    | exc x e => exact fun _ => trivial
    | stk => exact fun _ => trivial
    | val ys ve2 =>
      rintro ⟨dys, h2, F2, S2, Sy, z, e2, ry, ty⟩
      rw [z]
      simp only [Res.bind]
      have hlen : ve2.length = ve1.length := by
        rw [e2.gd.len, wipeE_len, e1.gd.len]
      have hsn : ∀ i n, n ∈ S2 i → i ∉ own → n ∈ S1 i ∨ h1.length ≤ n := fun i n hn ho => by
        rcases e2.sn i n hn with q | q
        · rw [if_neg ho] at q
          exact .inl q
        · exact .inr q
      have hout : ∀ i j n, i ∈ own → n ∈ S1 i → j ∉ own → n ∉ S2 j := fun i j n hi hn hj hm => by
        rcases hsn j n hm hj with q | q
        · exact hj (by rw [← e1.gd.dj i j n hn q]; exact hi)
        · have := e1.gd.bd i n hn
          omega
      have hown : ∀ i n, i ∈ own → n ∈ S1 i → h2[n]? = h1[n]? := fun i n hi hn => e2.fr n (e1.gd.bd i n hn) fun j hj q => by
        split at q
        · cases q
        · rename_i z
          exact z (by rw [← e1.gd.dj i j n hn q]; exact hi)
      have hF1 : ∀ n, F1 n → h2[n]? = h1[n]? := fun n x => e2.fr n (e1.gd.fb n x) fun j hj q => by
        split at q
        · cases q
        · exact e1.gd.nf j n q x
      have e3 : EP dp io F1 S1 h1 ve1 env F2 (fun i => if i ∈ own then S1 i else S2 i) h2 (backU ve1 own ve2) := by
        refine ⟨⟨?_, fun i u ei => ?_, fun i => ?_, fun i j n hi hj => ?_, fun i n hi => ?_, fun i n hi => ?_, e2.gd.fb⟩, fun i hi => ?_, e2.ff, fun n x => (e2.fn n x).imp id fun z => z.imp id fun ⟨i, q1, q2⟩ => ⟨i, q1, by split at q2 <;> first | exact q2 | cases q2⟩, e2.hl, fun n hn hs => e2.fr n hn fun i hi q => ?_, fun i n hi => ?_⟩
        · rw [backU_len, hlen]
          exact e1.gd.len
        · rw [backU_get] at ei
          by_cases ho : i ∈ own
          · rw [if_pos ho] at ei ⊢
            split at ei
            · injection ei with ei
              have ei2 : ve1[i]? = some (some u) := by
                rw [List.getD_eq_getElem?_getD] at ei
                cases q : ve1[i]? with
                | none =>
                  rw [q] at ei
                  cases ei
                | some o =>
                  rw [q] at ei
                  rw [show o = some u from ei]
              obtain ⟨d, q1, q2⟩ := e1.gd.get i u ei2
              exact ⟨d, q1, q2.mono e2.ff hF1 fun n hn => hown i n ho hn⟩
            · cases ei
          · rw [if_neg ho] at ei ⊢
            obtain ⟨d, q1, q2⟩ := e2.gd.get i u ei
            rw [wipeE_get, if_neg ho] at q1
            exact ⟨d, q1, q2⟩
        · split
          · exact e1.gd.nd i
          · exact e2.gd.nd i
        · split at hi <;> split at hj
          · exact e1.gd.dj i j n hi hj
          · rename_i a b
            exact absurd hj (hout i j n a hi b)
          · rename_i a b
            exact absurd hi (hout j i n b hj a)
          · exact e2.gd.dj i j n hi hj
        · split at hi
          · intro x
            rcases e2.fn n x with q | q | ⟨j, hj, q⟩
            · exact e1.gd.nf i n hi q
            · have := e1.gd.bd i n hi
              omega
            · split at q
              · cases q
              · rename_i a b
                exact b (by rw [← e1.gd.dj i j n hi q]; exact a)
          · exact e2.gd.nf i n hi
        · split at hi
          · exact Nat.lt_of_lt_of_le (e1.gd.bd i n hi) e2.hl
          · exact e2.gd.bd i n hi
        · by_cases ho : i ∈ own
          · refine ⟨if_pos ho, ?_⟩
            rw [backU_get, if_pos ho, hlen]
            by_cases hl : i < ve1.length
            · rw [if_pos hl, List.getD_eq_getElem?_getD, List.getElem?_eq_getElem hl]
              rfl
            · rw [if_neg hl, List.getElem?_eq_none (by omega)]
          · obtain ⟨q1, q2⟩ := e2.st i hi
            refine ⟨by rw [if_neg ho, q1, if_neg ho], ?_⟩
            rw [backU_get, if_neg ho, q2, wipeU_get, if_neg ho]
        · split at q
          · cases q
          · exact hs i hi q
        · split at hi
          · exact .inl hi
          · rename_i ho
            exact hsn i n hi ho
      have ty2 : Tm F2 (fun i => if i ∈ own then S1 i else S2 i) h1.length h2 Sy := ⟨ty.nd, ty.lo, ty.bd, ty.nf, fun n hn i q => by
        split at q
        · have := e1.gd.bd i n q
          have := ty.lo n hn
          omega
        · exact ty.ns n hn i q⟩
      have e4 := EP.grow (io := io) e3.gd [.lst dys] (fun _ x => x) (fun _ x => .inl x)
      refine ⟨_, _, F2, _, h2.length :: Sy, rfl, e3.trans e4, ?_, RV.ref (last_new h2 _) (RVs.mono (fun _ x => x) (fun n x => List.getElem?_append_left (e3.gd.fb n x)) ry fun n hn => List.getElem?_append_left (ty.bd n hn))⟩
      refine ⟨List.nodup_cons.mpr ⟨fun hm => absurd (ty.bd _ hm) (Nat.lt_irrefl _), ty.nd⟩, fun n hn => ?_, fun n hn => ?_, fun n hn x => ?_, fun n hn i x => ?_⟩
      · rcases List.mem_cons.mp hn with rfl | hn
        · exact Nat.le_trans e1.hl e3.hl
        · exact Nat.le_trans e1.hl (ty.lo n hn)
      · rw [List.length_append, List.length_singleton]
        rcases List.mem_cons.mp hn with rfl | hn
        · omega
        · have := ty.bd n hn
          omega
      · rcases List.mem_cons.mp hn with rfl | hn
        · exact absurd (e3.gd.fb _ x) (Nat.lt_irrefl _)
        · exact ty.nf n hn x
      · rcases List.mem_cons.mp hn with rfl | hn
        · exact absurd (e3.gd.bd _ _ x) (Nat.lt_irrefl _)
        · exact ty2.ns n hn i x
end
end VV
set_option Elab.async false
set_option linter.all false
set_option maxRecDepth 100000
namespace VV
open PySem L2 DD
/-! ### functions -/
inductive FR where
  | val (u : U) (outs : UE) | exc (x : XU) (outs : UE) | stk
abbrev VF := List U → FR
def vBody (n p : Nat) (b : VS) : VF := fun us => match b (us.map some ++ List.replicate (n - us.length) none) with
  | .nx e => .val .non (e.take p)
  | .rt u e => .val u (e.take p)
  | .exc x e => .exc x (e.take p)
  | _ => .stk
structure FP (ps : List Nat) (F : Nat → Prop) (S : Nat → List Nat) (h : IH) (ds : List D) (F' : Nat → Prop) (S' : Nat → List Nat) (h' : IH) (outs : UE) : Prop where
  gd : Gd (dpOf ps) F' S' h' outs ((ds.take ps.length).map some)
  ff : ∀ n, F n → F' n
  fn : ∀ n, F' n → F n ∨ h.length ≤ n ∨ ∃ i, n ∈ S i
  hl : h.length ≤ h'.length
  fr : ∀ n, n < h.length → (∀ i, n ∉ S i) → h'[n]? = h[n]?
  sn : ∀ i n, n ∈ S' i → h.length ≤ n ∨ n ∈ S i
def SF (ps : List Nat) (rm : Md) (m : List D → IH → Res D) (v : VF) : Prop := ∀ F S h us ds, Gd (dpOf ps) F S h (us.map some) (ds.map some) → ps.length ≤ us.length → (∀ i, ps.length ≤ i → S i = []) → match v us with
  | .val u outs => ∃ d h' F' S' Sr, m ds h = .val d h' ∧ FP ps F S h ds F' S' h' outs ∧ Tm F' S' h.length h' Sr ∧ RM [] F' S' h' Sr u d rm
  | .exc x outs => ∃ y h' F' S', m ds h = .exc y h' ∧ FP ps F S h ds F' S' h' outs ∧ RX h' F' x y
  | .stk => True
section
variable {ps : List Nat} {rm : Md} {dl dp' : Nat → Nat} {m : MS} {v : VS}
theorem SP.fp {F F' : Nat → Prop} {S S' : Nat → List Nat} {h h' : IH} {us : List U} {ds : List D} {n : Nat} {ve' : UE} {env' : En} (s : SP ps h.length (dpOf ps) F S h (enOf n ds) F' S' h' ve' env') (hl : ps.length ≤ ds.length) (hS : ∀ i, ps.length ≤ i → S i = []) : FP ps F S h ds F' (fun i => if i < ps.length then S' i else []) h' (ve'.take ps.length) := by
  have he : ∀ i, i < ps.length → env'[i]? = (ds.map some)[i]? := fun i hi => by
    rw [s.ro i hi]
    unfold enOf
    rw [List.getElem?_append_left (by rw [List.length_map]; omega)]
  have hlen : ve'.length = env'.length := s.gd.len
  have hge : ps.length ≤ env'.length := by
    by_cases hp : ps.length = 0
    · omega
    · have := he (ps.length - 1) (by omega)
      have h2 : (ds.map some)[ps.length - 1]? ≠ none := by
        rw [Ne, List.getElem?_eq_none_iff, List.length_map]
        omega
      rw [← this] at h2
      have : ps.length - 1 < env'.length := by
        rcases Nat.lt_or_ge (ps.length - 1) env'.length with z | z
        · exact z
        · exact absurd (List.getElem?_eq_none z) h2
      omega
  refine ⟨⟨?_, fun i u e => ?_, fun i => ?_, fun i j n hi hj => ?_, fun i n hi => ?_, fun i n hi => ?_, s.gd.fb⟩, s.ff, s.fn, s.hl, s.fr, fun i n hi => ?_⟩
  · rw [List.length_take, List.length_map, List.length_take]
    omega
  · rw [List.getElem?_take] at e
    split at e
    · rename_i hi
      obtain ⟨d, e1, r⟩ := s.gd.get i u e
      rw [if_pos hi]
      refine ⟨d, ?_, r⟩
      rw [he i hi] at e1
      rw [List.map_take, List.getElem?_take, if_pos hi]
      exact e1
    · cases e
  · split
    · exact s.gd.nd i
    · exact List.nodup_nil
  · split at hi
    · split at hj
      · exact s.gd.dj i j n hi hj
      · cases hj
    · cases hi
  · split at hi
    · exact s.gd.nf i n hi
    · cases hi
  · split at hi
    · exact s.gd.bd i n hi
    · cases hi
  · split at hi
    · rcases s.sn i n hi with q | ⟨_, q⟩ | ⟨j, q1, q2⟩
      · exact .inl q
      · exact .inr q
      · rw [hS j q1] at q2
        cases q2
    · cases hi
theorem RM.free {io io' : List Nat} {F : Nat → Prop} {S S' : Nat → List Nat} {h : IH} {Sr : List Nat} {u : U} {d : D} (hm : rm ≠ .bor) (r : RM io F S h Sr u d rm) : RM io' F S' h Sr u d rm := by
  cases rm with
  | fl => exact r
  | fz => exact r
  | bor => exact absurd rfl hm
  | fr k => exact r
/-- THE RULE for a def -/
theorem sf_of (n : Nat) (hb : SS ps rm dl (dpOf ps) dp' m v) (pd : Pd ps dp') (hm : rm ≠ .bor) : SF ps rm (mBody n m) (vBody n ps.length v) := fun F S h us ds g hl hS => by
  have lend : us.length = ds.length := by
    have := g.len
    rwa [List.length_map, List.length_map] at this
  have g0 : Gd (dpOf ps) F S h (us.map some ++ List.replicate (n - us.length) none) (enOf n ds) := by
    refine ⟨?_, fun i u e => ?_, g.nd, g.dj, g.nf, g.bd, g.fb⟩
    · unfold enOf
      rw [List.length_append, List.length_append, List.length_map, List.length_map, List.length_replicate, List.length_replicate, lend]
    · by_cases hi : i < us.length
      · rw [List.getElem?_append_left (by rw [List.length_map]; exact hi)] at e
        obtain ⟨d, e1, r⟩ := g.get i u e
        refine ⟨d, ?_, r⟩
        unfold enOf
        rw [List.getElem?_append_left (by rw [List.length_map, ← lend]; exact hi)]
        exact e1
      · rw [List.getElem?_append_right (by rw [List.length_map]; omega), List.getElem?_replicate] at e
        split at e <;> cases e
  have z := hb h.length F S h _ _ g0 (fun i hi n hn => by
    rw [hS i hi] at hn
    cases hn) (Nat.le_refl _)
  unfold vBody mBody
  have tm : ∀ {F' : Nat → Prop} {S' : Nat → List Nat} {h' : IH} {Sr : List Nat}, Tm F' S' h.length h' Sr → Tm F' (fun i => if i < ps.length then S' i else []) h.length h' Sr := fun t => ⟨t.nd, t.lo, t.bd, t.nf, fun n hn i x => by
    split at x
    · exact t.ns n hn i x
    · cases x⟩
  revert z
  cases v (us.map some ++ List.replicate (n - us.length) none) with
  | nx e =>
    rintro ⟨e1, h1, F1, S1, z, s⟩
    rw [z]
    have s2 := s.weak pd
    refine ⟨.non, h1, _, _, [], rfl, s2.fp (us := us) (by omega) hS, .nil, ?_⟩
    cases rm with
    | fl => exact ⟨.non, rfl, rfl⟩
    | fz => exact ⟨.non, rfl⟩
    | bor => exact absurd rfl hm
    | fr k => exact RF.rv k .non rfl
  | rt u e =>
    rintro ⟨d, e1, h1, F1, S1, Sr, z, s, t, r⟩
    rw [z]
    exact ⟨d, h1, F1, _, Sr, rfl, s.fp (us := us) (by omega) hS, tm t, r.free hm⟩
  | exc x e =>
    rintro ⟨y, e1, h1, F1, S1, z, s, r⟩
    rw [z]
    exact ⟨y, h1, F1, _, rfl, s.fp (us := us) (by omega) hS, r⟩
  | bk e => exact fun _ => trivial
  | ct e => exact fun _ => trivial
  | stk => exact fun _ => trivial
end
/-! ### calls -/
def vCall0 (f : VF) (r : VA) : VE := fun e => (r e).bind fun us e1 => match f us with
  | .val u _ => .val u e1
  | .exc x _ => .exc x e1
  | .stk => .stk
def putO : List Nat → UE → UE → UE
  | j :: js, o :: outs, e => putO js outs (e.set j o)
  | _, _, e => e
def vCallN (f : VF) (js : List Nat) (r : VA) : VE := fun e => match mapO (slot e) js with
  | none => .stk
  | some _ => (r e).bind fun us e1 => match mapO (slot e1) js with
    | some ws => (match f (ws ++ us) with
      | .val u outs => .val u (putO js outs e1)
      | .exc x outs => .exc x (putO js outs e1)
      | .stk => .stk)
    | none => .stk
section
variable {dp : Nat → Nat} {io : List Nat} {rm : Md} {m : List D → IH → Res D} {f : VF} {mr : MA} {vr : VA}
theorem gd_args {F : Nat → Prop} {h : IH} {us : List U} {ds : List D} (r : RFs h F us ds) (fb : ∀ n, F n → n < h.length) : Gd (dpOf []) F (fun _ => []) h (us.map some) (ds.map some) := by
  refine ⟨by rw [List.length_map, List.length_map, r.length], fun i u e => ?_, fun _ => List.nodup_nil, (fun i j n hi => nomatch hi), (fun i n hi => nomatch hi), (fun i n hi => nomatch hi), fb⟩
  rw [List.getElem?_map] at e
  cases z : us[i]? with
  | none =>
    rw [z] at e
    cases e
  | some w =>
    rw [z] at e
    cases e
    obtain ⟨d, e1, r1⟩ := r.get z
    exact ⟨d, by rw [List.getElem?_map, e1]; rfl, .fz r1⟩
theorem se_call0 (hf : SF [] rm m f) (hm : rm ≠ .bor) (hr : SA dp io .fz mr vr) : SE dp io rm (mCall m mr) (vCall0 f vr) := fun F S h ve env gd =>
  (hr F S h ve env gd).bind fun us ds F1 S1 h1 ve1 Sr0 e1 t1 r1 => by
    have z := hf F1 (fun _ => []) h1 us ds (gd_args r1.1 e1.gd.fb) (Nat.zero_le _) fun _ _ => rfl
    have ep : ∀ {F' : Nat → Prop} {S' : Nat → List Nat} {h' : IH} {outs : UE}, FP [] F1 (fun _ => []) h1 ds F' S' h' outs → EP dp io F1 S1 h1 ve1 env F' S1 h' ve1 := by
      intro F' S' h' outs p
      have hk : ∀ n, n < h1.length → h'[n]? = h1[n]? := fun n hn => p.fr n hn fun i hi => by cases hi
      have hn : ∀ n, F' n → F1 n ∨ h1.length ≤ n := fun n x => by
        rcases p.fn n x with q | q | ⟨i, q⟩
        · exact .inl q
        · exact .inr q
        · cases q
      have hn2 : ∀ n, F' n → F1 n ∨ h1.length ≤ n ∨ ∃ i, i ∈ io ∧ n ∈ S1 i := fun n x => (hn n x).imp id .inl
      refine ⟨⟨e1.gd.len, fun i u e => ?_, e1.gd.nd, e1.gd.dj, fun i n hi x => ?_, fun i n hi => Nat.lt_of_lt_of_le (e1.gd.bd i n hi) p.hl, p.gd.fb⟩, fun _ _ => ⟨rfl, rfl⟩, p.ff, hn2, p.hl, fun n hn _ => hk n hn, fun _ _ x => .inl x⟩
      · obtain ⟨d, q1, q2⟩ := e1.gd.get i u e
        exact ⟨d, q1, q2.mono p.ff (fun n x => hk n (e1.gd.fb n x)) fun n hn => hk n (e1.gd.bd i n hn)⟩
      · rcases hn n x with q | q
        · exact e1.gd.nf i n hi q
        · have := e1.gd.bd i n hi
          omega
    revert z
    cases f us with
    | val u outs =>
      rintro ⟨d, h2, F2, S2, Sr, z, p, t, r⟩
      refine ⟨d, h2, F2, S1, Sr, z, ep p, ⟨t.nd, fun n hn => Nat.le_trans e1.hl (t.lo n hn), t.bd, t.nf, fun n hn i x => ?_⟩, r.free hm⟩
      have := e1.gd.bd i n x
      have := t.lo n hn
      omega
    | exc x outs =>
      rintro ⟨y, h2, F2, S2, z, p, r⟩
      exact ⟨y, h2, F2, S1, z, ep p, r⟩
    | stk => exact fun _ => trivial
def mIO : List Nat → MA → MA
  | [], r => r
  | j :: js, r => mCons (mVar j) (mIO js r)
theorem mapO_get {α β : Type} {f : α → Option β} : ∀ {xs : List α} {ys : List β} {i : Nat} {y : β}, mapO f xs = some ys → ys[i]? = some y → ∃ x, xs[i]? = some x ∧ f x = some y
  | [], _, i, y, e, q => by
    cases e
    simp at q
  | x :: xs, _, i, y, e, q => by
    obtain ⟨a, b, e1, e2, rfl⟩ := mapO_cons e
    cases i with
    | zero =>
      simp at q
      subst q
      exact ⟨x, rfl, e1⟩
    | succ i =>
      obtain ⟨x2, q1, q2⟩ := mapO_get (i := i) e2 (by simpa using q)
      exact ⟨x2, by simpa using q1, q2⟩
theorem mapO_len {α β : Type} {f : α → Option β} : ∀ {xs : List α} {ys : List β}, mapO f xs = some ys → ys.length = xs.length
  | [], _, e => by
    cases e
    rfl
  | x :: xs, _, e => by
    obtain ⟨a, b, e1, e2, rfl⟩ := mapO_cons e
    rw [List.length_cons, List.length_cons, mapO_len e2]
theorem mIO_val (env : En) (mr : MA) : ∀ {js : List Nat} {dj : List D} {h : IH}, mapO (fun j => match env[j]? with
    | some (some d) => some d
    | _ => none) js = some dj → mIO js mr env h = (mr env h).bind fun ds h1 => .val (dj ++ ds) h1
  | [], _, h, e => by
    cases e
    show mr env h = _
    cases mr env h <;> rfl
  | j :: js, _, h, e => by
    obtain ⟨a, b, e1, e2, rfl⟩ := mapO_cons e
    have ih := mIO_val env mr (h := h) e2
    unfold mIO mCons
    have : mVar j env h = .val a h := by
      unfold mVar
      split at e1
      · rename_i d q
        cases e1
        first | rfl | (rw [q]; done) | simp only [q]
      · cases e1
    simp only [this, Res.bind] at ih ⊢
    rw [ih]
    cases mr env h <;> rfl
theorem putO_len : ∀ (js : List Nat) (outs e : UE), (putO js outs e).length = e.length
  | [], _, _ => by simp [putO]
  | _ :: _, [], _ => rfl
  | j :: js, o :: outs, e => by rw [putO, putO_len js outs, List.length_set]
theorem putO_not : ∀ (js : List Nat) (outs e : UE) (i : Nat), i ∉ js → (putO js outs e)[i]? = e[i]?
  | [], _, _, _, _ => by simp [putO]
  | _ :: _, [], _, _, _ => rfl
  | j :: js, o :: outs, e, i, h => by
    rw [List.mem_cons] at h
    rw [putO, putO_not js outs _ i fun z => h (.inr z), List.getElem?_set_ne fun z => h (.inl z.symm)]
theorem putO_at : ∀ (js : List Nat) (outs e : UE) (k j : Nat) (o : Option U), js.Nodup → js[k]? = some j → outs[k]? = some o → j < e.length → (putO js outs e)[j]? = some o
  | [], _, _, k, j, o, _, h, _, _ => by simp at h
  | _ :: _, [], _, k, j, o, _, _, h, _ => by simp at h
  | i :: js, p :: outs, e, 0, j, o, nd, h1, h2, hl => by
    simp at h1 h2
    subst h1 h2
    rw [putO, putO_not js outs _ i (List.nodup_cons.mp nd).1, List.getElem?_set_self hl]
  | i :: js, p :: outs, e, k + 1, j, o, nd, h1, h2, hl => by
    rw [putO]
    exact putO_at js outs _ k j o (List.nodup_cons.mp nd).2 (by simpa using h1) (by simpa using h2) (by rw [List.length_set]; exact hl)
/-- a call that changes slots js of the caller -/
theorem se_callN (ps js : List Nat) (hf : SF ps rm m f) (hm : rm ≠ .bor) (hnd : js.Nodup) (hlen : js.length = ps.length) (hdp : ∀ k j, js[k]? = some j → dp j = dpOf ps k) (hio : ∀ j ∈ js, j ∈ io) (hr : SA dp io .fz mr vr) : SE dp io rm (mCall m (mIO js mr)) (vCallN f js vr) := fun F S h ve env gd => by
  unfold vCallN mCall
  cases hw0 : mapO (slot ve) js with
  | none => trivial
  | some ws0 =>
    dsimp only
    -- what stands in the slots
    have hdj : ∃ dj, mapO (fun j => match env[j]? with
        | some (some d) => some d
        | _ => none) js = some dj := by
      clear hnd hlen hdp hio
      induction js generalizing ws0 with
      | nil => exact ⟨[], rfl⟩
      | cons j js ih =>
        obtain ⟨a, b, e1, e2, rfl⟩ := mapO_cons hw0
        obtain ⟨dj, q⟩ := ih b e2
        obtain ⟨d, e3, _⟩ := gd.get j a (slot_some e1)
        exact ⟨d :: dj, mapO_cons' (by rw [e3]) q⟩
    obtain ⟨dj, hdj⟩ := hdj
    rw [mIO_val env mr hdj]
    have p0 := hr F S h ve env gd
    revert p0
    cases vr ve with
    | stk => exact fun _ => trivial
    | exc x e =>
      rintro ⟨y, h1, F1, S1, z, e1, rx⟩
      rw [z]
      exact ⟨y, h1, F1, S1, rfl, e1, rx⟩
    | val us ve1 =>
      rintro ⟨ds, h1, F1, S1, Sr0, z, e1, t1, r1, _⟩
      rw [z]
      simp only [ER.bind, Res.bind]
      cases hw : mapO (slot ve1) js with
      | none => trivial
      | some ws =>
        dsimp only
        have lw := mapO_len hw
        have ldj := mapO_len hdj
        have lus := r1.length
        -- the callee's view
        have g1 : Gd (dpOf ps) F1 (fun k => match js[k]? with
            | some j => S1 j
            | none => []) h1 ((ws ++ us).map some) ((dj ++ ds).map some) := by
          refine ⟨by simp [lw, ldj, lus], fun k u e => ?_, fun k => ?_, fun k l n hk hl => ?_, fun k n hk => ?_, fun k n hk => ?_, e1.gd.fb⟩
          · rw [List.getElem?_map] at e
            by_cases hk : k < js.length
            · rw [List.getElem?_append_left (by omega)] at e
              cases q : ws[k]? with
              | none =>
                rw [q] at e
                cases e
              | some w =>
                rw [q] at e
                cases e
                obtain ⟨j, q1, q2⟩ := mapO_get hw q
                obtain ⟨d, q3, q4⟩ := e1.gd.get j u (slot_some q2)
                have q5 : dj[k]? = some d := by
                  have hkd : k < dj.length := by omega
                  obtain ⟨j2, y1, y2⟩ := mapO_get hdj (List.getElem?_eq_getElem hkd)
                  rw [q1] at y1
                  cases y1
                  rw [q3] at y2
                  rw [List.getElem?_eq_getElem hkd]
                  exact y2.symm
                refine ⟨d, by rw [List.getElem?_map, List.getElem?_append_left (by omega), q5]; rfl, ?_⟩
                rw [q1, ← hdp k j q1]
                exact q4
            · rw [List.getElem?_append_right (by omega)] at e
              cases q : us[k - ws.length]? with
              | none =>
                rw [q] at e
                cases e
              | some w =>
                rw [q] at e
                cases e
                obtain ⟨d, q3, q4⟩ := r1.get q
                refine ⟨d, by rw [List.getElem?_map, List.getElem?_append_right (by omega), ldj, ← lw, q3]; rfl, ?_⟩
                have h0 : dpOf ps k = 0 := by
                  unfold dpOf
                  rw [List.getD_eq_getElem?_getD, List.getElem?_eq_none (by omega)]
                  rfl
                rw [h0, List.getElem?_eq_none (by omega)]
                exact .fz q4
          · cases js[k]? with
            | none => exact List.nodup_nil
            | some j => exact e1.gd.nd j
          · cases qk : js[k]? with
            | none =>
              rw [qk] at hk
              cases hk
            | some a =>
              cases ql : js[l]? with
              | none =>
                rw [ql] at hl
                cases hl
              | some b =>
                rw [qk] at hk
                rw [ql] at hl
                have := e1.gd.dj a b n hk hl
                subst this
                obtain ⟨l1, y1⟩ := List.getElem?_eq_some_iff.mp qk
                obtain ⟨l2, y2⟩ := List.getElem?_eq_some_iff.mp ql
                exact (List.getElem_inj hnd).mp (y1.trans y2.symm)
          · cases qk : js[k]? with
            | none =>
              rw [qk] at hk
              cases hk
            | some a =>
              rw [qk] at hk
              exact e1.gd.nf a n hk
          · cases qk : js[k]? with
            | none =>
              rw [qk] at hk
              cases hk
            | some a =>
              rw [qk] at hk
              exact e1.gd.bd a n hk
        have zf := hf F1 _ h1 (ws ++ us) (dj ++ ds) g1 (by rw [List.length_append]; omega) (fun k hk => by
          rw [List.getElem?_eq_none (by omega)])
        have hSj : ∀ (n k : Nat), n ∈ (match js[k]? with
            | some j => S1 j
            | none => []) → ∃ j ∈ js, n ∈ S1 j := fun n k hn => by
          cases qk : js[k]? with
          | none =>
            rw [qk] at hn
            cases hn
          | some a =>
            rw [qk] at hn
            exact ⟨a, List.mem_of_getElem? qk, hn⟩
        have ep : ∀ {F' : Nat → Prop} {S' : Nat → List Nat} {h' : IH} {outs : UE}, FP ps F1 (fun k => match js[k]? with
            | some j => S1 j
            | none => []) h1 (dj ++ ds) F' S' h' outs → EP dp io F1 S1 h1 ve1 env F' (fun i => if i ∈ js then S' (js.idxOf i) else S1 i) h' (putO js outs ve1) := by
          intro F' S' h' outs p
          have hk : ∀ n, n < h1.length → (∀ j ∈ js, n ∉ S1 j) → h'[n]? = h1[n]? := fun n hn hj => p.fr n hn fun i hi => by
            obtain ⟨j, q1, q2⟩ := hSj n i hi
            exact hj j q1 q2
          have hkF : ∀ n, F1 n → h'[n]? = h1[n]? := fun n x => hk n (e1.gd.fb n x) fun j _ q => e1.gd.nf j n q x
          have hkS : ∀ i n, i ∉ js → n ∈ S1 i → h'[n]? = h1[n]? := fun i n hi hn => hk n (e1.gd.bd i n hn) fun j hj q => hi (by rw [e1.gd.dj i j n hn q]; exact hj)
          have hsn : ∀ i n, n ∈ S' i → h1.length ≤ n ∨ ∃ j ∈ js, n ∈ S1 j := fun i n hn => by
            rcases p.sn i n hn with q | q
            · exact .inl q
            · exact .inr (hSj n i q)
          have hfn : ∀ n, F' n → F1 n ∨ h1.length ≤ n ∨ ∃ j ∈ js, n ∈ S1 j := fun n x => by
            rcases p.fn n x with q | q | ⟨k, q⟩
            · exact .inl q
            · exact .inr (.inl q)
            · exact .inr (.inr (hSj n k q))
          have lo : outs.length = js.length := by
            have := p.gd.len
            rw [this, List.length_map, List.length_take, List.length_append]
            omega
          refine ⟨⟨by rw [putO_len]; exact e1.gd.len, fun i u e => ?_, fun i => ?_, fun i j n hi hj => ?_, fun i n hi x => ?_, fun i n hi => ?_, p.gd.fb⟩, fun i hi => ?_, p.ff, fun n x => ?_, p.hl, fun n hn hs => hk n hn fun j hj => hs j (hio j hj), fun i n hi => ?_⟩
          · by_cases hij : i ∈ js
            · have hx := List.idxOf_lt_length_of_mem hij
              have q1 : js[js.idxOf i]? = some i := by rw [List.getElem?_eq_getElem hx, List.getElem_idxOf]
              have q2 : outs[js.idxOf i]? = some outs[js.idxOf i] := List.getElem?_eq_getElem (by omega)
              have hil : i < ve1.length := by
                have hk : js.idxOf i < ws.length := by omega
                obtain ⟨j2, y1, y2⟩ := mapO_get hw (List.getElem?_eq_getElem hk)
                rw [q1] at y1
                cases y1
                exact (List.getElem?_eq_some_iff.mp (slot_some y2)).1
              rw [putO_at js outs ve1 _ i _ hnd q1 q2 hil] at e
              injection e with e
              rw [if_pos hij]
              obtain ⟨d, y1, y2⟩ := p.gd.get (js.idxOf i) u (by rw [q2, e])
              have hx2 : js.idxOf i < dj.length := by omega
              have y3 : env[i]? = some (some d) := by
                obtain ⟨j2, w1, w2⟩ := mapO_get hdj (List.getElem?_eq_getElem hx2)
                rw [q1] at w1
                cases w1
                rw [List.getElem?_map, List.getElem?_take, if_pos (by omega), List.getElem?_append_left hx2, List.getElem?_eq_getElem hx2] at y1
                injection y1 with y1
                injection y1 with y1
                rw [y1] at w2
                split at w2
                · rename_i d3 q5
                  cases w2
                  exact q5
                · cases w2
              exact ⟨d, y3, by rw [hdp _ _ q1]; exact y2⟩
            · rw [putO_not js outs ve1 i hij] at e
              obtain ⟨d, q1, q2⟩ := e1.gd.get i u e
              rw [if_neg hij]
              exact ⟨d, q1, q2.mono p.ff hkF fun n hn => hkS i n hij hn⟩
          · split
            · exact p.gd.nd _
            · exact e1.gd.nd i
          · split at hi <;> split at hj
            · rename_i a b
              have := p.gd.dj _ _ n hi hj
              have q1 : js[js.idxOf i]? = some i := by rw [List.getElem?_eq_getElem (List.idxOf_lt_length_of_mem a), List.getElem_idxOf]
              have q2 : js[js.idxOf j]? = some j := by rw [List.getElem?_eq_getElem (List.idxOf_lt_length_of_mem b), List.getElem_idxOf]
              rw [this, q2] at q1
              cases q1
              rfl
            · rename_i a b
              rcases hsn _ n hi with q | ⟨k, q1, q2⟩
              · have := e1.gd.bd j n hj
                omega
              · exact absurd q1 (by rw [e1.gd.dj k j n q2 hj]; exact b)
            · rename_i a b
              rcases hsn _ n hj with q | ⟨k, q1, q2⟩
              · have := e1.gd.bd i n hi
                omega
              · exact absurd q1 (by rw [e1.gd.dj k i n q2 hi]; exact a)
            · exact e1.gd.dj i j n hi hj
          · split at hi
            · exact p.gd.nf _ n hi x
            · rename_i a
              rcases hfn n x with q | q | ⟨k, q1, q2⟩
              · exact e1.gd.nf i n hi q
              · have := e1.gd.bd i n hi
                omega
              · exact a (by rw [e1.gd.dj i k n hi q2]; exact q1)
          · split at hi
            · exact p.gd.bd _ n hi
            · exact Nat.lt_of_lt_of_le (e1.gd.bd i n hi) p.hl
          · have hij : i ∉ js := fun z => hi (hio i z)
            exact ⟨if_neg hij, putO_not js outs ve1 i hij⟩
          · rcases hfn n x with q | q | ⟨k, q1, q2⟩
            · exact .inl q
            · exact .inr (.inl q)
            · exact .inr (.inr ⟨k, hio k q1, q2⟩)
          · split at hi
            · rename_i a
              rcases p.sn _ n hi with q | q
              · exact .inr q
              · rw [List.getElem?_eq_getElem (List.idxOf_lt_length_of_mem a), List.getElem_idxOf] at q
                exact .inl q
            · exact .inl hi
        revert zf
        cases f (ws ++ us) with
        | val u outs =>
          rintro ⟨d, h2, F2, S2, Sr, z, p, t, r⟩
          refine ⟨d, h2, F2, _, Sr, z, e1.trans (ep p), ⟨t.nd, fun n hn => Nat.le_trans e1.hl (t.lo n hn), t.bd, t.nf, fun n hn i x => ?_⟩, r.free hm⟩
          split at x
          · exact t.ns n hn _ x
          · have := e1.gd.bd i n x
            have := t.lo n hn
            omega
        | exc x outs =>
          rintro ⟨y, h2, F2, S2, z, p, r⟩
          exact ⟨y, h2, F2, _, z, e1.trans (ep p), r⟩
        | stk => exact fun _ => trivial
end
end VV
set_option Elab.async false
set_option linter.all false
set_option maxRecDepth 100000
namespace VV
open PySem L2 DD
/-! ### dicts written down -/
abbrev VP := UE → ER (List (U × U))
def vpNil : VP := fun e => .val [] e
def vpCons (k v : VE) (r : VP) : VP := fun e => (k e).bind fun x e1 => (v e1).bind fun y e2 => (r e2).bind fun ps e3 => .val ((x, y) :: ps) e3
def keysU : List (U × U) → Option (List (Key × U))
  | [] => some []
  | (k, v) :: r => match keyU k, keysU r with
    | some j, some s => some ((j, v) :: s)
    | _, _ => none
def vDic (r : VP) : VE := fun e => (r e).bind fun ps e1 => match keysU ps with
  | some kvs => if kvs.length ≤ 15 ∧ (kvs.map (·.1)).Nodup then .val (.dic kvs) e1 else .stk
  | none => .stk
def RPp (k : Nat) : (Nat → Prop) → (Nat → List Nat) → IH → List Nat → List (U × U) → List (D × D) → Prop := fun F S h Sr us ds => RFs h F (us.map (·.1)) (ds.map (·.1)) ∧ RVs h F k Sr (us.map (·.2)) (ds.map (·.2))
def SPr (dp : Nat → Nat) (io : List Nat) (k : Nat) (m : MP) (v : VP) : Prop := ∀ F S h ve env, Gd dp F S h ve env → PoE h.length dp io F S h ve env (RPp k) (v ve) (m env h)
section
variable {dp : Nat → Nat} {io : List Nat} {k : Nat} {ma mb : ME} {va vb : VE} {mp : MP} {vp : VP}
theorem sp_nil : SPr dp io k pNil vpNil := fun F S h ve env g => PoE.val (R := RPp k) (Sr := []) g .nil ⟨.nil, .nil⟩
theorem sp_cons (ha : SE dp io .fz ma va) (hb : SE dp io (.fr k) mb vb) (hp : SPr dp io k mp vp) : SPr dp io k (pCons ma mb mp) (vpCons va vb vp) := fun F S h ve env gd =>
  (ha F S h ve env gd).bind fun x a F1 S1 h1 ve1 Sr e1 t1 r1 => (hb F1 S1 h1 ve1 env e1.gd).bind fun y b F2 S2 h2 ve2 Tr e2 t2 r2 => (hp F2 S2 h2 ve2 env e2.gd).bind fun qs rs F3 S3 h3 ve3 Vr e3 t3 r3 => by
    have k1 := RM.keep (md := .fz) e1.gd (e2.trans e3) t1 r1
    have k2 := RM.keep (md := .fr k) e2.gd e3 t2 r2
    exact PoE.val (R := RPp k) (Sr := Tr ++ Vr) e3.gd (((t2.keep e3).low e1.hl).append (t3.low (Nat.le_trans e1.hl e2.hl)) fun n h1 h2 => absurd (t2.bd n h1) (Nat.not_lt.mpr (t3.lo n h2))) ⟨.cons k1.1 r3.1, .cons k2 r3.2⟩
theorem keys_ok {h : IH} {F : Nat → Prop} {Sr : List Nat} : ∀ {us : List (U × U)} {ds : List (D × D)} {ks : List (Key × U)}, RFs h F (us.map (·.1)) (ds.map (·.1)) → keysU us = some ks → us.length = ds.length → ∃ kvs, keysD ds = some kvs ∧ ks.map (·.1) = kvs.map (·.1) ∧ ks.map (·.2) = us.map (·.2) ∧ kvs.map (·.2) = ds.map (·.2)
  | [], [], _, _, e, _ => by
    cases e
    exact ⟨[], rfl, rfl, rfl, rfl⟩
  | [], _ :: _, _, _, _, e => by simp at e
  | _ :: _, [], _, _, _, e => by simp at e
  | (a, b) :: us, (c, d) :: ds, ks, r, e, l => by
    cases r with
    | cons r1 r2 =>
      have e' : (match keyU a, keysU us with
        | some j, some s => some ((j, b) :: s)
        | _, _ => none) = some ks := e
      cases z1 : keyU a with
      | none =>
        rw [z1] at e'
        cases e'
      | some j =>
        cases z2 : keysU us with
        | none =>
          rw [z1, z2] at e'
          cases e'
        | some s =>
          rw [z1, z2] at e'
          cases e'
          obtain ⟨kvs, q1, q2, q3, q4⟩ := keys_ok (Sr := Sr) r2 z2 (by simpa using l)
          refine ⟨(j, d) :: kvs, ?_, by simp [q2], by simp [q3], by simp [q4]⟩
          show (match keyD c, keysD ds with
            | some j, some s => some ((j, d) :: s)
            | _, _ => none) = _
          rw [keyU_ok r1 z1, q1]
theorem putD_new {kvs : List (Key × D)} {k : Key} {v : D} (h : k ∉ kvs.map (·.1)) : putD kvs k v = kvs ++ [(k, v)] := by
  have : hasD kvs k = false := by
    unfold hasD
    have : valD kvs k = none := by
      induction kvs with
      | nil => rfl
      | cons a r ih =>
        obtain ⟨i, d⟩ := a
        rw [List.map_cons, List.mem_cons] at h
        simp only [valD, if_neg fun z => h (.inl (Eq.symm z))]
        exact ih fun z => h (.inr z)
    rw [this]
    rfl
  unfold putD
  rw [this]
  rfl
theorem merge_nodup : ∀ (more kvs : List (Key × D)), ((kvs ++ more).map (·.1)).Nodup → mergeD kvs more = kvs ++ more
  | [], kvs, _ => by simp [mergeD]
  | (k, v) :: more, kvs, nd => by
    have h1 : k ∉ kvs.map (·.1) := fun z => by
      rw [List.map_append, List.nodup_append] at nd
      exact nd.2.2 k z k (by simp) rfl
    show mergeD (putD kvs k v) more = _
    rw [putD_new h1, merge_nodup more (kvs ++ [(k, v)]) (by simpa using nd)]
    simp
theorem se_dic (hp : SPr dp io k mp vp) : SE dp io (.fr (k + 1)) (mDic mp) (vDic vp) := fun F S h ve env gd =>
  (hp F S h ve env gd).bind fun qs rs F1 S1 h1 ve1 Sr e1 t1 r1 => by
    cases z : keysU qs with
    | none => trivial
    | some ks =>
      dsimp only
      split
      · rename_i hc
        have l : qs.length = rs.length := by
          have := r1.2.length
          rwa [List.length_map, List.length_map] at this
        obtain ⟨kvs, q1, q2, q3, q4⟩ := keys_ok (Sr := Sr) r1.1 z l
        have hl : kvs.length ≤ 15 := by
          have := congrArg List.length q2
          rw [List.length_map, List.length_map] at this
          omega
        have nd : (kvs.map (·.1)).Nodup := by
          rw [← q2]
          exact hc.2
        simp only [q1, if_pos hl]
        rw [merge_nodup kvs [] (by simpa using nd), List.nil_append]
        have g2 := EP.grow (io := io) e1.gd [.dic kvs] (fun _ x => x) (fun _ x => .inl x)
        have rv : RVs h1 F1 k Sr (ks.map (·.2)) (kvs.map (·.2)) := by
          rw [q3, q4]
          exact r1.2
        refine ⟨_, _, F1, S1, h1.length :: Sr, rfl, g2, ?_, RV.dic (last_new h1 _) ⟨q2, nd⟩ (RVs.mono (fun _ x => x) (fun n x => List.getElem?_append_left (e1.gd.fb n x)) rv fun n hn => List.getElem?_append_left (t1.bd n hn))⟩
        refine ⟨List.nodup_cons.mpr ⟨fun hm => absurd (t1.bd _ hm) (Nat.lt_irrefl _), t1.nd⟩, fun n hn => ?_, fun n hn => ?_, fun n hn x => ?_, fun n hn i x => ?_⟩
        · rcases List.mem_cons.mp hn with rfl | hn
          · exact e1.hl
          · exact t1.lo n hn
        · rw [List.length_append, List.length_singleton]
          rcases List.mem_cons.mp hn with rfl | hn
          · omega
          · have := t1.bd n hn
            omega
        · rcases List.mem_cons.mp hn with rfl | hn
          · exact absurd (e1.gd.fb _ x) (Nat.lt_irrefl _)
          · exact t1.nf n hn x
        · rcases List.mem_cons.mp hn with rfl | hn
          · exact absurd (e1.gd.bd _ _ x) (Nat.lt_irrefl _)
          · exact t1.ns n hn i x
      · trivial
end
/-! ### slots that change their depth -/
theorem dp_set {l : List Nat} {i k j : Nat} (h : j ≠ i) : dpOf (l.set i k) j = dpOf l j := by
  unfold dpOf
  rw [List.getD_eq_getElem?_getD, List.getD_eq_getElem?_getD, List.getElem?_set_ne fun z => h z.symm]
theorem dp_at {l : List Nat} {i k : Nat} (h : i < l.length) : dpOf (l.set i k) i = k := by
  unfold dpOf
  rw [List.getD_eq_getElem?_getD, List.getElem?_set_self h]
  rfl
section
variable {ps : List Nat} {rm : Md} {dl dp dp' : Nat → Nat} {io : List Nat} {ma : ME} {va : VE} {mr : MA} {vr : VA}
/-- what a slot's depth is, is free where it is unset -/
theorem Gd.unset {F : Nat → Prop} {S : Nat → List Nat} {h : IH} {ve : UE} {env : En} (g : Gd dp F S h ve env) (i : Nat) (hd : ∀ j, j ≠ i → dp' j = dp j) (hn : ∀ u, ve[i]? ≠ some (some u)) : Gd dp' F (fun j => if j = i then [] else S j) h ve env := by
  refine ⟨g.len, fun j u e => ?_, fun j => ?_, fun j k n hj hk => ?_, fun j n hj => ?_, fun j n hj => ?_, g.fb⟩
  · have hj : j ≠ i := fun z => hn u (by rw [← z]; exact e)
    rw [if_neg hj, hd j hj]
    exact g.get j u e
  · split
    · exact List.nodup_nil
    · exact g.nd j
  · split at hj
    · cases hj
    · split at hk
      · cases hk
      · exact g.dj j k n hj hk
  · split at hj
    · cases hj
    · exact g.nf j n hj
  · split at hj
    · cases hj
    · exact g.bd j n hj
theorem Gd.setD {F : Nat → Prop} {S : Nat → List Nat} {h : IH} {ve : UE} {env : En} (g : Gd dp F S h ve env) (i : Nat) (hd : ∀ j, j ≠ i → dp' j = dp j) {u : U} {d : D} {Sr : List Nat} {lo : Nat} (t : Tm F S lo h Sr) (r : RV h F (dp' i) Sr u d) : Gd dp' F (fun j => if j = i then Sr else S j) h (ve.set i (some u)) (env.set i (some d)) := by
  refine ⟨by rw [List.length_set, List.length_set]; exact g.len, fun j v e => ?_, fun j => ?_, fun j k n hj hk => ?_, fun j n hj => ?_, fun j n hj => ?_, g.fb⟩
  · rw [List.getElem?_set] at e ⊢
    by_cases hj : i = j
    · subst hj
      rw [if_pos rfl] at e ⊢
      by_cases hi : i < ve.length
      · rw [if_pos hi] at e
        cases e
        rw [if_pos (by rw [← g.len]; exact hi)]
        refine ⟨d, rfl, ?_⟩
        rw [if_pos rfl]
        exact r
      · rw [if_neg hi] at e
        cases e
    · rw [if_neg hj] at e ⊢
      obtain ⟨d', e1, r1⟩ := g.get j v e
      refine ⟨d', e1, ?_⟩
      rw [if_neg fun z => hj z.symm, hd j fun z => hj z.symm]
      exact r1
  · split
    · exact t.nd
    · exact g.nd j
  · split at hj <;> split at hk
    · rename_i a b
      rw [a, b]
    · exact absurd hk (t.ns n hj k)
    · exact absurd hj (t.ns n hk j)
    · exact g.dj j k n hj hk
  · split at hj
    · exact t.nf n hj
    · exact g.nf j n hj
  · split at hj
    · exact t.bd n hj
    · exact g.bd j n hj
theorem SP.setD {b0 : Nat} {F F' : Nat → Prop} {S S' : Nat → List Nat} {h h' : IH} {ve' : UE} {env env' : En} (s : SP ps b0 dp F S h env F' S' h' ve' env') (i : Nat) (hi : ps.length ≤ i) (hd : ∀ j, j ≠ i → dp' j = dp j) {u : U} {d : D} {Sr : List Nat} (t : Tm F' S' h.length h' Sr) (hb : b0 ≤ h.length) (r : RV h' F' (dp' i) Sr u d) : SP ps b0 dp' F S h env F' (fun j => if j = i then Sr else S' j) h' (ve'.set i (some u)) (env'.set i (some d)) := by
  refine ⟨s.gd.setD i hd t r, fun j hj n hn => ?_, s.ff, s.fn, s.hl, s.fr, fun j n hn => ?_, fun j hj => ?_⟩
  · split at hn
    · exact Nat.le_trans hb (t.lo n hn)
    · exact s.lw j hj n hn
  · split at hn
    · exact .inl (t.lo n hn)
    · exact s.sn j n hn
  · rw [List.getElem?_set_ne (by omega)]
    exact s.ro j hj
theorem ss_asgD {l : List Nat} (i k : Nat) (pd : Pd ps (dpOf l)) (hl : i < l.length) (ha : SE (dpOf l) io (.fr k) ma va) (hi : ps.length ≤ i) : SS ps rm dl (dpOf l) (dpOf (l.set i k)) (sAsg ma (gN i)) (vAsg va i) := fun b0 F S h ve env g lw hb =>
  PoE.bindS0 pd lw hb (ha F S h ve env g) fun a b F1 S1 h1 ve1 Sr e1 t1 r1 s1 => ⟨env.set i (some b), h1, F1, _, rfl, s1.setD i hi (fun j hj => dp_set hj) t1 hb (by rw [dp_at hl]; exact r1)⟩
def setDs : List Nat → List Nat → List Nat → List Nat
  | i :: is, k :: ks, l => setDs is ks (l.set i k)
  | _, _, l => l
theorem SP.setAllD {b0 : Nat} {F F' : Nat → Prop} {S : Nat → List Nat} {h h' : IH} {env : En} (hb : b0 ≤ h.length) : ∀ {is ks : List Nat} {l : List Nat} {us : List U} {ds : List D} {Sr : List Nat} {S' : Nat → List Nat} {ve' : UE} {env' : En}, SP ps b0 (dpOf l) F S h env F' S' h' ve' env' → Tm F' S' h.length h' Sr → RVl h' F' ks Sr us ds → is.length = ks.length → (∀ i ∈ is, ps.length ≤ i ∧ i < l.length) →
    ∃ S2, SP ps b0 (dpOf (setDs is ks l)) F S h env F' S2 h' (VV.setAll is us ve') (VV.setAllD is ds env')
  | [], [], _, _, _, _, S', _, _, s, _, _, _, _ => by
    refine ⟨S', ?_⟩
    unfold VV.setAll VV.setAllD setDs
    exact s
  | [], _ :: _, _, _, _, _, _, _, _, _, _, _, e, _ => by cases e
  | _ :: _, [], _, _, _, _, _, _, _, _, _, _, e, _ => by cases e
  | i :: is, k :: ks, l, us, ds, Sr, S', ve', env', s, t, r, hlen, hi => by
    cases r with
    | cons a b =>
      rename_i A B u d us ds
      have t1 : Tm F' S' h.length h' A := ⟨(List.nodup_append.mp t.nd).1, fun n hn => t.lo n (List.mem_append_left _ hn), fun n hn => t.bd n (List.mem_append_left _ hn), fun n hn => t.nf n (List.mem_append_left _ hn), fun n hn => t.ns n (List.mem_append_left _ hn)⟩
      have hi0 := hi i List.mem_cons_self
      have s1 := s.setD (dp' := dpOf (l.set i k)) i hi0.1 (fun j hj => dp_set hj) t1 hb (by rw [dp_at hi0.2]; exact a)
      have t2 : Tm F' (fun j => if j = i then A else S' j) h.length h' B := ⟨(List.nodup_append.mp t.nd).2.1, fun n hn => t.lo n (List.mem_append_right _ hn), fun n hn => t.bd n (List.mem_append_right _ hn), fun n hn => t.nf n (List.mem_append_right _ hn), fun n hn j x => by
        split at x
        · exact (List.nodup_append.mp t.nd).2.2 n x n hn rfl
        · exact t.ns n (List.mem_append_right _ hn) j x⟩
      show ∃ S2, SP ps b0 (dpOf (setDs is ks (l.set i k))) F S h env F' S2 h' (VV.setAll is us (ve'.set i (some u))) (VV.setAllD is ds (env'.set i (some d)))
      exact SP.setAllD hb s1 t2 b (by simpa using hlen) fun j hj => ⟨(hi j (List.mem_cons_of_mem _ hj)).1, by rw [List.length_set]; exact (hi j (List.mem_cons_of_mem _ hj)).2⟩
theorem ss_parND {f : List D → En → IH → Out} {is ks l : List Nat} (pd : Pd ps (dpOf l)) (ha : SL (dpOf l) io ks mr vr) (hlen : is.length = ks.length) (hi : ∀ i ∈ is, ps.length ≤ i ∧ i < l.length) (hf : ∀ ds env h, ds.length = is.length → f ds env h = .nx (VV.setAllD is ds env) h) : SS ps rm dl (dpOf l) (dpOf (setDs is ks l)) (fun env h => (mr env h).bindS env fun ds h1 => f ds env h1) (vParN is vr) := fun b0 F S h ve env g lw hb =>
  PoE.bindS0 pd lw hb (ha F S h ve env g) fun a b F1 S1 h1 ve1 Sr e1 t1 r1 s1 => by
    obtain ⟨S2, s2⟩ := SP.setAllD hb s1 t1 r1 hlen hi
    rw [hf b env h1 (by rw [r1.length.2, hlen])]
    exact ⟨_, h1, F1, S2, rfl, s2⟩
theorem ss_parD {l : List Nat} (i j ki kj : Nat) (pd : Pd ps (dpOf l)) (ha : SL (dpOf l) io [ki, kj] mr vr) (hi : ∀ x ∈ [i, j], ps.length ≤ x ∧ x < l.length) : SS ps rm dl (dpOf l) (dpOf (setDs [i, j] [ki, kj] l)) (sPar i j mr) (vParN [i, j] vr) :=
  ss_parND (f := fun ds env h1 => match ds with
    | [d, e] => .nx ((env.set i (some d)).set j (some e)) h1
    | _ => .stk) (is := [i, j]) pd ha rfl hi fun ds env h hl => match ds, hl with
    | [d, e], _ => rfl
theorem ss_par3D {l : List Nat} (i j k ki kj kk : Nat) (pd : Pd ps (dpOf l)) (ha : SL (dpOf l) io [ki, kj, kk] mr vr) (hi : ∀ x ∈ [i, j, k], ps.length ≤ x ∧ x < l.length) : SS ps rm dl (dpOf l) (dpOf (setDs [i, j, k] [ki, kj, kk] l)) (sPar3 i j k mr) (vParN [i, j, k] vr) :=
  ss_parND (f := fun ds env h1 => match ds with
    | [d, e, f] => .nx (((env.set i (some d)).set j (some e)).set k (some f)) h1
    | _ => .stk) (is := [i, j, k]) pd ha rfl hi fun ds env h hl => match ds, hl with
    | [d, e, f], _ => rfl
theorem ss_parTD {l : List Nat} (is ks : List Nat) (n : Nat) (pd : Pd ps (dpOf l)) (ha : SL (dpOf l) io ks mr vr) (hlen : is.length = ks.length) (hn : is.length = n) (hs : n ≤ sizeLine) (hi : ∀ x ∈ is, ps.length ≤ x ∧ x < l.length) : SS ps rm dl (dpOf l) (dpOf (setDs is ks l)) (sAsg (mTup mr) (gT n (gsOf is))) (vParN is vr) := by
  have := ss_parND (rm := rm) (dl := dl) (f := fun ds env h1 => (if ds.length ≤ sizeLine then Res.val (D.tup ds) h1 else .stk).bindS env fun d h1 => toOut (gT n (gsOf is) d env h1)) (is := is) pd ha hlen hi fun ds env h hl => by
    rw [if_pos (by omega)]
    simp only [Res.bindS, gT, hl, hn, if_true, gsOf_ok is ds env h hl, toOut]
  have e : sAsg (mTup mr) (gT n (gsOf is)) = fun env h => (mr env h).bindS env fun ds h1 => (if ds.length ≤ sizeLine then Res.val (D.tup ds) h1 else .stk).bindS env fun d h1 => toOut (gT n (gsOf is) d env h1) := by
    funext env h
    unfold sAsg mTup
    rw [bind_bindS]
  rw [e]
  exact this
end
/-! a part of a list of flat things is new -/
def vSlF (a : VE) (lo hi : VOp) : VE := fun e => (a e).bind fun u e1 => (lo e1).bind fun l e2 => (hi e2).bind fun r e3 => match uSliceL u l r with
  | some (.lst ys) => if flats ys = true then .val (.lst ys) e3 else .stk
  | _ => .stk
theorem se_sliceF {dp : Nat → Nat} {io : List Nat} {ma : ME} {va : VE} {ml mh : MO} {vl vh : VOp} (j : Nat) (ha : SE dp io .bor ma va) (hl : SO dp io ml vl) (hh : SO dp io mh vh) : SE dp io (.fr (j + 1)) (mSl ma ml mh) (vSlF va vl vh) := fun F S h ve env gd =>
  (ha F S h ve env gd).bind fun x d F1 S1 h1 ve1 Sr e1 t1 r1 => (hl F1 S1 h1 ve1 env e1.gd).bind fun l l' F2 S2 h2 ve2 Tr e2 t2 r2 => (hh F2 S2 h2 ve2 env e2.gd).bind fun r r' F3 S3 h3 ve3 Vr e3 t3 r3 => by
    subst r2 r3
    have k1 := RM.keep (md := .bor) e1.gd (e2.trans e3) t1 r1
    cases z : uSliceL x l r with
    | none => trivial
    | some u =>
      obtain ⟨e, q, T, z1, z2, z3⟩ := sliceL_ok l r (fun n y => y.1) k1.1 z
      cases u with
      | lst ys =>
        dsimp only
        split
        · rename_i hf
          rw [z1]
          have e13 := e1.trans (e2.trans e3)
          cases z2 with
          | ref hn rs =>
            obtain ⟨rs', hS⟩ := RVs.rf0 rs
            subst hS
            refine PoE.opfr e3.gd (Nat.le_trans e1.hl (Nat.le_trans e2.hl e3.hl)) (RV.ref hn ?_) z3
            exact RFs.rv j (rs'.flat hf _ _) hf
        · trivial
      | _ => trivial
theorem hdp_of {l ps js : List Nat} (h : (js.zipIdx.all fun p => decide (l.getD p.1 0 = ps.getD p.2 0)) = true) : ∀ k j, js[k]? = some j → dpOf l j = dpOf ps k := fun k j e => by
  rw [List.all_eq_true] at h
  have := h (j, k) (by rw [List.mk_mem_zipIdx_iff_getElem?]; exact e)
  simpa using this
theorem sf_ofL {ps : List Nat} {rm : Md} {dl dp' : Nat → Nat} {m : MS} {v : VS} (n : Nat) (l : List Nat) (k : Nat) (hl : l = ps ++ List.replicate k 0) (hb : SS ps rm dl (dpOf l) dp' m v) (pd : Pd ps dp') (hm : rm ≠ .bor) : SF ps rm (mBody n m) (vBody n ps.length v) := by
  have e : dpOf l = dpOf ps := by
    funext i
    unfold dpOf
    rw [hl, List.getD_eq_getElem?_getD, List.getD_eq_getElem?_getD]
    by_cases hi : i < ps.length
    · rw [List.getElem?_append_left hi]
    · rw [List.getElem?_append_right (by omega), List.getElem?_eq_none (l := ps) (by omega), List.getElem?_replicate]
      split <;> rfl
  rw [e] at hb
  exact sf_of n hb pd hm
/-! ### the law -/
theorem ints_rf {h : IH} {F : Nat → Prop} : ∀ ns : List Int, RFs h F (ns.map U.int) (ns.map D.int)
  | [] => .nil
  | n :: ns => .cons (.int n) (ints_rf ns)
theorem law_of {rm : Md} {m : List D → IH → Res D} {v : VF} {ns : List Int} (hf : SF [] rm m v) (hv : ∃ o, v [.fl (ns.map .int)] = .val (.bl true) o) (hm : rm ≠ .bor) : ∃ h', m [scr ns] [] = .val (.bl true) h' := by
  have r : RFs [] (fun _ => False) [U.fl (ns.map .int)] [scr ns] := by
    exact .cons (.fl (ints_rf ns)) .nil
  obtain ⟨o, hv⟩ := hv
  have z := hf (fun _ => False) (fun _ => []) [] _ _ (gd_args r fun _ x => x.elim) (Nat.zero_le _) fun _ _ => rfl
  rw [hv] at z
  obtain ⟨d, h', F', S', Sr, z1, p, t, q⟩ := z
  refine ⟨h', ?_⟩
  rw [z1]
  cases rm with
  | fl =>
    obtain ⟨q, _⟩ := q
    cases q
    rfl
  | fz =>
    obtain ⟨q, _⟩ := q
    cases q
    rfl
  | bor => exact absurd rfl hm
  | fr k =>
    cases q with
    | fz q =>
      cases q
      rfl
    | bl b => rfl
end VV
set_option Elab.async false
set_option linter.all false
set_option maxRecDepth 100000
/-! plain data: equality, repr, in -/
namespace VV
open PySem L2 DD
mutual
def pyOf : U → PyData
  | .non => .none
  | .bl b => .bool b
  | .int i => .int i
  | .str x => .str x
  | .tup us => .tuple (pyOfs us)
  | .lst us => .list (pyOfs us)
  | .fl us => .list (pyOfs us)
  | .dic _ => .none
  | .op _ => .none
def pyOfs : List U → List PyData
  | [] => []
  | u :: us => pyOf u :: pyOfs us
end
theorem pyOfs_map : ∀ us : List U, pyOfs us = us.map pyOf
  | [] => rfl
  | u :: us => by rw [pyOfs, List.map_cons, pyOfs_map us]
/-- no dict, no function; at most so deep; signs of texts -/
def plain : Nat → U → Bool
  | _, .non => true
  | _, .bl _ => true
  | _, .int _ => true
  | _, .str x => PyData.strOk x
  | n + 1, .tup us => us.all (plain n)
  | n + 1, .lst us => us.all (plain n)
  | n + 1, .fl us => us.all (plain n)
  | _, _ => false
theorem mapO_some {α β : Type} {f : α → Option β} {g : α → β} : ∀ {xs : List α}, (∀ x ∈ xs, f x = some (g x)) → mapO f xs = some (xs.map g)
  | [], _ => rfl
  | x :: xs, h => mapO_cons' (h x List.mem_cons_self) (mapO_some fun y hy => h y (List.mem_cons_of_mem _ hy))
theorem plain_no {n : Nat} {kvs : List (Key × U)} (h : plain n (.dic kvs) = true) : False := by cases n <;> simp [plain] at h
theorem plain_noOp {n : Nat} {v : V} (h : plain n (.op v) = true) : False := by cases n <;> simp [plain] at h
theorem plain_tup {n : Nat} {us : List U} (h : plain n (.tup us) = true) : ∃ k, n = k + 1 ∧ us.all (plain k) = true := by
  cases n with
  | zero => simp [plain] at h
  | succ k => exact ⟨k, rfl, by simpa [plain] using h⟩
theorem plain_lst {n : Nat} {us : List U} (h : plain n (.lst us) = true) : ∃ k, n = k + 1 ∧ us.all (plain k) = true := by
  cases n with
  | zero => simp [plain] at h
  | succ k => exact ⟨k, rfl, by simpa [plain] using h⟩
theorem plain_fl {n : Nat} {us : List U} (h : plain n (.fl us) = true) : ∃ k, n = k + 1 ∧ us.all (plain k) = true := by
  cases n with
  | zero => simp [plain] at h
  | succ k => exact ⟨k, rfl, by simpa [plain] using h⟩
/-- by plain data -/
theorem plain_ind {P : Nat → U → Prop} (h1 : ∀ n, P n .non) (h2 : ∀ n b, P n (.bl b)) (h3 : ∀ n i, P n (.int i)) (h4 : ∀ n x, PyData.strOk x = true → P n (.str x)) (h5 : ∀ n us, (∀ u ∈ us, plain n u = true ∧ P n u) → P (n + 1) (.tup us)) (h6 : ∀ n us, (∀ u ∈ us, plain n u = true ∧ P n u) → P (n + 1) (.lst us)) (h7 : ∀ n us, (∀ u ∈ us, plain n u = true ∧ P n u) → P (n + 1) (.fl us)) : ∀ {n : Nat} {u : U}, plain n u = true → P n u := by
  intro n
  induction n with
  | zero =>
    intro u h
    cases u with
    | non => exact h1 0
    | bl b => exact h2 0 b
    | int b => exact h3 0 b
    | str b => exact h4 0 b (by simpa [plain] using h)
    | _ => simp [plain] at h
  | succ n ih =>
    intro u h
    cases u with
    | non => exact h1 _
    | bl b => exact h2 _ b
    | int b => exact h3 _ b
    | str b => exact h4 _ b (by simpa [plain] using h)
    | tup us => exact h5 n us fun u hu => ⟨List.all_eq_true.mp (by simpa [plain] using h) u hu, ih (List.all_eq_true.mp (by simpa [plain] using h) u hu)⟩
    | lst us => exact h6 n us fun u hu => ⟨List.all_eq_true.mp (by simpa [plain] using h) u hu, ih (List.all_eq_true.mp (by simpa [plain] using h) u hu)⟩
    | fl us => exact h7 n us fun u hu => ⟨List.all_eq_true.mp (by simpa [plain] using h) u hu, ih (List.all_eq_true.mp (by simpa [plain] using h) u hu)⟩
    | dic kvs => exact (plain_no h).elim
    | op v => exact (plain_noOp h).elim
theorem plain_py {n : Nat} {u : U} (h : plain n u = true) : toPyU (n + 1) u = some (pyOf u) := by
  refine plain_ind (P := fun n u => toPyU (n + 1) u = some (pyOf u)) ?_ ?_ ?_ ?_ ?_ ?_ ?_ h
  · exact fun n => rfl
  · exact fun n b => rfl
  · exact fun n b => rfl
  · exact fun n b _ => rfl
  · intro n us ih
    show (mapO (toPyU (n + 1)) us).map PyData.tuple = _
    rw [mapO_some (g := pyOf) fun x hx => (ih x hx).2, pyOf, pyOfs_map]
    rfl
  · intro n us ih
    show (mapO (toPyU (n + 1)) us).map PyData.list = _
    rw [mapO_some (g := pyOf) fun x hx => (ih x hx).2, pyOf, pyOfs_map]
    rfl
  · intro n us ih
    show (mapO (toPyU (n + 1)) us).map PyData.list = _
    rw [mapO_some (g := pyOf) fun x hx => (ih x hx).2, pyOf, pyOfs_map]
    rfl
theorem lay_all : ∀ {ps : List PyData}, (∀ p ∈ ps, p.canLay0 = true) → PyData.canLayAll0 ps = true
  | [], _ => rfl
  | p :: ps, h => by rw [PyData.canLayAll0, h p List.mem_cons_self, lay_all fun q hq => h q (List.mem_cons_of_mem _ hq)]; rfl
theorem depth_all {n : Nat} : ∀ {ps : List PyData}, (∀ p ∈ ps, p.depth ≤ n) → PyData.depthAll ps ≤ n
  | [], _ => by simp [PyData.depthAll]
  | p :: ps, h => by
    rw [PyData.depthAll]
    have := h p List.mem_cons_self
    have := depth_all fun q hq => h q (List.mem_cons_of_mem _ hq)
    omega
theorem plain_lay {n : Nat} {u : U} (h : plain n u = true) : (pyOf u).canLay0 = true ∧ (pyOf u).depth ≤ n := by
  have seq : ∀ (n : Nat) (us : List U), (∀ u ∈ us, plain n u = true ∧ ((pyOf u).canLay0 = true ∧ (pyOf u).depth ≤ n)) → PyData.canLayAll0 (us.map pyOf) = true ∧ PyData.depthAll (us.map pyOf) ≤ n := fun n us ih =>
    ⟨lay_all fun p hp => by
      obtain ⟨u, hu, rfl⟩ := List.mem_map.mp hp
      exact (ih u hu).2.1, depth_all fun p hp => by
      obtain ⟨u, hu, rfl⟩ := List.mem_map.mp hp
      exact (ih u hu).2.2⟩
  refine plain_ind (P := fun n u => (pyOf u).canLay0 = true ∧ (pyOf u).depth ≤ n) ?_ ?_ ?_ ?_ ?_ ?_ ?_ h
  · exact fun n => ⟨rfl, by simp [pyOf, PyData.depth]⟩
  · exact fun n b => ⟨rfl, by simp [pyOf, PyData.depth]⟩
  · exact fun n b => ⟨rfl, by simp [pyOf, PyData.depth]⟩
  · exact fun n x hx => ⟨by simpa [pyOf, PyData.canLay0] using hx, by simp [pyOf, PyData.depth]⟩
  · intro n us ih
    have := seq n us ih
    rw [pyOf, pyOfs_map, PyData.canLay0, PyData.depth]
    exact ⟨this.1, by omega⟩
  · intro n us ih
    have := seq n us ih
    rw [pyOf, pyOfs_map, PyData.canLay0, PyData.depth]
    exact ⟨this.1, by omega⟩
  · intro n us ih
    have := seq n us ih
    rw [pyOf, pyOfs_map, PyData.canLay0, PyData.depth]
    exact ⟨this.1, by omega⟩
theorem plain_shaped {u : U} (h : plain 11 u = true) : SeqAt.shaped (pyOf u) = true := by
  obtain ⟨h1, h2⟩ := plain_lay h
  unfold SeqAt.shaped
  rw [h1, Bool.true_and, decide_eq_true_eq]
  omega
/-! equality -/
mutual
def eqB : U → U → Bool
  | .non, .non => true
  | .bl a, .bl b => a == b
  | .bl a, .int j => (if a then 1 else 0) == j
  | .int i, .bl b => i == (if b then 1 else 0)
  | .int i, .int j => decide (i = j)
  | .str x, .str y => decide (x = y)
  | .lst xs, .lst ys => eqBs xs ys
  | .lst xs, .fl ys => eqBs xs ys
  | .fl xs, .lst ys => eqBs xs ys
  | .fl xs, .fl ys => eqBs xs ys
  | .tup xs, .tup ys => eqBs xs ys
  | _, _ => false
def eqBs : List U → List U → Bool
  | [], [] => true
  | x :: xs, y :: ys => eqB x y && eqBs xs ys
  | _, _ => false
end
theorem eqv_eqB0 {a : U} {n : Nat} (ha : plain n a = true) : ∀ (b : U) (k : Nat), plain k b = true → PyData.eqv (pyOf a) (pyOf b) = eqB a b := by
  have seq : ∀ (n : Nat) (us : List U), (∀ u ∈ us, plain n u = true ∧ ∀ (b : U) (k : Nat), plain k b = true → PyData.eqv (pyOf u) (pyOf b) = eqB u b) → ∀ {bs : List U} {k : Nat}, bs.all (plain k) = true → PyData.eqvAll (pyOfs us) (pyOfs bs) = eqBs us bs := by
    intro n us
    induction us with
    | nil =>
      intro _ bs k _
      cases bs <;> simp [pyOfs, PyData.eqvAll, eqBs]
    | cons u us ih =>
      intro hu bs k hb
      cases bs with
      | nil => simp [pyOfs, PyData.eqvAll, eqBs]
      | cons b bs =>
        rw [List.all_cons, Bool.and_eq_true] at hb
        rw [pyOfs, pyOfs, PyData.eqvAll, eqBs, (hu u List.mem_cons_self).2 _ _ hb.1, ih (fun v hv => hu v (List.mem_cons_of_mem _ hv)) hb.2]
  refine plain_ind (P := fun n a => ∀ (b : U) (k : Nat), plain k b = true → PyData.eqv (pyOf a) (pyOf b) = eqB a b) ?_ ?_ ?_ ?_ ?_ ?_ ?_ ha
  · intro n b k hb
    cases b <;> first | exact (plain_no hb).elim | exact (plain_noOp hb).elim | simp [pyOf, PyData.eqv, eqB]
  · intro n x b k hb
    cases b <;> first | exact (plain_no hb).elim | exact (plain_noOp hb).elim | simp [pyOf, PyData.eqv, eqB]
  · intro n x b k hb
    cases b <;> first | exact (plain_no hb).elim | exact (plain_noOp hb).elim | (simp [pyOf, PyData.eqv, eqB]; done) | (simp [pyOf, PyData.eqv, eqB]; rfl)
  · intro n x _ b k hb
    cases b <;> first | exact (plain_no hb).elim | exact (plain_noOp hb).elim | (simp [pyOf, PyData.eqv, eqB]; done) | (simp [pyOf, PyData.eqv, eqB]; rfl)
  · intro n us ih b k hb
    cases b with
    | tup ys =>
      obtain ⟨j, rfl, hy⟩ := plain_tup hb
      rw [pyOf, pyOf, PyData.eqv, eqB]
      exact seq n us ih hy
    | dic _ => exact (plain_no hb).elim
    | op _ => exact (plain_noOp hb).elim
    | _ => simp [pyOf, PyData.eqv, eqB]
  · intro n us ih b k hb
    cases b with
    | lst ys =>
      obtain ⟨j, rfl, hy⟩ := plain_lst hb
      rw [pyOf, pyOf, PyData.eqv, eqB]
      exact seq n us ih hy
    | fl ys =>
      obtain ⟨j, rfl, hy⟩ := plain_fl hb
      rw [pyOf, pyOf, PyData.eqv, eqB]
      exact seq n us ih hy
    | dic _ => exact (plain_no hb).elim
    | op _ => exact (plain_noOp hb).elim
    | _ => simp [pyOf, PyData.eqv, eqB]
  · intro n us ih b k hb
    cases b with
    | lst ys =>
      obtain ⟨j, rfl, hy⟩ := plain_lst hb
      rw [pyOf, pyOf, PyData.eqv, eqB]
      exact seq n us ih hy
    | fl ys =>
      obtain ⟨j, rfl, hy⟩ := plain_fl hb
      rw [pyOf, pyOf, PyData.eqv, eqB]
      exact seq n us ih hy
    | dic _ => exact (plain_no hb).elim
    | op _ => exact (plain_noOp hb).elim
    | _ => simp [pyOf, PyData.eqv, eqB]
theorem eqv_eqB {a b : U} {n k : Nat} (ha : plain n a = true) (hb : plain k b = true) : PyData.eqv (pyOf a) (pyOf b) = eqB a b := eqv_eqB0 ha b k hb
theorem eqU_ok' {a b : U} (ha : plain 11 a = true) (hb : plain 11 b = true) : eqU a b = some (eqB a b) := by
  unfold eqU
  split
  · rfl
  · rfl
  · unfold eqTU
    rw [plain_py ha, plain_py hb]
    simp only [plain_shaped ha, plain_shaped hb, Bool.and_self, if_true, eqv_eqB ha hb]
theorem uEq_ok {a b : U} (ha : plain 11 a = true) (hb : plain 11 b = true) : uEq a b = some (.bl (eqB a b)) := by rw [uEq, eqU_ok' ha hb]; rfl
theorem uNe_ok {a b : U} (ha : plain 11 a = true) (hb : plain 11 b = true) : uNe a b = some (.bl !(eqB a b)) := by rw [uNe, eqU_ok' ha hb]; rfl
theorem uEq_int (i j : Int) : uEq (.int i) (.int j) = some (.bl (decide (i = j))) := rfl
theorem uNe_int (i j : Int) : uNe (.int i) (.int j) = some (.bl !(decide (i = j))) := rfl
theorem uEq_str (i j : Str) : uEq (.str i) (.str j) = some (.bl (decide (i = j))) := rfl
theorem uNe_str (i j : Str) : uNe (.str i) (.str j) = some (.bl !(decide (i = j))) := rfl
theorem eqBs_same {us : List U} (h : ∀ u ∈ us, eqB u u = true) : eqBs us us = true := by
  induction us with
  | nil => simp [eqBs]
  | cons u us ih => rw [eqBs, h u List.mem_cons_self, ih fun v hv => h v (List.mem_cons_of_mem _ hv)]; rfl
theorem eqB_self {n : Nat} {a : U} (h : plain n a = true) : eqB a a = true := by
  refine plain_ind (P := fun n a => eqB a a = true) ?_ ?_ ?_ ?_ ?_ ?_ ?_ h
  · exact fun n => by simp [eqB]
  · exact fun n b => by simp [eqB]
  · exact fun n b => by simp [eqB]
  · exact fun n b _ => by simp [eqB]
  · exact fun n us ih => by rw [eqB]; exact eqBs_same fun u hu => (ih u hu).2
  · exact fun n us ih => by rw [eqB]; exact eqBs_same fun u hu => (ih u hu).2
  · exact fun n us ih => by rw [eqB]; exact eqBs_same fun u hu => (ih u hu).2
theorem eqBs_nil (us : List U) : eqBs us [] = us.isEmpty := by cases us <;> simp [eqBs]
theorem eqBs_nil' (us : List U) : eqBs [] us = us.isEmpty := by cases us <;> simp [eqBs]
/-! plain lists -/
theorem plain_ints (n : Nat) (ns : List Int) : (ns.map U.int).all (plain n) = true := by
  rw [List.all_map, List.all_eq_true]
  intro x _
  cases n <;> rfl
theorem all_map_plain {α : Type} {f : α → U} {n : Nat} {xs : List α} (h : ∀ a ∈ xs, plain n (f a) = true) : (xs.map f).all (plain n) = true := by
  rw [List.all_map, List.all_eq_true]
  exact h
/-! repr -/
/-- ints below 10 ^ 12 -/
def shortU : U → Prop
  | u => (pyOf u).showable = true ∧ (pyOf u).intsShort 13 = true
structure Ok (d w : Nat) (u : U) : Prop where
  p : plain d u = true
  s : (pyOf u).showable = true
  i : (pyOf u).intsShort 13 = true
  w : (pyOf u).weight ≤ w
theorem Ok.mono {d w w' : Nat} {u : U} (h : Ok d w u) (hw : w ≤ w') : Ok d w' u := ⟨h.p, h.s, h.i, Nat.le_trans h.w hw⟩
theorem plain_up {n : Nat} {u : U} (h : plain n u = true) : plain (n + 1) u = true := by
  refine plain_ind (P := fun n u => plain (n + 1) u = true) ?_ ?_ ?_ ?_ ?_ ?_ ?_ h
  · exact fun n => rfl
  · exact fun n b => rfl
  · exact fun n b => rfl
  · exact fun n b hb => by simpa [plain] using hb
  · exact fun n us ih => by rw [plain, List.all_eq_true]; exact fun u hu => (ih u hu).2
  · exact fun n us ih => by rw [plain, List.all_eq_true]; exact fun u hu => (ih u hu).2
  · exact fun n us ih => by rw [plain, List.all_eq_true]; exact fun u hu => (ih u hu).2
theorem plain_le {n m : Nat} {u : U} (h : plain n u = true) (hm : n ≤ m) : plain m u = true := by
  induction hm with
  | refl => exact h
  | step _ ih => exact plain_up ih
theorem Ok.deep {d d' w : Nat} {u : U} (h : Ok d w u) (hd : d ≤ d') : Ok d' w u := ⟨plain_le h.p hd, h.s, h.i, h.w⟩
theorem ok_non : Ok 0 0 .non := ⟨rfl, rfl, rfl, by simp [pyOf, PyData.weight]⟩
theorem ok_bl (b : Bool) : Ok 0 0 (.bl b) := ⟨rfl, rfl, rfl, by simp [pyOf, PyData.weight]⟩
theorem ok_int {i : Int} (h : i.natAbs < 10 ^ 12) : Ok 0 41 (.int i) := by
  refine ⟨rfl, ?_, ?_, ?_⟩
  · rw [pyOf, PyData.showable, decide_eq_true_eq]
    by_cases z : i.natAbs = 0
    · rw [z]
      decide
    · exact Nat.lt_of_lt_of_le ((Nat.log2_lt z).mpr (Nat.lt_of_lt_of_le h (show 10 ^ 12 ≤ 2 ^ 60 by decide))) (by decide)
  · have := PyData.intsShortAll_ints [i] (by
      intro m hm
      rw [List.mem_singleton] at hm
      subst hm
      exact h)
    rw [List.map_cons, PyData.intsShortAll, Bool.and_eq_true] at this
    exact this.1
  · rw [pyOf, PyData.weight]
    split
    · omega
    · by_cases y : i.natAbs = 0
      · rw [y]
        decide
      · have : i.natAbs.log2 < 40 := (Nat.log2_lt y).mpr (Nat.lt_of_lt_of_le h (by decide))
        omega
theorem ok_str {x : Str} {w : Nat} (h : PyData.strOk x = true) (hw : x.length ≤ w) : Ok 0 w (.str x) := ⟨h, rfl, rfl, hw⟩
theorem weight_all {w : Nat} : ∀ {us : List U}, (∀ u ∈ us, (pyOf u).weight ≤ w) → PyData.weightAll (us.map pyOf) ≤ us.length * (w + 1)
  | [], _ => by simp [PyData.weightAll]
  | u :: us, h => by
    rw [List.map_cons, PyData.weightAll, List.length_cons, Nat.succ_mul]
    have := h u List.mem_cons_self
    have := weight_all fun v hv => h v (List.mem_cons_of_mem _ hv)
    omega
theorem show_all : ∀ {us : List U}, (∀ u ∈ us, (pyOf u).showable = true) → PyData.showableAll (us.map pyOf) = true
  | [], _ => rfl
  | u :: us, h => by rw [List.map_cons, PyData.showableAll, h u List.mem_cons_self, show_all fun v hv => h v (List.mem_cons_of_mem _ hv)]; rfl
theorem short_all : ∀ {us : List U}, (∀ u ∈ us, (pyOf u).intsShort 13 = true) → PyData.intsShortAll 13 (us.map pyOf) = true
  | [], _ => rfl
  | u :: us, h => by rw [List.map_cons, PyData.intsShortAll, h u List.mem_cons_self, short_all fun v hv => h v (List.mem_cons_of_mem _ hv)]; rfl
theorem ok_tup {d w n : Nat} {us : List U} (h : ∀ u ∈ us, Ok d w u) (hn : us.length ≤ n) : Ok (d + 1) (n * (w + 1)) (.tup us) := by
  refine ⟨by rw [plain, List.all_eq_true]; exact fun u hu => (h u hu).p, ?_, ?_, ?_⟩
  · rw [pyOf, pyOfs_map, PyData.showable]
    exact show_all fun u hu => (h u hu).s
  · rw [pyOf, pyOfs_map, PyData.intsShort]
    exact short_all fun u hu => (h u hu).i
  · rw [pyOf, pyOfs_map, PyData.weight]
    exact Nat.le_trans (weight_all fun u hu => (h u hu).w) (Nat.mul_le_mul_right _ hn)
theorem ok_lst {d w n : Nat} {us : List U} (h : ∀ u ∈ us, Ok d w u) (hn : us.length ≤ n) : Ok (d + 1) (n * (w + 1)) (.lst us) := by
  refine ⟨by rw [plain, List.all_eq_true]; exact fun u hu => (h u hu).p, ?_, ?_, ?_⟩
  · rw [pyOf, pyOfs_map, PyData.showable]
    exact show_all fun u hu => (h u hu).s
  · rw [pyOf, pyOfs_map, PyData.intsShort]
    exact short_all fun u hu => (h u hu).i
  · rw [pyOf, pyOfs_map, PyData.weight]
    exact Nat.le_trans (weight_all fun u hu => (h u hu).w) (Nat.mul_le_mul_right _ hn)
theorem noDict_of {n : Nat} {u : U} (h : plain n u = true) : (pyOf u).hasDict = false := PyData.hasDict_of_canLay _ (plain_lay h).1
theorem shown_le {u : U} (h : Ok 11 1048576 u) : (pyOf u).shown.length ≤ sizeLine := by
  refine PyData.shown_fits_of_layable0 (B := 13) (by decide) (by decide) ?_ h.i
  unfold PyData.layable0
  obtain ⟨h1, h2⟩ := plain_lay h.p
  simp only [h1, Bool.true_and, Bool.and_eq_true, decide_eq_true_eq]
  exact ⟨by omega, h.w⟩
/-- repr of a tuple, a list -/
theorem uRepr_tup {us : List U} (h : Ok 11 1048576 (.tup us)) : uRepr [.tup us] = some (.str (pyOf (.tup us)).shown) := by
  unfold uRepr
  have e := plain_py h.p
  have h2 := (plain_lay h.p).2
  simp only [e]
  have e2 : pyOf (.tup us) = .tuple (pyOfs us) := by rw [pyOf]
  have s := h.s
  have n := noDict_of h.p
  have l := shown_le h
  rw [e2] at s n l h2 ⊢
  have h3 : (PyData.tuple (pyOfs us)).depth ≤ 60 := by omega
  simp only [s, n, l, h3, decide_true, Bool.not_false, Bool.and_self, if_true]
theorem uRepr_lst {us : List U} (h : Ok 11 1048576 (.lst us)) : uRepr [.lst us] = some (.str (pyOf (.lst us)).shown) := by
  unfold uRepr
  have e := plain_py h.p
  have h2 := (plain_lay h.p).2
  simp only [e]
  have e2 : pyOf (.lst us) = .list (pyOfs us) := by rw [pyOf]
  have s := h.s
  have n := noDict_of h.p
  have l := shown_le h
  rw [e2] at s n l h2 ⊢
  have h3 : (PyData.list (pyOfs us)).depth ≤ 60 := by omega
  simp only [s, n, l, h3, decide_true, Bool.not_false, Bool.and_self, if_true]
end VV
set_option Elab.async false
set_option linter.all false
set_option maxRecDepth 100000
/-! loops and comprehensions on letters -/
namespace VV
open PySem L2 DD
theorem forV_inv {t : VTg} {b : VS} (I : List U → UE → Prop)
    (step : ∀ u us e, I (u :: us) e → ∃ e1 e2, t u e = some e1 ∧ (b e1 = .nx e2 ∨ b e1 = .ct e2) ∧ I us e2) : ∀ us e, I us e → ∃ e2, forV t b us e = .nx e2 ∧ I [] e2
  | [], e, i => ⟨e, rfl, i⟩
  | u :: us, e, i => by
    obtain ⟨e1, e2, z1, z2, i2⟩ := step u us e i
    obtain ⟨e3, z3, i3⟩ := forV_inv I step us e2 i2
    refine ⟨e3, ?_, i3⟩
    rcases z2 with z2 | z2 <;> simp only [forV, z1, z2, z3]
/-- a loop as a fold; γ: what other slots hold -/
theorem forV_fold {t : VTg} {b : VS} {α β γ : Type} (g : α → U) (E : β → γ → UE) (st : β → α → β) : ∀ (xs : List α) (s : β) (j : γ),
    (∀ pre x post, xs = pre ++ x :: post → ∀ j, ∃ e1 j', t (g x) (E (pre.foldl st s) j) = some e1 ∧ (b e1 = .nx (E (st (pre.foldl st s) x) j') ∨ b e1 = .ct (E (st (pre.foldl st s) x) j'))) →
    ∃ j', forV t b (xs.map g) (E s j) = .nx (E (xs.foldl st s) j')
  | [], s, j, _ => ⟨j, rfl⟩
  | x :: xs, s, j, h => by
    obtain ⟨e1, j1, z1, z2⟩ := h [] x xs rfl j
    simp only [List.foldl_nil] at z1 z2
    obtain ⟨j2, z3⟩ := forV_fold g E st xs (st s x) j1 fun pre y post e j => by
      have := h (x :: pre) y post (by rw [e]; rfl) j
      simpa only [List.foldl_cons] using this
    refine ⟨j2, ?_⟩
    rw [List.map_cons, List.foldl_cons]
    rcases z2 with z2 | z2 <;> simp only [forV, z1, z2, z3]
/-- a loop that may be left by a return -/
def goE {α β : Type} (st : β → α → β ⊕ U) : β → List α → β ⊕ U
  | s, [] => Sum.inl s
  | s, x :: xs => match st s x with
    | Sum.inl s' => goE st s' xs
    | Sum.inr u => Sum.inr u
theorem forV_go {t : VTg} {b : VS} {α β γ : Type} (g : α → U) (E : β → γ → UE) (st : β → α → β ⊕ U) : ∀ (xs : List α) (s : β) (j : γ),
    (∀ x ∈ xs, ∀ s j, ∃ e1, t (g x) (E s j) = some e1 ∧ match st s x with
      | Sum.inl s' => ∃ j', b e1 = .nx (E s' j') ∨ b e1 = .ct (E s' j')
      | Sum.inr u => ∃ s' j', b e1 = .rt u (E s' j')) →
    match goE st s xs with
    | Sum.inl s' => ∃ j', forV t b (xs.map g) (E s j) = .nx (E s' j')
    | Sum.inr u => ∃ s' j', forV t b (xs.map g) (E s j) = .rt u (E s' j')
  | [], s, j, _ => ⟨j, rfl⟩
  | x :: xs, s, j, h => by
    have h0 := h x List.mem_cons_self s j
    rw [List.map_cons]
    unfold goE
    cases q : st s x with
    | inl s' =>
      rw [q] at h0
      obtain ⟨e1, z1, j1, z2⟩ := h0
      have ih := forV_go g E st xs s' j1 fun y hy => h y (List.mem_cons_of_mem _ hy)
      dsimp only
      revert ih
      cases goE st s' xs with
      | inl s2 =>
        rintro ⟨j2, z3⟩
        refine ⟨j2, ?_⟩
        rcases z2 with z2 | z2 <;> simp only [forV, z1, z2, z3]
      | inr u =>
        rintro ⟨s2, j2, z3⟩
        refine ⟨s2, j2, ?_⟩
        rcases z2 with z2 | z2 <;> simp only [forV, z1, z2, z3]
    | inr u =>
      rw [q] at h0
      obtain ⟨e1, z1, s2, j2, z2⟩ := h0
      exact ⟨s2, j2, by simp only [forV, z1, z2]⟩
/-- the first item at which a loop returns -/
theorem forV_find {t : VTg} {b : VS} {α γ : Type} (g : α → U) (E : γ → UE) (p : α → Option U) (xs : List α) (j : γ)
    (h : ∀ x ∈ xs, ∀ j, ∃ e1 j', t (g x) (E j) = some e1 ∧ match p x with
      | none => b e1 = .nx (E j') ∨ b e1 = .ct (E j')
      | some u => b e1 = .rt u (E j')) :
    ∃ j', forV t b (xs.map g) (E j) = match xs.findSome? p with
      | none => .nx (E j')
      | some u => .rt u (E j') := by
  induction xs generalizing j with
  | nil => exact ⟨j, rfl⟩
  | cons x xs ih =>
    obtain ⟨e1, j1, z1, z2⟩ := h x List.mem_cons_self j
    rw [List.map_cons, List.findSome?_cons]
    cases q : p x with
    | none =>
      rw [q] at z2
      obtain ⟨j2, z3⟩ := ih j1 fun y hy => h y (List.mem_cons_of_mem _ hy)
      refine ⟨j2, ?_⟩
      dsimp only at z2 ⊢
      rcases z2 with z2 | z2 <;> simp only [forV, z1, z2, z3]
    | some u =>
      rw [q] at z2
      dsimp only at z2 ⊢
      exact ⟨j1, by simp only [forV, z1, z2]⟩
/-- a loop over a list by what holds ahead of each item -/
theorem forV_idx {t : VTg} {b : VS} {α : Type} (g : α → U) (xs : List α) (I : Nat → UE → Prop) (step : ∀ k x e, xs[k]? = some x → I k e → ∃ e1 e2, t (g x) e = some e1 ∧ (b e1 = .nx e2 ∨ b e1 = .ct e2) ∧ I (k + 1) e2) (e : UE) (h0 : I 0 e) : ∃ e2, forV t b (xs.map g) e = .nx e2 ∧ I xs.length e2 := by
  have key : ∀ (n k : Nat) (e : UE), xs.length = k + n → I k e → ∃ e2, forV t b ((xs.drop k).map g) e = .nx e2 ∧ I xs.length e2 := by
    intro n
    induction n with
    | zero =>
      intro k e hk hi
      rw [List.drop_eq_nil_of_le (by omega)]
      refine ⟨e, rfl, ?_⟩
      rw [hk]
      exact hi
    | succ n ih =>
      intro k e hk hi
      have hlt : k < xs.length := by omega
      rw [List.drop_eq_getElem_cons hlt, List.map_cons]
      obtain ⟨e1, e2, z1, z2, i2⟩ := step k xs[k] e (List.getElem?_eq_getElem hlt) hi
      obtain ⟨e3, z3, i3⟩ := ih (k + 1) e2 (by omega) i2
      refine ⟨e3, ?_, i3⟩
      rcases z2 with z2 | z2 <;> simp only [forV, z1, z2, z3]
  obtain ⟨e2, z, i⟩ := key xs.length 0 e (by omega) h0
  exact ⟨e2, z, i⟩
theorem forV_range {t : VTg} {b : VS} (lo : Int) (n : Nat) (I : Nat → UE → Prop) (step : ∀ (k : Nat) e, k < n → I k e → ∃ e1 e2, t (.int (lo + (k : Int))) e = some e1 ∧ (b e1 = .nx e2 ∨ b e1 = .ct e2) ∧ I (k + 1) e2) (e : UE) (h0 : I 0 e) : ∃ e2, forV t b (rangeU lo n) e = .nx e2 ∧ I n e2 := by
  obtain ⟨e2, z, i⟩ := forV_idx (t := t) (b := b) (fun i : Nat => U.int (lo + (i : Int))) (List.range n) I (fun k x e hx hi => by
    obtain ⟨hk, hx⟩ := List.getElem?_eq_some_iff.mp hx
    rw [List.getElem_range] at hx
    subst hx
    rw [List.length_range] at hk
    exact step k e hk hi) e h0
  rw [List.length_range] at i
  exact ⟨e2, z, i⟩
/-- a comprehension: each item by itself -/
theorem lcV_map {t : VTg} {c : VT} {x : VE} {own : List Nat} {e0 : UE} {α : Type} (g : α → U) (f : α → U) : ∀ (xs : List α) (acc : List U),
    (∀ a ∈ xs, ∃ e1 e2 e3, t (g a) e0 = some e1 ∧ c e1 = .val true e2 ∧ x e2 = .val (f a) e3 ∧ wipeU e3 own = e0) → acc.length + xs.length ≤ sizeLine → lcV t c x own (xs.map g) acc e0 = .val (acc ++ xs.map f) e0
  | [], acc, _, _ => by simp [lcV]
  | a :: xs, acc, h, hl => by
    obtain ⟨e1, e2, e3, z1, z2, z3, z4⟩ := h a List.mem_cons_self
    rw [List.length_cons] at hl
    have ih := lcV_map g f xs (acc ++ [f a]) (fun b hb => h b (List.mem_cons_of_mem _ hb)) (by rw [List.length_append, List.length_singleton]; omega)
    rw [List.map_cons, List.map_cons]
    have hlt : acc.length < sizeLine := by omega
    simp only [lcV, lcVT, z1, z2, z3, if_pos hlt, z4, ih, List.append_assoc, List.cons_append, List.nil_append]
theorem lcV_filter {t : VTg} {c : VT} {x : VE} {own : List Nat} {e0 : UE} {α : Type} (g : α → U) (p : α → Bool) (f : α → U) : ∀ (xs : List α) (acc : List U),
    (∀ a ∈ xs, ∃ e1 e2, t (g a) e0 = some e1 ∧ c e1 = .val (p a) e2 ∧ (p a = true → ∃ e3, x e2 = .val (f a) e3 ∧ wipeU e3 own = e0) ∧ (p a = false → wipeU e2 own = e0)) → acc.length + xs.length ≤ sizeLine → lcV t c x own (xs.map g) acc e0 = .val (acc ++ (xs.filter p).map f) e0
  | [], acc, _, _ => by simp [lcV]
  | a :: xs, acc, h, hl => by
    obtain ⟨e1, e2, z1, z2, z3, z4⟩ := h a List.mem_cons_self
    rw [List.length_cons] at hl
    rw [List.map_cons]
    have hlt : acc.length < sizeLine := by omega
    cases q : p a with
    | true =>
      obtain ⟨e3, z3, z5⟩ := z3 q
      have ih := lcV_filter g p f xs (acc ++ [f a]) (fun b hb => h b (List.mem_cons_of_mem _ hb)) (by rw [List.length_append, List.length_singleton]; omega)
      rw [q] at z2
      rw [List.filter_cons_of_pos q, List.map_cons]
      simp only [lcV, lcVT, z1, z2, z3, if_pos hlt, z5, ih, List.append_assoc, List.cons_append, List.nil_append]
    | false =>
      have ih := lcV_filter g p f xs acc (fun b hb => h b (List.mem_cons_of_mem _ hb)) (by omega)
      rw [q] at z2
      rw [List.filter_cons_of_neg (by rw [q]; exact Bool.false_ne_true)]
      simp only [lcV, lcVT, z1, z2, z4 q, ih]
/-- a comprehension whose items change slots: I of how many are left, R of an item and its value -/
theorem lcV_inv {t : VTg} {c : VT} {x : VE} {own : List Nat} {α β : Type} (g : α → U) (f : β → U) (I : Nat → UE → Prop) (R : α → β → Prop) : ∀ (xs : List α) (acc : List U) (e : UE),
    (∀ a ∈ xs, ∀ n e, I (n + 1) e → ∃ e1 e2 y e3, t (g a) e = some e1 ∧ c e1 = .val true e2 ∧ x e2 = .val (f y) e3 ∧ R a y ∧ I n (wipeU e3 own)) → acc.length + xs.length ≤ sizeLine → I xs.length e →
    ∃ ys e', lcV t c x own (xs.map g) acc e = .val (acc ++ ys.map f) e' ∧ Paired R xs ys ∧ I 0 e'
  | [], acc, e, _, _, i => ⟨[], e, by simp [lcV], .nil, i⟩
  | a :: xs, acc, e, h, hl, i => by
    rw [List.length_cons] at hl
    obtain ⟨e1, e2, y, e3, z1, z2, z3, r, i3⟩ := h a List.mem_cons_self xs.length e i
    obtain ⟨ys, e4, z4, r4, i4⟩ := lcV_inv g f I R xs (acc ++ [f y]) (wipeU e3 own) (fun b hb => h b (List.mem_cons_of_mem _ hb)) (by rw [List.length_append, List.length_singleton]; omega) i3
    have hlt : acc.length < sizeLine := by omega
    refine ⟨y :: ys, e4, ?_, .cons r r4, i4⟩
    rw [List.map_cons]
    simp only [lcV, lcVT, z1, z2, z3, if_pos hlt, z4, List.map_cons, List.append_assoc, List.cons_append, List.nil_append]
theorem rangeU_map (lo : Int) (n : Nat) : rangeU lo n = (List.range n).map (fun i : Nat => U.int (lo + (i : Int))) := rfl
theorem enumU_map {α : Type} (g : α → U) : ∀ (xs : List α) (k : Nat), enumU k (xs.map g) = (xs.zipIdx k).map fun p => U.tup [.int (p.2 : Nat), g p.1]
  | [], _ => rfl
  | x :: xs, k => by
    rw [List.map_cons, enumU, List.zipIdx_cons, List.map_cons, enumU_map g xs (k + 1)]
theorem atI_map {α β : Type} (f : α → β) (xs : List α) (i : Int) : atI (xs.map f) i = (atI xs i).map f := by
  unfold atI
  rw [List.length_map]
  cases ixN xs.length i with
  | none => rfl
  | some j => simp [Option.bind]
theorem atI_nat {α : Type} (xs : List α) (i : Nat) : atI xs (i : Int) = xs[i]? := by
  unfold atI ixN
  by_cases h : i < xs.length
  · rw [if_pos (by omega), if_pos (by omega)]
    simp [Option.bind]
  · rw [if_pos (by omega), if_neg (by omega), List.getElem?_eq_none (by omega)]
    rfl
theorem cutA_map {α β : Type} (f : α → β) (xs : List α) (lo hi : Option Int) : cutA (xs.map f) lo hi = (cutA xs lo hi).map f := by
  unfold cutA
  rw [List.length_map, List.map_take, List.map_drop]
theorem cut_take {α : Type} (xs : List α) (k : Int) (h : 0 ≤ k) : cutA xs none (some k) = xs.take k.toNat := by
  unfold cutA
  simp only [HT.sIx_none, List.drop_zero, Nat.sub_zero]
  have e : HT.sIx xs.length xs.length (some k) = min k.toNat xs.length := by
    show (if k < 0 then (k + (xs.length : Int)).toNat else min k.toNat xs.length) = _
    rw [if_neg (by omega)]
  rw [e]
  by_cases z : k.toNat ≤ xs.length
  · rw [Nat.min_eq_left z]
  · rw [Nat.min_eq_right (by omega), List.take_length, List.take_of_length_le (by omega)]
theorem cut_drop {α : Type} (xs : List α) (k : Int) (h : 0 ≤ k) : cutA xs (some k) none = xs.drop k.toNat := by
  unfold cutA
  simp only [HT.sIx_none]
  have e : HT.sIx xs.length 0 (some k) = min k.toNat xs.length := by
    show (if k < 0 then (k + (xs.length : Int)).toNat else min k.toNat xs.length) = _
    rw [if_neg (by omega)]
  rw [e]
  by_cases z : k.toNat ≤ xs.length
  · rw [Nat.min_eq_left z, List.take_of_length_le (by rw [List.length_drop]; omega)]
  · rw [Nat.min_eq_right (by omega), Nat.sub_self, List.take_zero, List.drop_of_length_le (by omega)]
theorem intsU_map (ns : List Int) : intsU (ns.map U.int) = some ns := by
  unfold intsU
  have := mapO_map (f := fun d => match d with
    | U.int i => some i
    | _ => none) (g := U.int) (k := id) (xs := ns) fun x _ => rfl
  rw [List.map_id] at this
  exact this
theorem boolsU_map (ns : List Bool) : boolsU (ns.map U.bl) = some ns := by
  unfold boolsU
  have := mapO_map (f := fun d => match d with
    | U.bl i => some i
    | _ => none) (g := U.bl) (k := id) (xs := ns) fun x _ => rfl
  rw [List.map_id] at this
  exact this
theorem flats_ints (ns : List Int) : flats (ns.map U.int) = true := flats_map (fun _ => rfl) ns
theorem isEmpty_map {α β : Type} (f : α → β) (xs : List α) : (xs.map f).isEmpty = xs.isEmpty := by cases xs <;> rfl
theorem ofS_inj (a b : String) : (Str.ofString a = Str.ofString b) = (a = b) := by
  apply propext
  constructor
  · intro h
    rw [Str.ofString_eq_toList, Str.ofString_eq_toList] at h
    have h1 := congrArg (fun s : Str => s.cps.toList) h
    simp only [List.toList_toArray] at h1
    have key : ∀ (xs ys : List Char), xs.map Char.toNat = ys.map Char.toNat → xs = ys := by
      intro xs
      induction xs with
      | nil =>
        intro ys h
        cases ys with
        | nil => rfl
        | cons _ _ => cases h
      | cons x xs ih =>
        intro ys h
        cases ys with
        | nil => cases h
        | cons y ys =>
          rw [List.map_cons, List.map_cons] at h
          injection h with h1 h2
          have : x = y := by
            apply Char.ext
            exact UInt32.toNat_inj.mp h1
          rw [this, ih ys h2]
    have := key _ _ h1
    exact String.toList_inj.mp this
  · intro h
    rw [h]
theorem at0 {α : Type} (f : α → U) (x : α) (ls : List α) : atI ((x :: ls).map f) 0 = some (f x) := by
  rw [atI_map]
  have : atI (x :: ls) ((0 : Nat) : Int) = (x :: ls)[0]? := atI_nat _ _
  rw [show (0 : Int) = ((0 : Nat) : Int) from rfl, this]
  rfl
theorem szl : sizeLine = 16777216 := rfl
end VV
set_option Elab.async false
set_option linter.all false
set_option maxRecDepth 100000
/-! more operations -/
namespace VV
open PySem L2 DD
/-! ### repr -/
def reprLU : U → Option Str
  | .int i => if i.natAbs.log2 < 1920 then some (toString i) else none
  | .str x => if (reprText x).length ≤ sizeLine then some (reprText x) else none
  | .bl b => some (if b = true then "True" else "False")
  | .non => some "None"
  | _ => none
def uReprA : List U → Option U := fun as => match as with
  | [x] => match reprLU x with
    | some s => some (.str s)
    | none => uRepr [x]
  | _ => none
theorem reprL_ok {h : IH} {G : Nat → Prop} {u : U} {d : D} (r : RF h G u d) : reprL d = reprLU u := by cases r <;> rfl
theorem od_reprA : OdN pyReprA uReprA := fun h G us ds r hb rs e => by
  unfold uReprA at e
  split at e
  · rename_i x
    have rs0 := rs
    cases rs with
    | cons a b => cases b with
      | nil =>
        split at e
        · rename_i s z
          cases e
          exact same (by simp only [pyReprA, reprL_ok a, z]) (.str _)
        · rename_i z
          obtain ⟨e', q, z1, z2⟩ := od_repr h G _ _ r hb rs0 e
          exact ⟨e', q, by simp only [pyReprA, reprL_ok a, z]; exact z1, z2⟩
  · cases e
theorem fl_reprA : FlN uReprA := fun us r e => by
  unfold uReprA at e
  split at e
  · split at e
    · cases e
      rfl
    · exact fl_repr _ _ e
  · cases e
/-! ### methods -/
def vMeth (T : String) (g : U → List U → Option U) (o : VE) (r : VA) : VE := fun e => (o e).bind fun u e1 => if tyU u = some T then (r e1).bind fun us e2 => ofO (g u us) e2 else .stk
def OdM (f : D → List D → IH → Res D) (g : U → List U → Option U) : Prop := ∀ h (G : Nat → Prop) u d us ds r, (∀ n, G n → n < h.length) → RF h G u d → RFs h G us ds → g u us = some r → ∃ e q, f d ds h = .val e (h ++ q) ∧ RF (h ++ q) (Nw h q G) r e
def OoM (k : Nat) (f : D → List D → IH → Res D) (g : U → List U → Option U) : Prop := ∀ h (G : Nat → Prop) u d us ds r, (∀ n, G n → n < h.length) → RF h G u d → RFs h G us ds → g u us = some r → ∃ e q Sr, f d ds h = .val e (h ++ q) ∧ RV (h ++ q) G k Sr r e ∧ Nx h q Sr
def FlM (g : U → List U → Option U) : Prop := ∀ u us r, g u us = some r → flat r = true
section
variable {dp : Nat → Nat} {io : List Nat} {T : String} {ma : ME} {va : VE} {mr : MA} {vr : VA} {f : D → List D → IH → Res D} {g : U → List U → Option U}
theorem meth_go {md : Md} {lo : Nat} {R2 : (Nat → Prop) → (Nat → List Nat) → IH → List Nat → U → D → Prop} {F : Nat → Prop} {S : Nat → List Nat} {h : IH} {ve : UE} {env : En} (ha : SE dp io md ma va) (hr : SA dp io md mr vr) (gd : Gd dp F S h ve env)
    (q : ∀ x a us ds F' S' h' ve' Sr Tr, EP dp io F S h ve env F' S' h' ve' → RM io F' S' h' Sr x a md → RA io md F' S' h' Tr us ds → PoE lo dp io F' S' h' ve' env R2 (ofO (g x us) ve') (f a ds h')) :
    PoE lo dp io F S h ve env R2 (vMeth T g va vr ve) (mMeth T f ma mr env h) :=
  (ha F S h ve env gd).bind fun x a F1 S1 h1 ve1 Sr e1 t1 r1 => by
    by_cases ht : tyU x = some T
    · rw [if_pos ht, if_pos (tyU_ok (r1.rf e1.gd t1) ht)]
      exact (hr F1 S1 h1 ve1 env e1.gd).bind fun us ds F2 S2 h2 ve2 Tr e2 t2 r2 => q x a us ds F2 S2 h2 ve2 Sr Tr (e1.trans e2) (RM.keep e1.gd e2 t1 r1) r2
    · rw [if_neg ht]
      trivial
theorem se_methL (od : OdM f g) (fl : FlM g) (ha : SE dp io .bor ma va) (hr : SA dp io .bor mr vr) : SE dp io .fl (mMeth T f ma mr) (vMeth T g va vr) := fun F S h ve env gd =>
  meth_go ha hr gd fun x a us ds F1 S1 h1 ve1 Sr Tr e1 r1 r2 => by
    cases z : g x us with
    | none => trivial
    | some u =>
      obtain ⟨e, q, z1, z2⟩ := od h1 _ x a us ds u (fun n y => y.1) r1.1 r2.1 z
      rw [z1]
      exact PoE.opfl e1.gd z2 (fl _ _ _ z)
theorem se_meth (od : OdM f g) (ha : SE dp io .fz ma va) (hr : SA dp io .fz mr vr) : SE dp io .fz (mMeth T f ma mr) (vMeth T g va vr) := fun F S h ve env gd =>
  meth_go ha hr gd fun x a us ds F1 S1 h1 ve1 Sr Tr e1 r1 r2 => by
    cases z : g x us with
    | none => trivial
    | some u =>
      obtain ⟨e, q, z1, z2⟩ := od h1 _ x a us ds u e1.gd.fb r1.1 r2.1 z
      rw [z1]
      exact PoE.opfz e1.gd z2
theorem se_methB (od : OdM f g) (ha : SE dp io .bor ma va) (hr : SA dp io .bor mr vr) : SE dp io .bor (mMeth T f ma mr) (vMeth T g va vr) := fun F S h ve env gd =>
  meth_go ha hr gd fun x a us ds F1 S1 h1 ve1 Sr Tr e1 r1 r2 => by
    cases z : g x us with
    | none => trivial
    | some u =>
      obtain ⟨e, q, z1, z2⟩ := od h1 _ x a us ds u (fun n y => y.1) r1.1 r2.1 z
      rw [z1]
      exact PoE.opbor e1.gd z2
theorem se_methO {k : Nat} (od : OoM k f g) (ha : SE dp io .fz ma va) (hr : SA dp io .fz mr vr) : SE dp io (.fr k) (mMeth T f ma mr) (vMeth T g va vr) := fun F S h ve env gd =>
  meth_go ha hr gd fun x a us ds F1 S1 h1 ve1 Sr Tr e1 r1 r2 => by
    cases z : g x us with
    | none => trivial
    | some u =>
      obtain ⟨e, q, T, z1, z2, z3⟩ := od h1 F1 x a us ds u e1.gd.fb r1.1 r2.1 z
      rw [z1]
      exact PoE.opfr e1.gd e1.hl z2 z3
end
def strsU : List U → Option (List Str) := mapO fun d => match d with
  | .str x => some x
  | _ => none
theorem strsU_ok {h : IH} {G : Nat → Prop} : ∀ {us : List U} {ds : List D} {ns : List Str}, RFs h G us ds → strsU us = some ns → strsD ds = some ns
  | _, _, _, .nil, e => e
  | _, _, _, .cons a b, e => by
    obtain ⟨x, xs, e1, e2, rfl⟩ := VV.mapO_cons e
    refine VV.mapO_cons' ?_ (strsU_ok b e2)
    cases a <;> first | exact e1 | cases e1
def uJoin : U → List U → Option U := fun a as => match a, as with
  | .str x, [y] => match seqTU y with
    | some ds => match strsU ds with
      | some ys => if (ys.map (·.length)).sum + ys.length * x.length ≤ 16777216 then some (.str (Txt.join x ys)) else none
      | none => none
    | none => none
  | _, _ => none
theorem od_join : OdM pyJoin uJoin := fun h G u d us ds r hb a rs e => by
  unfold uJoin at e
  split at e
  · rename_i x y
    cases a with
    | str =>
      cases rs with
      | cons a b => cases b with
        | nil =>
          split at e
          · rename_i vs z
            obtain ⟨es, z1, z2⟩ := seqTU_ok a z
            split at e
            · rename_i ys z3
              split at e
              · rename_i hl
                cases e
                exact same (by simp only [pyJoin, z1, strsU_ok z2 z3, if_pos hl]) (.str _)
              · cases e
            · cases e
          · cases e
  · cases e
theorem fl_join : FlM uJoin := fun u us r e => by
  unfold uJoin at e
  split at e
  · split at e
    · split at e
      · split at e <;> cases e
        rfl
      · cases e
    · cases e
  · cases e
def uStarts : U → List U → Option U := fun a as => match a, as with
  | .str x, [.str y] => some (.bl (Txt.startswith x y))
  | .str x, [.str y, .int i] => some (.bl (Txt.startswith3 x y i))
  | _, _ => none
theorem od_starts : OdM pyStarts uStarts := fun h G u d us ds r hb a rs e => by
  unfold uStarts at e
  split at e
  · cases e
    cases a
    cases rs with
    | cons a b =>
      cases b
      cases a
      exact same rfl (.bl _)
  · cases e
    cases a
    cases rs with
    | cons a b =>
      cases b with
      | cons b c =>
        cases c
        cases a
        cases b
        exact same rfl (.bl _)
  · cases e
theorem fl_starts : FlM uStarts := fun u us r e => by
  unfold uStarts at e
  split at e <;> cases e <;> rfl
def uSIndex : U → List U → Option U := fun a as => match a, as with
  | .str x, [.str y] => match Builtin.Str.occurrences x y 0 x.length 1 with
    | i :: _ => some (.int (i : Nat))
    | [] => none
  | _, _ => none
theorem od_sindex : OdM pySIndex uSIndex := fun h G u d us ds r hb a rs e => by
  unfold uSIndex at e
  split at e
  · cases a
    cases rs with
    | cons a b =>
      cases b
      cases a
      split at e
      · rename_i z
        cases e
        exact same (by simp only [pySIndex, z]) (.int _)
      · cases e
  · cases e
theorem fl_sindex : FlM uSIndex := fun u us r e => by
  unfold uSIndex at e
  split at e
  · split at e <;> cases e
    rfl
  · cases e
def uCount : U → List U → Option U := fun a as => match a, as with
  | .str x, [.str y] => some (.int (Txt.count x y))
  | _, _ => none
theorem od_count : OdM pyCount uCount := fun h G u d us ds r hb a rs e => by
  unfold uCount at e
  split at e
  · cases e
    cases a
    cases rs with
    | cons a b =>
      cases b
      cases a
      exact same rfl (.int _)
  · cases e
theorem fl_count : FlM uCount := fun u us r e => by
  unfold uCount at e
  split at e <;> cases e <;> rfl
def uSplit : U → List U → Option U := fun a as => match a, as with
  | .str x, [.str y] => if (y.length == 0) = false ∧ x.length + 2 ≤ sizeLine then some (.lst ((Txt.split x y).map U.str)) else none
  | _, _ => none
theorem strs_rf {h : IH} {F : Nat → Prop} : ∀ ys : List Str, RFs h F (ys.map U.str) (ys.map D.str)
  | [] => .nil
  | n :: ns => .cons (.str n) (strs_rf ns)
theorem od_split : OdM pySplit uSplit := fun h G u d us ds r hb a rs e => by
  unfold uSplit at e
  split at e
  · split at e
    · rename_i z
      cases e
      cases a
      cases rs with
      | cons a b =>
        cases b
        cases a
        exact ⟨_, _, by simp only [pySplit, if_pos z], newL hb (strs_rf _)⟩
    · cases e
  · cases e
theorem oo_split : OoM 1 pySplit uSplit := fun h G u d us ds r hb a rs e => by
  unfold uSplit at e
  split at e
  · split at e
    · rename_i z
      cases e
      cases a
      cases rs with
      | cons a b =>
        cases b
        cases a
        exact ⟨_, _, _, by simp only [pySplit, if_pos z], newO hb (strs_rf _)⟩
    · cases e
  · cases e
/-! ### extend: the other list is frozen -/
def uExtend (w : U) (as : List U) : Option (U × U) := match w, as with
  | .lst us, [.lst vs] => if us.length + vs.length ≤ sizeLine then some (.lst (us ++ vs), .non) else none
  | _, _ => none
theorem mo_extend : Mo 0 "list" pyExtend uExtend := fun h F Sw Sa w d as das w' r fb rw ra nd nf e => by
  unfold uExtend at e
  split at e
  · rename_i us vs
    split at e
    · rename_i hl
      cases e
      cases rw with
      | ref hn rs =>
        rename_i n S ds
        obtain ⟨rs', hS1⟩ := RVs.rf0 rs
        obtain ⟨ra', hS2⟩ := RVs.rf0 ra
        subst hS1 hS2
        clear ra
        clear rs
        cases ra' with
        | cons a b =>
          cases b
          cases a with
          | ref fm hm rm =>
            rename_i m es
            have hne : m ≠ n := fun z => nf n (by simp) (by rw [← z]; exact fm)
            have hF : ∀ k, F k → (h.set n (.lst (ds ++ es)))[k]? = h[k]? := fun k x => set_get fun z => nf n (by simp) (by rw [← z]; exact x)
            refine ⟨n, h.set n (.lst (ds ++ es)), .non, [n], ?_, List.length_set, fun m hm => set_get hm, by simp, RV.ref (set_same hn) ((rs'.append rm).mono (fun _ x => x) hF).rv0, by simp, fun m hm => .inl hm, .non⟩
            simp only [pyExtend, lstAt_of hn, lstAt_of hm, ← rs'.length, ← rm.length, if_pos hl]
    · cases e
  · cases e
/-! ### abs, str -/
def uAbs : List U → Option U := fun as => match as with
  | [.int i] => some (.int (if i < 0 then -i else i))
  | _ => none
theorem od_abs : OdN pyAbs uAbs := fun h G us ds r hb rs e => by
  unfold uAbs at e
  split at e
  · cases e
    cases rs with
    | cons a b =>
      cases b
      cases a
      exact same rfl (.int _)
  · cases e
theorem fl_abs : FlN uAbs := fun us r e => by
  unfold uAbs at e
  split at e <;> cases e <;> rfl
def uStr : List U → Option U := fun as => match as with
  | [.int i] => if i.natAbs.log2 < 1920 then some (.str (toString i)) else none
  | [.str x] => some (.str x)
  | _ => none
theorem od_str : OdN DD.pyStr uStr := fun h G us ds r hb rs e => by
  unfold uStr at e
  split at e
  · split at e
    · rename_i z
      cases e
      cases rs with
      | cons a b =>
        cases b
        cases a
        exact same (by simp only [DD.pyStr, if_pos z]) (.str _)
    · cases e
  · cases e
    cases rs with
    | cons a b =>
      cases b
      cases a
      exact same rfl (.str _)
  · cases e
theorem fl_str : FlN uStr := fun us r e => by
  unfold uStr at e
  split at e
  · split at e <;> cases e
    rfl
  · cases e
    rfl
  · cases e
end VV

set_option Elab.async false
set_option linter.all false
set_option maxRecDepth 100000
/-! a dict that takes slots over, handed out -/
namespace VV
open PySem L2 DD
section
variable (h : IH) (F : Nat → Prop) (S : Nat → List Nat) (k : Nat)
/-- values, some of them new (their cells), some of them what slots hold: cells A in turn -/
inductive RVt : List Nat → List Nat → List Nat → List U → List D → Prop
  | nil : RVt [] [] [] [] []
  | new {T A Sr B : List Nat} {u : U} {d : D} {us : List U} {ds : List D} : RV h F k B u d → RVt T A Sr us ds → RVt T (B ++ A) (B ++ Sr) (u :: us) (d :: ds)
  | old {T A Sr : List Nat} {u : U} {d : D} {us : List U} {ds : List D} (i : Nat) : RV h F k (S i) u d → RVt T A Sr us ds → RVt (i :: T) (S i ++ A) Sr (u :: us) (d :: ds)
end
def RPt (k : Nat) (T : List Nat) : (Nat → Prop) → (Nat → List Nat) → IH → List Nat → List (U × U) → List (D × D) → Prop := fun F S h Sr us ds => RFs h F (us.map (·.1)) (ds.map (·.1)) ∧ ∃ A, RVt h F S k T A Sr (us.map (·.2)) (ds.map (·.2))
def SPt (dp : Nat → Nat) (io : List Nat) (k : Nat) (T : List Nat) (m : MP) (v : VP) : Prop := ∀ F S h ve env, Gd dp F S h ve env → PoE h.length dp io F S h ve env (RPt k T) (v ve) (m env h)
section
variable {dp : Nat → Nat} {io : List Nat} {k : Nat} {T : List Nat} {ma mb : ME} {va vb : VE} {mp : MP} {vp : VP}
theorem RVt.length {h : IH} {F : Nat → Prop} {S : Nat → List Nat} : ∀ {T A Sr : List Nat} {us : List U} {ds : List D}, RVt h F S k T A Sr us ds → us.length = ds.length
  | _, _, _, _, _, .nil => rfl
  | _, _, _, _, _, .new _ b => by rw [List.length_cons, List.length_cons, b.length]
  | _, _, _, _, _, .old _ _ b => by rw [List.length_cons, List.length_cons, b.length]
theorem RVt.rvs {h : IH} {F : Nat → Prop} {S : Nat → List Nat} : ∀ {T A Sr : List Nat} {us : List U} {ds : List D}, RVt h F S k T A Sr us ds → RVs h F k A us ds
  | _, _, _, _, _, .nil => .nil
  | _, _, _, _, _, .new a b => .cons a b.rvs
  | _, _, _, _, _, .old _ a b => .cons a b.rvs
theorem RVt.mem {h : IH} {F : Nat → Prop} {S : Nat → List Nat} : ∀ {T A Sr : List Nat} {us : List U} {ds : List D}, RVt h F S k T A Sr us ds → ∀ n ∈ A, n ∈ Sr ∨ ∃ i ∈ T, n ∈ S i
  | _, _, _, _, _, .nil, n, hn => by cases hn
  | _, _, _, _, _, .new a b, n, hn => by
    rcases List.mem_append.mp hn with hn | hn
    · exact .inl (List.mem_append_left _ hn)
    · exact (b.mem n hn).imp (List.mem_append_right _) id
  | _, _, _, _, _, .old i a b, n, hn => by
    rcases List.mem_append.mp hn with hn | hn
    · exact .inr ⟨i, List.mem_cons_self, hn⟩
    · exact (b.mem n hn).imp id fun ⟨j, q1, q2⟩ => ⟨j, List.mem_cons_of_mem _ q1, q2⟩
theorem RVt.nodup {h : IH} {F : Nat → Prop} {S : Nat → List Nat} (nd : ∀ i, (S i).Nodup) (dj : ∀ i j n, n ∈ S i → n ∈ S j → i = j) : ∀ {T A Sr : List Nat} {us : List U} {ds : List D}, RVt h F S k T A Sr us ds → T.Nodup → Sr.Nodup → (∀ n ∈ Sr, ∀ i, n ∉ S i) → A.Nodup
  | _, _, _, _, _, .nil, _, _, _ => List.nodup_nil
  | _, _, _, _, _, .new a b, ht, hs, hn => by
    rw [List.nodup_append] at hs ⊢
    refine ⟨hs.1, b.nodup nd dj ht hs.2.1 fun n q => hn n (List.mem_append_right _ q), fun x hx y hy e => ?_⟩
    subst e
    rcases b.mem x hy with q | ⟨i, _, q⟩
    · exact hs.2.2 x hx x q rfl
    · exact hn x (List.mem_append_left _ hx) i q
  | _, _, _, _, _, .old i a b, ht, hs, hn => by
    rw [List.nodup_cons] at ht
    rw [List.nodup_append]
    refine ⟨nd i, b.nodup nd dj ht.2 hs hn, fun x hx y hy e => ?_⟩
    subst e
    rcases b.mem x hy with q | ⟨j, q1, q⟩
    · exact hn x q i hx
    · rw [dj i j x hx q] at ht
      exact ht.1 q1
theorem spt_nil : SPt dp io k [] pNil vpNil := fun F S h ve env g => PoE.val (R := RPt k []) (Sr := []) g .nil ⟨.nil, [], .nil⟩
theorem spt_cons (ha : SE dp io .fz ma va) (hb : SE dp io (.fr k) mb vb) (hp : SPt dp io k T mp vp) : SPt dp io k T (pCons ma mb mp) (vpCons va vb vp) := fun F S h ve env gd =>
  (ha F S h ve env gd).bind fun x a F1 S1 h1 ve1 Sr e1 t1 r1 => (hb F1 S1 h1 ve1 env e1.gd).bind fun y b F2 S2 h2 ve2 Tr e2 t2 r2 => (hp F2 S2 h2 ve2 env e2.gd).bind fun qs rs F3 S3 h3 ve3 Vr e3 t3 r3 => by
    have k1 := RM.keep (md := .fz) e1.gd (e2.trans e3) t1 r1
    have k2 := RM.keep (md := .fr k) e2.gd e3 t2 r2
    obtain ⟨r3a, A, r3b⟩ := r3
    exact PoE.val (R := RPt k T) (Sr := Tr ++ Vr) e3.gd (((t2.keep e3).low e1.hl).append (t3.low (Nat.le_trans e1.hl e2.hl)) fun n h1 h2 => absurd (t2.bd n h1) (Nat.not_lt.mpr (t3.lo n h2))) ⟨.cons k1.1 r3a, _, .new k2 r3b⟩
theorem spt_take (i : Nat) (hi : dp i = k) (hio : i ∉ io) (ha : SE dp io .fz ma va) (hp : SPt dp io k T mp vp) : SPt dp io k (i :: T) (pCons ma (mVar i) mp) (vpCons va (vVar i) vp) := fun F S h ve env gd =>
  (ha F S h ve env gd).bind fun x a F1 S1 h1 ve1 Sr e1 t1 r1 => by
    unfold vVar mVar
    cases e : ve1[i]? with
    | none => trivial
    | some o =>
      cases o with
      | none => trivial
      | some u =>
        obtain ⟨d, q1, q2⟩ := e1.gd.get i u e
        rw [q1]
        have z := (hp F1 S1 h1 ve1 env e1.gd).bind (lo' := h.length) (R2 := RPt k (i :: T)) (f := fun ps e3 => .val ((x, u) :: ps) e3) (g := fun ps h3 => .val ((a, d) :: ps) h3) fun qs rs F3 S3 h3 ve3 Vr e3 t3 r3 => by
          have k1 := RM.keep (md := .fz) e1.gd e3 t1 r1
          obtain ⟨r3a, A, r3b⟩ := r3
          have hS := (e3.st i hio).1
          have hu : ve3[i]? = some (some u) := by rw [(e3.st i hio).2]; exact e
          obtain ⟨d3, w1, w2⟩ := e3.gd.get i u hu
          rw [q1] at w1
          cases w1
          rw [hi] at w2
          exact PoE.val (R := RPt k (i :: T)) (Sr := Vr) e3.gd (t3.low e1.hl) ⟨.cons k1.1 r3a, _, .old i w2 r3b⟩
        exact z
/-- slots are unset -/
theorem Gd.unsetAll {F : Nat → Prop} {S : Nat → List Nat} {h : IH} {ve : UE} {env : En} (g : Gd dp F S h ve env) (T : List Nat) : Gd dp F (fun i => if i ∈ T then [] else S i) h (wipeU ve T) env := by
  refine ⟨by rw [wipeU_len]; exact g.len, fun i u e => ?_, fun i => ?_, fun i j n hi hj => ?_, fun i n hi => ?_, fun i n hi => ?_, g.fb⟩
  · rw [wipeU_get] at e
    split at e
    · split at e <;> cases e
    · rename_i z
      rw [if_neg z]
      exact g.get i u e
  · split
    · exact List.nodup_nil
    · exact g.nd i
  · split at hi
    · cases hi
    · split at hj
      · cases hj
      · exact g.dj i j n hi hj
  · split at hi
    · cases hi
    · exact g.nf i n hi
  · split at hi
    · cases hi
    · exact g.bd i n hi
def vRetD (T : List Nat) (r : VP) : VS := fun e => (r e).bindS fun ps e1 => match keysU ps with
  | some kvs => if kvs.length ≤ 15 ∧ (kvs.map (·.1)).Nodup then .rt (.dic kvs) (wipeU e1 T) else .stk
  | none => .stk
theorem bind_bindS' {α β : Type} (r : Res α) (f : α → IH → Res β) (env : En) (g : β → IH → Out) : (r.bind f).bindS env g = r.bindS env fun a h => (f a h).bindS env g := by
  cases r <;> rfl
theorem ss_retD {ps : List Nat} {dl dp' : Nat → Nat} (pd : Pd ps dp) (hp : SPt dp io k T mp vp) (hT : T.Nodup) (hTp : ∀ i ∈ T, ps.length ≤ i) : SS ps (.fr (k + 1)) dl dp dp' (sRet (mDic mp)) (vRetD T vp) := fun b0 F S h ve env g lw hb => by
  have e : sRet (mDic mp) env h = (mp env h).bindS env fun ps h1 => ((match keysD ps with
      | some kvs => if kvs.length ≤ 15 then Res.val (D.ref h1.length) (h1 ++ [.dic (mergeD [] kvs)]) else .stk
      | none => .stk) : Res D).bindS env fun d h1 => .rt d h1 := by
    unfold sRet mDic
    rw [bind_bindS'] <;> rfl
  rw [e]
  refine PoE.bindS0 pd lw hb (hp F S h ve env g) fun qs rs F1 S1 h1 ve1 Sr e1 t1 r1 s1 => ?_
  cases z : keysU qs with
  | none => trivial
  | some ks =>
    dsimp only
    split
    · rename_i hc
      obtain ⟨r1a, A, r1b⟩ := r1
      have l : qs.length = rs.length := by
        have := r1b.length
        rwa [List.length_map, List.length_map] at this
      obtain ⟨kvs, q1, q2, q3, q4⟩ := keys_ok (Sr := Sr) r1a z l
      have hl : kvs.length ≤ 15 := by
        have := congrArg List.length q2
        rw [List.length_map, List.length_map] at this
        omega
      have nd : (kvs.map (·.1)).Nodup := by
        rw [← q2]
        exact hc.2
      simp only [q1, if_pos hl]
      rw [merge_nodup kvs [] (by simpa using nd), List.nil_append]
      have rv : RVs h1 F1 k A (ks.map (·.2)) (kvs.map (·.2)) := by
        rw [q3, q4]
        exact r1b.rvs
      have hA := r1b.mem
      have gu := e1.gd.unsetAll T
      have g3 := gu.grow [.dic kvs] (F' := F1) (fun _ x => x) (fun _ x => .inl x)
      have s3 : SP ps b0 dp F S h env F1 (fun i => if i ∈ T then [] else S1 i) (h1 ++ [.dic kvs]) (wipeU ve1 T) env := by
        refine ⟨g3, fun i hi n hn => ?_, s1.ff, s1.fn, Nat.le_trans s1.hl (by rw [List.length_append]; omega), fun n hn hs => ?_, fun i n hn => ?_, s1.ro⟩
        · split at hn
          · cases hn
          · exact s1.lw i hi n hn
        · rw [List.getElem?_append_left (Nat.lt_of_lt_of_le hn s1.hl)]
          exact s1.fr n hn hs
        · split at hn
          · cases hn
          · exact s1.sn i n hn
      have hAbd : ∀ n ∈ A, n < h1.length := fun n hn => (hA n hn).elim (t1.bd n) fun ⟨i, _, q⟩ => e1.gd.bd i n q
      have hAlo : ∀ n ∈ A, b0 ≤ n := fun n hn => (hA n hn).elim (fun q => Nat.le_trans hb (t1.lo n q)) fun ⟨i, q0, q⟩ => s1.lw i (hTp i q0) n q
      refine ⟨_, env, _, _, _, h1.length :: A, rfl, s3.weak pd, ⟨?_, fun n hn => ?_, fun n hn => ?_, fun n hn x => ?_, fun n hn i x => ?_⟩, ?_⟩
      · refine List.nodup_cons.mpr ⟨fun hm => absurd (hAbd _ hm) (Nat.lt_irrefl _), r1b.nodup e1.gd.nd e1.gd.dj hT t1.nd t1.ns⟩
      · rcases List.mem_cons.mp hn with rfl | hn
        · exact Nat.le_trans hb e1.hl
        · exact hAlo n hn
      · rw [List.length_append, List.length_singleton]
        rcases List.mem_cons.mp hn with rfl | hn
        · omega
        · have := hAbd n hn
          omega
      · rcases x with x | ⟨i, _, x⟩
        · rcases List.mem_cons.mp hn with rfl | hn
          · exact absurd (e1.gd.fb _ x) (Nat.lt_irrefl _)
          · rcases hA n hn with q | ⟨i, _, q⟩
            · exact t1.nf n q x
            · exact e1.gd.nf i n q x
        · split at x
          · cases x
          · rename_i hiT
            rcases List.mem_cons.mp hn with rfl | hn
            · exact absurd (e1.gd.bd _ _ x) (Nat.lt_irrefl _)
            · rcases hA n hn with q | ⟨j, qj, q⟩
              · exact t1.ns n q i x
              · exact hiT (by rw [← e1.gd.dj j i n q x]; exact qj)
      · split at x
        · cases x
        · split at x
          · cases x
          · rename_i hiT
            rcases List.mem_cons.mp hn with rfl | hn
            · exact absurd (e1.gd.bd _ _ x) (Nat.lt_irrefl _)
            · rcases hA n hn with q | ⟨j, qj, q⟩
              · exact t1.ns n q i x
              · exact hiT (by rw [← e1.gd.dj j i n q x]; exact qj)
      · refine RV.dic (last_new h1 _) ⟨q2, nd⟩ (RVs.mono (fun n x => .inl x) (fun n x => List.getElem?_append_left (e1.gd.fb n x)) rv fun n hn => List.getElem?_append_left (hAbd n hn))
    · trivial
end
end VV
set_option Elab.async false
set_option linter.all false
set_option maxRecDepth 100000
/-! the least of pairs -/
namespace VV
open PySem L2 DD
theorem bestU_first (f : Int → Int) (lo : Int) (n : Nat) : ∃ b, bestU PySem.W.minD ((List.range (n + 1)).map fun i : Nat => U.tup [.int (f (lo + (i : Int))), .int (lo + (i : Int))]) = some (.tup [.int (f b), .int b]) ∧ IsFirst f lo (lo + n) b := by
  obtain ⟨b, e, hb⟩ := minD_first f lo n
  refine ⟨b, ?_, hb⟩
  unfold bestU
  have e1 : mapO (toPyU 12) ((List.range (n + 1)).map fun i : Nat => U.tup [.int (f (lo + (i : Int))), .int (lo + (i : Int))]) = some ((List.range (n + 1)).map fun i : Nat => prD (f (lo + (i : Int))) (lo + (i : Int))) := mapO_map fun x _ => rfl
  have e2 : (List.range (n + 1)).map (fun i : Nat => prD (f (lo + (i : Int))) (lo + (i : Int))) = prD (f lo) lo :: (List.range n).map fun i : Nat => prD (f (lo + 1 + (i : Int))) (lo + 1 + (i : Int)) := by
    rw [List.range_succ_eq_map, List.map_cons, List.map_map]
    congr 1
    · simp
    · apply List.map_congr_left
      intro i _
      have : lo + ((i + 1 : Nat) : Int) = lo + 1 + (i : Int) := by omega
      show prD (f (lo + ((i + 1 : Nat) : Int))) (lo + ((i + 1 : Nat) : Int)) = _
      rw [this]
  rw [e1]
  have a1 := alikeB_pairs (fun i : Nat => f (lo + (i : Int))) (fun i : Nat => lo + (i : Int)) (List.range (n + 1))
  have a2 := canLay_pairs (fun i : Nat => f (lo + (i : Int))) (fun i : Nat => lo + (i : Int)) (List.range (n + 1))
  have a3 := depth_pairs (fun i : Nat => f (lo + (i : Int))) (fun i : Nat => lo + (i : Int)) (List.range (n + 1))
  rw [e2] at a1 a2 a3
  rw [e2]
  simp only [a1, a2, a3, decide_true, Bool.and_self, if_true, e]
  rfl
theorem at1 (a b : U) : atI [a, b] 1 = some b := rfl
/-- .. as a min over a range -/
theorem uMin_first (f : Int → Int) (lo hi : Int) (h : lo ≤ hi) : ∃ b, bestU PySem.W.minD ((List.range (hi + 1 - lo).toNat).map fun i : Nat => U.tup [.int (f (lo + (i : Int))), .int (lo + (i : Int))]) = some (.tup [.int (f b), .int b]) ∧ IsFirst f lo hi b := by
  obtain ⟨n, hn⟩ : ∃ n : Nat, (hi + 1 - lo).toNat = n + 1 := ⟨(hi - lo).toNat, by omega⟩
  obtain ⟨b, e, hb⟩ := bestU_first f lo n
  rw [hn]
  refine ⟨b, e, ?_⟩
  rw [show hi = lo + (n : Int) by omega]
  exact hb
end VV
set_option Elab.async false
set_option linter.all false
set_option maxRecDepth 100000
set_option maxHeartbeats 4000000
namespace LW
open PySem PySem.Spec L2 PyProof.Rows DD
/-! ### the text -/
def top (i : Nat) : Stmt := PySem.Challenge.pw_faxhouse_k43_whole_tellings_read.main.body.getD i (.Pass ⟨0, 0, 0, 0⟩)
structure Gs (mg : MG) (K : PySem.W.Frag) : Prop where
  z_all : mg "all" = none
  z_bool : mg "bool" = none
  z_enumerate : mg "enumerate" = none
  z_int : mg "int" = none
  z_isinstance : mg "isinstance" = none
  z_len : mg "len" = none
  z_list : mg "list" = none
  z_min : mg "min" = none
  z_range : mg "range" = none
  z_repr : mg "repr" = none
  z_str : mg "str" = none
  z_sum : mg "sum" = none
  z_tuple : mg "tuple" = none
  c_WHITE : ∃ t, mg "WHITE" = some (.str "." t)
  c_BLACK : ∃ t, mg "BLACK" = some (.str "#" t)
  c_MOST_WIDTH : ∃ t, mg "MOST_WIDTH" = some (.int 40 t)
  c_MOST_MODES : ∃ t, mg "MOST_MODES" = some (.int 80 t)
  c_MOST_STAY : ∃ t, mg "MOST_STAY" = some (.int 3 t)
  c_STAY : ∃ t, mg "STAY" = some (.str "stay" t)
  c_PASS : ∃ t, mg "PASS" = some (.str "pass" t)
  c_RUNS : ∃ t, mg "RUNS" = some (.str "runs" t)
  c_FULL : ∃ t, mg "FULL" = some (.str "full" t)
/-! _law_begun -/
abbrev s_law_begun : Stmt := top 30
abbrev N_law_begun : List Str := ["_law_script", "_law_great", "_law_cell"]
theorem sc_law_begun : FnScope N_law_begun ["_law_script"] (defScope s_law_begun) := ⟨rfl, rfl, rfl, by decide +kernel, rfl, by decide +kernel, by decide +kernel⟩
def E_law_begun_1 : ME := mVar 2
def T_law_begun_1 : MT := mTst (mBin pyGe (mVar 2) (mBin pyPow (mC (.int 10)) (mC (.int 18))))
def b_law_begun : MS := sSeq (sAsg (mLc (mIt (mVar 0)) (gN 2) (T_law_begun_1) (E_law_begun_1) [2]) (gN 1))
    (sRet (mDic (pCons (mC (.str "cells")) (mCall pyList (mCons (mVar 0) (mNil))) (pCons (mC (.str "great")) (mVar 1) (pCons (mC (.str "spot")) (mC (.int 0)) (pNil))))))
def m_law_begun : List D → IH → Res D := mBody 3 b_law_begun
theorem ok_law_begun {P : Program} {w : World} {K : PySem.W.Frag} {mg : MG} {base : Heap} {f : Addr} {fd : FuncData} (G : Gs mg K) (F : FunD K "_law_begun" "_law_begun" (defArgs s_law_begun) (defBody s_law_begun) (defScope s_law_begun) [] [] f fd) (hm : mg "_law_begun" = some (.ref f))
    : Fn P w K mg base 1 "_law_begun" m_law_begun 1 := mk_fn F sc_law_begun hm (fun _ _ _ _ _ _ us hl => match us, hl with | [_], _ => rfl) fun cv A out s H E C =>
  qss_cons (qs_setLc 1 [("_law_cell", 2)] C (qi_val (qe_var 0)) (blkOk_by (own := [("_law_cell", 2)]) (N := N_law_begun) (sc := defScope s_law_begun) (by decide +kernel)) (fun _ _ _ _ _ C => qx_name 2 C.nd) (fun _ _ _ _ _ C => qts_one (qt_cmp op_ge sd_cmp (qe_var 2) (qe_bin op_pow sd_pow (qe_int) (qe_int)) (nomark _))) (fun _ _ _ _ _ C => qe_var 2))
    (qss_one (qs_ret (qe_dic (qp_cons (qe_str) (qe_callT call_list_of sd_list G.z_list (by decide +kernel) (qa_cons (qe_var 0) (qa_nil))) (qp_cons (qe_str) (qe_var 1) (qp_cons (qe_str) (qe_int) (qp_nil)))))))
/-! _law_next -/
abbrev s_law_next : Stmt := top 31
abbrev N_law_next : List Str := ["_law_m", "_law_total", "_law_rest", "_law_k", "_law_cell", "_law_mixed"]
theorem sc_law_next : FnScope N_law_next ["_law_m", "_law_total"] (defScope s_law_next) := ⟨rfl, rfl, rfl, by decide +kernel, rfl, by decide +kernel, by decide +kernel⟩
def B_law_next_1 : MS := sAsg (mSl (mBin pyIx (mVar 0) (mC (.str "great"))) (moS (mC (.int 1))) (moN)) (gSubM (mVar 0) (mC (.str "great")))
def T_law_next_1 : MT := mAnd (mTst (mBin pyNe (mBin pyIx (mVar 0) (mC (.str "great"))) (mLst (mNil)))) (mTst (mBin pyEq (mBin pyIx (mBin pyIx (mVar 0) (mC (.str "great"))) (mC (.int 0))) (mC (.int 0))))
def b_law_next : MS := sSeq (whileM 100000 (T_law_next_1) (B_law_next_1))
    (sSeq (sIf (mTst (mBin pyNe (mBin pyIx (mVar 0) (mC (.str "great"))) (mLst (mNil)))) (sSeq (sAsg (mCall pyInt (mCons (mBin pyIx (mBin pyIx (mVar 0) (mC (.str "great"))) (mC (.int 0))) (mNil))) (gN 2))
    (sSeq (sAsg (mBin pyDiv (mVar 2) (mVar 1)) (gSubM (mBin pyIx (mVar 0) (mC (.str "great"))) (mC (.int 0))))
    (sRet (mBin pyMod (mVar 2) (mVar 1))))) (sNil))
    (sSeq (sAsg (mBin pyAdd (mBin pyIx (mVar 0) (mC (.str "spot"))) (mC (.int 1))) (gN 3))
    (sSeq (sAsg (mVar 3) (gSubM (mVar 0) (mC (.str "spot"))))
    (sSeq (sAsg (mIf (mTst (mBin pyNe (mBin pyIx (mVar 0) (mC (.str "cells"))) (mLst (mNil)))) (mBin pyIx (mBin pyIx (mVar 0) (mC (.str "cells"))) (mBin pyMod (mCall pyInt (mCons (mVar 3) (mNil))) (mCall pyLen (mCons (mBin pyIx (mVar 0) (mC (.str "cells"))) (mNil))))) (mC (.int 31))) (gN 4))
    (sSeq (sAsg (mBin pyMul (mCall pyInt (mCons (mBin pyAdd (mBin pyAdd (mBin pyMod (mCall pyInt (mCons (mVar 4) (mNil))) (mC (.int 2147483563))) (mBin pyMul (mC (.int 6037)) (mVar 3))) (mBin pyMul (mBin pyMul (mC (.int 41)) (mVar 3)) (mVar 3))) (mNil))) (mC (.int 40014))) (gN 5))
    (sSeq (sAsg (mBin pyMul (mCall pyInt (mCons (mBin pyAdd (mBin pyMod (mCall pyInt (mCons (mVar 5) (mNil))) (mC (.int 2147483563))) (mBin pyMul (mC (.int 88919)) (mVar 3))) (mNil))) (mC (.int 742938285))) (gN 5))
    (sRet (mBin pyMod (mCall pyInt (mCons (mBin pyDiv (mBin pyMod (mCall pyInt (mCons (mVar 5) (mNil))) (mC (.int 2147483549))) (mC (.int 17))) (mNil))) (mVar 1)))))))))
def m_law_next : List D → IH → Res D := mBody 6 b_law_next
theorem ok_law_next {P : Program} {w : World} {K : PySem.W.Frag} {mg : MG} {base : Heap} {f : Addr} {fd : FuncData} (G : Gs mg K) (F : FunD K "_law_next" "_law_next" (defArgs s_law_next) (defBody s_law_next) (defScope s_law_next) [] [] f fd) (hm : mg "_law_next" = some (.ref f))
    : Fn P w K mg base 1 "_law_next" m_law_next 2 := mk_fn F sc_law_next hm (fun _ _ _ _ _ _ us hl => match us, hl with | [_, _], _ => rfl) fun cv A out s H E C =>
  qss_cons (qs_while 100000 C (QW.qt (qw_and (qt_cmp (op_neA (units_of C)) sd_ne (qe_ix (ix_any C) sd_ix (qe_var 0) (qe_str) (fun _ _ => rfl)) (qe_lst (qa_nil)) (nomark _)) (qw_and1 (qt_cmp (op_eqA (units_of C)) sd_eq (qe_ix (ix_any C) sd_ix (qe_ix (ix_any C) sd_ix (qe_var 0) (qe_str) (fun _ _ => rfl)) (qe_int) (fun _ _ => rfl)) (qe_int) (nomark _))))) (qss_one (qs_asg (qe_slice (qe_ix (ix_any C) sd_ix (qe_var 0) (qe_str) (fun _ _ => rfl)) (qo_some (qe_int)) (qo_none)) (qg_sub C (qe_var 0) (qe_str)))))
    (qss_cons (qs_if (qt_cmp (op_neA (units_of C)) sd_ne (qe_ix (ix_any C) sd_ix (qe_var 0) (qe_str) (fun _ _ => rfl)) (qe_lst (qa_nil)) (nomark _)) (qss_cons (qs_set 2 C.nd (qe_callT call_int1 sd_int G.z_int (by decide +kernel) (qa_cons (qe_ix (ix_any C) sd_ix (qe_ix (ix_any C) sd_ix (qe_var 0) (qe_str) (fun _ _ => rfl)) (qe_int) (fun _ _ => rfl)) (qa_nil))))
    (qss_cons (qs_asg (qe_bin op_fdivW sd_div (qe_var 2) (qe_var 1)) (qg_sub C (qe_ix (ix_any C) sd_ix (qe_var 0) (qe_str) (fun _ _ => rfl)) (qe_int)))
    (qss_one (qs_ret (qe_bin op_mod sd_mod (qe_var 2) (qe_var 1)))))) (qss_nil))
    (qss_cons (qs_set 3 C.nd (qe_bin op_addD sd_add (qe_ix (ix_any C) sd_ix (qe_var 0) (qe_str) (fun _ _ => rfl)) (qe_int)))
    (qss_cons (qs_asg (qe_var 3) (qg_sub C (qe_var 0) (qe_str)))
    (qss_cons (qs_set 4 C.nd (qe_if (qt_cmp (op_neA (units_of C)) sd_ne (qe_ix (ix_any C) sd_ix (qe_var 0) (qe_str) (fun _ _ => rfl)) (qe_lst (qa_nil)) (nomark _)) (qe_ix (ix_any C) sd_ix (qe_ix (ix_any C) sd_ix (qe_var 0) (qe_str) (fun _ _ => rfl)) (qe_bin op_mod sd_mod (qe_callT call_int1 sd_int G.z_int (by decide +kernel) (qa_cons (qe_var 3) (qa_nil))) (qe_callB call_len sd_len G.z_len (by decide +kernel) (qa_cons (qe_ix (ix_any C) sd_ix (qe_var 0) (qe_str) (fun _ _ => rfl)) (qa_nil)))) (fun _ _ => rfl)) (qe_int)))
    (qss_cons (qs_set 5 C.nd (qe_bin op_mulD sd_mul (qe_callT call_int1 sd_int G.z_int (by decide +kernel) (qa_cons (qe_bin op_addD sd_add (qe_bin op_addD sd_add (qe_bin op_mod sd_mod (qe_callT call_int1 sd_int G.z_int (by decide +kernel) (qa_cons (qe_var 4) (qa_nil))) (qe_int)) (qe_bin op_mulD sd_mul (qe_int) (qe_var 3))) (qe_bin op_mulD sd_mul (qe_bin op_mulD sd_mul (qe_int) (qe_var 3)) (qe_var 3))) (qa_nil))) (qe_int)))
    (qss_cons (qs_set 5 C.nd (qe_bin op_mulD sd_mul (qe_callT call_int1 sd_int G.z_int (by decide +kernel) (qa_cons (qe_bin op_addD sd_add (qe_bin op_mod sd_mod (qe_callT call_int1 sd_int G.z_int (by decide +kernel) (qa_cons (qe_var 5) (qa_nil))) (qe_int)) (qe_bin op_mulD sd_mul (qe_int) (qe_var 3))) (qa_nil))) (qe_int)))
    (qss_one (qs_ret (qe_bin op_mod sd_mod (qe_callT call_int1 sd_int G.z_int (by decide +kernel) (qa_cons (qe_bin op_fdivW sd_div (qe_bin op_mod sd_mod (qe_callT call_int1 sd_int G.z_int (by decide +kernel) (qa_cons (qe_var 5) (qa_nil))) (qe_int)) (qe_int)) (qa_nil))) (qe_var 1))))))))))
/-! _law_of -/
abbrev s_law_of : Stmt := top 32
abbrev N_law_of : List Str := ["_law_m", "_law_some"]
theorem sc_law_of : FnScope N_law_of ["_law_m", "_law_some"] (defScope s_law_of) := ⟨rfl, rfl, rfl, by decide +kernel, rfl, by decide +kernel, by decide +kernel⟩
def b_law_of : MS := sRet (mBin pyIx (mVar 1) (mCall m_law_next (mCons (mVar 0) (mCons (mCall pyLen (mCons (mVar 1) (mNil))) (mNil)))))
def m_law_of : List D → IH → Res D := mBody 2 b_law_of
theorem ok_law_of {P : Program} {w : World} {K : PySem.W.Frag} {mg : MG} {base : Heap} {f : Addr} {fd : FuncData} (G : Gs mg K) (F : FunD K "_law_of" "_law_of" (defArgs s_law_of) (defBody s_law_of) (defScope s_law_of) [] [] f fd) (hm : mg "_law_of" = some (.ref f))
    (F_law_next : Fn P w K mg base 1 "_law_next" m_law_next 2)
    : Fn P w K mg base 2 "_law_of" m_law_of 2 := mk_fn F sc_law_of hm (fun _ _ _ _ _ _ us hl => match us, hl with | [_, _], _ => rfl) fun cv A out s H E C =>
  qss_one (qs_ret (qe_ix (ix_any C) sd_ix (qe_var 1) (qe_call C F_law_next (qa_cons (qe_var 0) (qa_cons (qe_callB call_len sd_len G.z_len (by decide +kernel) (qa_cons (qe_var 1) (qa_nil))) (qa_nil)))) (fun _ _ => rfl)))
/-! _law_row -/
abbrev s_law_row : Stmt := top 33
abbrev N_law_row : List Str := ["_law_m", "_law_wide", "_law_found", "_law_dot"]
theorem sc_law_row : FnScope N_law_row ["_law_m", "_law_wide"] (defScope s_law_row) := ⟨rfl, rfl, rfl, by decide +kernel, rfl, by decide +kernel, by decide +kernel⟩
def B_law_row_1 : MS := sSeq (sAsg (mBin pyAdd (mVar 2) (mBin pyMul (mVar 3) (mBin pyAdd (mC (.int 1)) (mCall m_law_next (mCons (mVar 0) (mCons (mCall m_law_of (mCons (mVar 0) (mCons (mLst (mCons (mC (.int 1)) (mCons (mC (.int 2)) (mCons (mC (.int 3)) (mCons (mC (.int 6)) (mNil)))))) (mNil)))) (mNil))))))) (gN 2))
    (sAsg (mIf (mTst (mBin pyEq (mVar 3) (mC (.str ".")))) (mC (.str "#")) (mC (.str "."))) (gN 3))
def T_law_row_1 : MT := mTst (mBin pyLt (mCall pyLen (mCons (mVar 2) (mNil))) (mVar 1))
def b_law_row : MS := sSeq (sPar 2 3 (mCons (mC (.str "")) (mCons (mCall m_law_of (mCons (mVar 0) (mCons (mC (.str ".#")) (mNil)))) (mNil))))
    (sSeq (whileM 100000 (T_law_row_1) (B_law_row_1))
    (sRet (mSl (mVar 2) (moN) (moS (mVar 1)))))
def m_law_row : List D → IH → Res D := mBody 4 b_law_row
theorem ok_law_row {P : Program} {w : World} {K : PySem.W.Frag} {mg : MG} {base : Heap} {f : Addr} {fd : FuncData} (G : Gs mg K) (F : FunD K "_law_row" "_law_row" (defArgs s_law_row) (defBody s_law_row) (defScope s_law_row) [] [] f fd) (hm : mg "_law_row" = some (.ref f))
    (F_law_of : Fn P w K mg base 2 "_law_of" m_law_of 2)
    (F_law_next : Fn P w K mg base 1 "_law_next" m_law_next 2)
    : Fn P w K mg base 3 "_law_row" m_law_row 2 := mk_fn F sc_law_row hm (fun _ _ _ _ _ _ us hl => match us, hl with | [_, _], _ => rfl) fun cv A out s H E C =>
  qss_cons (qs_par 2 3 C.calm C.nd (qa_cons (qe_str) (qa_cons (qe_call C F_law_of (qa_cons (qe_var 0) (qa_cons (qe_str) (qa_nil)))) (qa_nil))))
    (qss_cons (qs_while 100000 C (qt_cmp op_lt sd_cmp (qe_callB call_len sd_len G.z_len (by decide +kernel) (qa_cons (qe_var 2) (qa_nil))) (qe_var 1) (nomark _)) (qss_cons (qs_set 2 C.nd (qe_bin op_addD sd_add (qe_var 2) (qe_bin op_mulD sd_mul (qe_var 3) (qe_bin op_addD sd_add (qe_int) (qe_call C F_law_next (qa_cons (qe_var 0) (qa_cons (qe_call C F_law_of (qa_cons (qe_var 0) (qa_cons (qe_lst (qa_cons (qe_int) (qa_cons (qe_int) (qa_cons (qe_int) (qa_cons (qe_int) (qa_nil)))))) (qa_nil)))) (qa_nil))))))))
    (qss_one (qs_set 3 C.nd (qe_if (qt_cmp (op_eqA (units_of C)) sd_eq (qe_var 3) (qe_str) (nomark _)) (qe_str) (qe_str))))))
    (qss_one (qs_ret (qe_slice (qe_var 2) (qo_none) (qo_some (qe_var 1))))))
/-! _law_near_row -/
abbrev s_law_near_row : Stmt := top 34
abbrev N_law_near_row : List Str := ["_law_m", "_law_row_here", "_law_found", "_law_k", "_law_j"]
theorem sc_law_near_row : FnScope N_law_near_row ["_law_m", "_law_row_here"] (defScope s_law_near_row) := ⟨rfl, rfl, rfl, by decide +kernel, rfl, by decide +kernel, by decide +kernel⟩
def B_law_near_row_1 : MS := sSeq (sAsg (mCall m_law_next (mCons (mVar 0) (mCons (mCall pyLen (mCons (mVar 1) (mNil))) (mNil)))) (gN 4))
    (sAsg (mBin pyAdd (mBin pyAdd (mSl (mVar 2) (moN) (moS (mVar 4))) (mIf (mTst (mBin pyEq (mBin pyIx (mVar 2) (mVar 4)) (mC (.str ".")))) (mC (.str "#")) (mC (.str ".")))) (mSl (mVar 2) (moS (mBin pyAdd (mVar 4) (mC (.int 1)))) (moN))) (gN 2))
def b_law_near_row : MS := sSeq (sAsg (mVar 1) (gN 2))
    (sSeq (sFor (mRng1 (mCall m_law_next (mCons (mVar 0) (mCons (mC (.int 4)) (mNil))))) (gN 3) (B_law_near_row_1))
    (sRet (mVar 2)))
def m_law_near_row : List D → IH → Res D := mBody 5 b_law_near_row
theorem ok_law_near_row {P : Program} {w : World} {K : PySem.W.Frag} {mg : MG} {base : Heap} {f : Addr} {fd : FuncData} (G : Gs mg K) (F : FunD K "_law_near_row" "_law_near_row" (defArgs s_law_near_row) (defBody s_law_near_row) (defScope s_law_near_row) [] [] f fd) (hm : mg "_law_near_row" = some (.ref f))
    (F_law_next : Fn P w K mg base 1 "_law_next" m_law_next 2)
    : Fn P w K mg base 2 "_law_near_row" m_law_near_row 2 := mk_fn F sc_law_near_row hm (fun _ _ _ _ _ _ us hl => match us, hl with | [_, _], _ => rfl) fun cv A out s H E C =>
  qss_cons (qs_set 2 C.nd (qe_var 1))
    (qss_cons (qs_for C (qi_range1 G.z_range (qe_call C F_law_next (qa_cons (qe_var 0) (qa_cons (qe_int) (qa_nil))))) (qg_name 3 C.nd) (qss_cons (qs_set 4 C.nd (qe_call C F_law_next (qa_cons (qe_var 0) (qa_cons (qe_callB call_len sd_len G.z_len (by decide +kernel) (qa_cons (qe_var 1) (qa_nil))) (qa_nil)))))
    (qss_one (qs_set 2 C.nd (qe_bin op_addD sd_add (qe_bin op_addD sd_add (qe_slice (qe_var 2) (qo_none) (qo_some (qe_var 4))) (qe_if (qt_cmp (op_eqA (units_of C)) sd_eq (qe_ix (ix_any C) sd_ix (qe_var 2) (qe_var 4) (fun _ _ => rfl)) (qe_str) (nomark _)) (qe_str) (qe_str))) (qe_slice (qe_var 2) (qo_some (qe_bin op_addD sd_add (qe_var 4) (qe_int))) (qo_none)))))))
    (qss_one (qs_ret (qe_var 2))))
/-! _law_changes -/
abbrev s_law_changes : Stmt := top 38
abbrev N_law_changes : List Str := ["_law_reference", "_law_spot", "_law_dot", "_law_begun_here", "_law_first", "_law_wide", "_law_shifted", "_law_some", "_law_change", "_law_far", "_law_k"]
theorem sc_law_changes : FnScope N_law_changes ["_law_reference", "_law_spot", "_law_dot", "_law_begun_here"] (defScope s_law_changes) := ⟨rfl, rfl, rfl, by decide +kernel, rfl, by decide +kernel, by decide +kernel⟩
def E_law_changes_1 : ME := mVar 10
def T_law_changes_1 : MT := mTst (mBin pyEq (mBin pyIx (mVar 6) (mVar 10)) (mVar 2))
def E_law_changes_2 : ME := mVar 10
def T_law_changes_2 : MT := mTst (mBin pyNe (mBin pyIx (mVar 0) (mVar 10)) (mVar 2))
def E_law_changes_3 : ME := mVar 10
def T_law_changes_3 : MT := mTst (mBin pyEq (mBin pyIx (mVar 0) (mVar 10)) (mVar 2))
def b_law_changes : MS := sSeq (sPar 4 5 (mCons (mIf (mTru (mVar 3)) (mBin pyAdd (mVar 1) (mC (.int 1))) (mC (.int 0))) (mCons (mCall pyLen (mCons (mVar 0) (mNil))) (mNil))))
    (sSeq (sAsg (mBin pyAdd (mC (.str ".")) (mVar 0)) (gN 6))
    (sSeq (sAsg (mLc (mRng2 (mVar 4) (mVar 5)) (gN 10) (T_law_changes_1) (E_law_changes_1) [10]) (gN 7))
    (sSeq (sAsg (mLc (mIt (mVar 7)) (gN 10) (T_law_changes_2) (E_law_changes_2) [10]) (gN 7))
    (sSeq (sAsg (mBin pyIx (mBin pyAdd (mVar 7) (mLst (mCons (mVar 5) (mNil)))) (mC (.int 0))) (gN 8))
    (sSeq (sAsg (mLc (mRng2 (mBin pyAdd (mVar 8) (mC (.int 1))) (mVar 5)) (gN 10) (T_law_changes_3) (E_law_changes_3) [10]) (gN 9))
    (sRet (mTup (mCons (mVar 8) (mCons (mBin pyIx (mBin pyAdd (mVar 9) (mLst (mCons (mVar 5) (mNil)))) (mC (.int 0))) (mNil))))))))))
def m_law_changes : List D → IH → Res D := mBody 11 b_law_changes
theorem ok_law_changes {P : Program} {w : World} {K : PySem.W.Frag} {mg : MG} {base : Heap} {f : Addr} {fd : FuncData} (G : Gs mg K) (F : FunD K "_law_changes" "_law_changes" (defArgs s_law_changes) (defBody s_law_changes) (defScope s_law_changes) [] [] f fd) (hm : mg "_law_changes" = some (.ref f))
    : Fn P w K mg base 1 "_law_changes" m_law_changes 4 := mk_fn F sc_law_changes hm (fun _ _ _ _ _ _ us hl => match us, hl with | [_, _, _, _], _ => rfl) fun cv A out s H E C =>
  qss_cons (qs_par 4 5 C.calm C.nd (qa_cons (qe_if (qt_tru (qe_var 3)) (qe_bin op_addD sd_add (qe_var 1) (qe_int)) (qe_int)) (qa_cons (qe_callB call_len sd_len G.z_len (by decide +kernel) (qa_cons (qe_var 0) (qa_nil))) (qa_nil))))
    (qss_cons (qs_set 6 C.nd (qe_bin op_addD sd_add (qe_str) (qe_var 0)))
    (qss_cons (qs_setLc 7 [("_law_k", 10)] C (qi_range2 G.z_range (qe_var 4) (qe_var 5)) (blkOk_by (own := [("_law_k", 10)]) (N := N_law_changes) (sc := defScope s_law_changes) (by decide +kernel)) (fun _ _ _ _ _ C => qx_name 10 C.nd) (fun _ _ _ _ _ C => qts_one (qt_cmp (op_eqA (units_of C)) sd_eq (qe_ix (ix_any C) sd_ix (qe_var 6) (qe_var 10) (fun _ _ => rfl)) (qe_var 2) (nomark _))) (fun _ _ _ _ _ C => qe_var 10))
    (qss_cons (qs_setLc 7 [("_law_k", 10)] C (qi_val (qe_var 7)) (blkOk_by (own := [("_law_k", 10)]) (N := N_law_changes) (sc := defScope s_law_changes) (by decide +kernel)) (fun _ _ _ _ _ C => qx_name 10 C.nd) (fun _ _ _ _ _ C => qts_one (qt_cmp (op_neA (units_of C)) sd_ne (qe_ix (ix_any C) sd_ix (qe_var 0) (qe_var 10) (fun _ _ => rfl)) (qe_var 2) (nomark _))) (fun _ _ _ _ _ C => qe_var 10))
    (qss_cons (qs_set 8 C.nd (qe_ix (ix_any C) sd_ix (qe_bin op_addD sd_add (qe_var 7) (qe_lst (qa_cons (qe_var 5) (qa_nil)))) (qe_int) (fun _ _ => rfl)))
    (qss_cons (qs_setLc 9 [("_law_k", 10)] C (qi_range2 G.z_range (qe_bin op_addD sd_add (qe_var 8) (qe_int)) (qe_var 5)) (blkOk_by (own := [("_law_k", 10)]) (N := N_law_changes) (sc := defScope s_law_changes) (by decide +kernel)) (fun _ _ _ _ _ C => qx_name 10 C.nd) (fun _ _ _ _ _ C => qts_one (qt_cmp (op_eqA (units_of C)) sd_eq (qe_ix (ix_any C) sd_ix (qe_var 0) (qe_var 10) (fun _ _ => rfl)) (qe_var 2) (nomark _))) (fun _ _ _ _ _ C => qe_var 10))
    (qss_one (qs_ret (qe_tup (qa_cons (qe_var 8) (qa_cons (qe_ix (ix_any C) sd_ix (qe_bin op_addD sd_add (qe_var 9) (qe_lst (qa_cons (qe_var 5) (qa_nil)))) (qe_int) (fun _ _ => rfl)) (qa_nil)))))))))))
/-! _law_other -/
abbrev s_law_other : Stmt := top 36
abbrev N_law_other : List Str := ["_law_dot"]
theorem sc_law_other : FnScope N_law_other ["_law_dot"] (defScope s_law_other) := ⟨rfl, rfl, rfl, by decide +kernel, rfl, by decide +kernel, by decide +kernel⟩
def b_law_other : MS := sRet (mIf (mTst (mBin pyEq (mVar 0) (mC (.str ".")))) (mC (.str "#")) (mC (.str ".")))
def m_law_other : List D → IH → Res D := mBody 1 b_law_other
theorem ok_law_other {P : Program} {w : World} {K : PySem.W.Frag} {mg : MG} {base : Heap} {f : Addr} {fd : FuncData} (G : Gs mg K) (F : FunD K "_law_other" "_law_other" (defArgs s_law_other) (defBody s_law_other) (defScope s_law_other) [] [] f fd) (hm : mg "_law_other" = some (.ref f))
    : Fn P w K mg base 1 "_law_other" m_law_other 1 := mk_fn F sc_law_other hm (fun _ _ _ _ _ _ us hl => match us, hl with | [_], _ => rfl) fun cv A out s H E C =>
  qss_one (qs_ret (qe_if (qt_cmp (op_eqA (units_of C)) sd_eq (qe_var 0) (qe_str) (nomark _)) (qe_str) (qe_str)))
/-! _law_done -/
abbrev s_law_done : Stmt := top 39
abbrev N_law_done : List Str := ["_law_reference", "_law_mode", "_law_spot", "_law_dot", "_law_begun_here", "_law_wide", "_law_change", "_law_back", "_law_goal", "_law_first", "_law_second", "_law_middle"]
theorem sc_law_done : FnScope N_law_done ["_law_reference", "_law_mode", "_law_spot", "_law_dot", "_law_begun_here"] (defScope s_law_done) := ⟨rfl, rfl, rfl, by decide +kernel, rfl, by decide +kernel, by decide +kernel⟩
def b_law_done : MS := sSeq (sAsg (mCall pyLen (mCons (mVar 0) (mNil))) (gN 5))
    (sSeq (sAsg (mCall m_law_changes (mCons (mVar 0) (mCons (mVar 2) (mCons (mVar 3) (mCons (mVar 4) (mNil)))))) (gT 2 (gsCons (gN 6) (gsCons (gN 7) (gsNil)))))
    (sSeq (sIf (mTst (mBin pyEq (mBin pyIx (mVar 1) (mC (.int 0))) (mC (.str "stay")))) (sSeq (sAsg (mBin pyAdd (mVar 6) (mBin pyIx (mVar 1) (mC (.int 1)))) (gN 8))
    (sSeq (sIf (mOr (mTst (mBin pyGt (mVar 8) (mVar 5))) (mOr (mTst (mBin pyLt (mVar 8) (mC (.int 0)))) (mAnd (mTru (mVar 4)) (mTst (mBin pyLe (mVar 8) (mVar 2)))))) (sRet (mC .non)) (sNil))
    (sRet (mTup (mCons (mBin pyMul (mVar 3) (mBin pySub (mVar 8) (mVar 2))) (mCons (mCall m_law_other (mCons (mVar 3) (mNil))) (mNil))))))) (sNil))
    (sSeq (sIf (mTst (mBin pyEq (mBin pyIx (mVar 1) (mC (.int 0))) (mC (.str "pass")))) (sRet (mIf (mTst (mBin pyLt (mVar 6) (mVar 5))) (mTup (mCons (mBin pyMul (mVar 3) (mBin pySub (mVar 7) (mVar 2))) (mCons (mVar 3) (mNil)))) (mC .non))) (sNil))
    (sSeq (sAsg (mSl (mVar 1) (moS (mC (.int 1))) (moN)) (gT 2 (gsCons (gN 9) (gsCons (gN 10) (gsNil)))))
    (sSeq (sAsg (mBin pyAdd (mVar 2) (mVar 9)) (gN 11))
    (sSeq (sIf (mOr (mAnd (mTst (mBin pyEq (mVar 9) (mC (.int 0)))) (mTru (mVar 4))) (mTst (mBin pyGt (mBin pyAdd (mVar 11) (mVar 10)) (mVar 5)))) (sRet (mC .non)) (sNil))
    (sSeq (sIf (mAnd (mTst (mBin pyEq (mVar 10) (mC (.int 0)))) (mTst (mBin pyNe (mVar 11) (mVar 5)))) (sRet (mC .non)) (sNil))
    (sRet (mTup (mCons (mBin pyAdd (mBin pyMul (mVar 3) (mVar 9)) (mBin pyMul (mCall m_law_other (mCons (mVar 3) (mNil))) (mVar 10))) (mCons (mVar 3) (mNil))))))))))))
def m_law_done : List D → IH → Res D := mBody 12 b_law_done
theorem ok_law_done {P : Program} {w : World} {K : PySem.W.Frag} {mg : MG} {base : Heap} {f : Addr} {fd : FuncData} (G : Gs mg K) (F : FunD K "_law_done" "_law_done" (defArgs s_law_done) (defBody s_law_done) (defScope s_law_done) [] [] f fd) (hm : mg "_law_done" = some (.ref f))
    (F_law_changes : Fn P w K mg base 1 "_law_changes" m_law_changes 4)
    (F_law_other : Fn P w K mg base 1 "_law_other" m_law_other 1)
    : Fn P w K mg base 2 "_law_done" m_law_done 5 := mk_fn F sc_law_done hm (fun _ _ _ _ _ _ us hl => match us, hl with | [_, _, _, _, _], _ => rfl) fun cv A out s H E C =>
  qss_cons (qs_set 5 C.nd (qe_callB call_len sd_len G.z_len (by decide +kernel) (qa_cons (qe_var 0) (qa_nil))))
    (qss_cons (qs_asg (qe_call C F_law_changes (qa_cons (qe_var 0) (qa_cons (qe_var 2) (qa_cons (qe_var 3) (qa_cons (qe_var 4) (qa_nil)))))) (qg_tup C.calm (qgs_cons (qg_name 6 C.nd) (qgs_cons (qg_name 7 C.nd) (qgs_nil)))))
    (qss_cons (qs_if (qt_cmp (op_eqA (units_of C)) sd_eq (qe_ix (ix_any C) sd_ix (qe_var 1) (qe_int) (fun _ _ => rfl)) (qe_str) (nomark _)) (qss_cons (qs_set 8 C.nd (qe_bin op_addD sd_add (qe_var 6) (qe_ix (ix_any C) sd_ix (qe_var 1) (qe_int) (fun _ _ => rfl))))
    (qss_cons (qs_if (QW.qt (qw_or (qt_cmp op_gt sd_cmp (qe_var 8) (qe_var 5) (nomark _)) (qw_or (qt_cmp op_lt sd_cmp (qe_var 8) (qe_int) (nomark _)) (qw_or1 (QW.qt (qw_and (qt_tru (qe_var 4)) (qw_and1 (qt_cmp op_le sd_cmp (qe_var 8) (qe_var 2) (nomark _))))))))) (qss_one (qs_ret (qe_non))) (qss_nil))
    (qss_one (qs_ret (qe_tup (qa_cons (qe_bin op_mulD sd_mul (qe_var 3) (qe_bin op_sub sd_sub (qe_var 8) (qe_var 2))) (qa_cons (qe_call C F_law_other (qa_cons (qe_var 3) (qa_nil))) (qa_nil)))))))) (qss_nil))
    (qss_cons (qs_if (qt_cmp (op_eqA (units_of C)) sd_eq (qe_ix (ix_any C) sd_ix (qe_var 1) (qe_int) (fun _ _ => rfl)) (qe_str) (nomark _)) (qss_one (qs_ret (qe_if (qt_cmp op_lt sd_cmp (qe_var 6) (qe_var 5) (nomark _)) (qe_tup (qa_cons (qe_bin op_mulD sd_mul (qe_var 3) (qe_bin op_sub sd_sub (qe_var 7) (qe_var 2))) (qa_cons (qe_var 3) (qa_nil)))) (qe_non)))) (qss_nil))
    (qss_cons (qs_asg (qe_slice (qe_var 1) (qo_some (qe_int)) (qo_none)) (qg_tup C.calm (qgs_cons (qg_name 9 C.nd) (qgs_cons (qg_name 10 C.nd) (qgs_nil)))))
    (qss_cons (qs_set 11 C.nd (qe_bin op_addD sd_add (qe_var 2) (qe_var 9)))
    (qss_cons (qs_if (QW.qt (qw_or (QW.qt (qw_and (qt_cmp (op_eqA (units_of C)) sd_eq (qe_var 9) (qe_int) (nomark _)) (qw_and1 (qt_tru (qe_var 4))))) (qw_or1 (qt_cmp op_gt sd_cmp (qe_bin op_addD sd_add (qe_var 11) (qe_var 10)) (qe_var 5) (nomark _))))) (qss_one (qs_ret (qe_non))) (qss_nil))
    (qss_cons (qs_if (QW.qt (qw_and (qt_cmp (op_eqA (units_of C)) sd_eq (qe_var 10) (qe_int) (nomark _)) (qw_and1 (qt_cmp (op_neA (units_of C)) sd_ne (qe_var 11) (qe_var 5) (nomark _))))) (qss_one (qs_ret (qe_non))) (qss_nil))
    (qss_one (qs_ret (qe_tup (qa_cons (qe_bin op_addD sd_add (qe_bin op_mulD sd_mul (qe_var 3) (qe_var 9)) (qe_bin op_mulD sd_mul (qe_call C F_law_other (qa_cons (qe_var 3) (qa_nil))) (qe_var 10))) (qa_cons (qe_var 3) (qa_nil)))))))))))))
/-! _law_modes -/
abbrev s_law_modes : Stmt := top 41
abbrev N_law_modes : List Str := ["_law_reference", "_law_row_here", "_law_spot", "_law_dot", "_law_begun_here", "_law_some", "_law_rest", "_law_first", "_law_found", "_law_mode", "_law_done_here", "_law_k", "_law_second"]
theorem sc_law_modes : FnScope N_law_modes ["_law_reference", "_law_row_here", "_law_spot", "_law_dot", "_law_begun_here"] (defScope s_law_modes) := ⟨rfl, rfl, rfl, by decide +kernel, rfl, by decide +kernel, by decide +kernel⟩
def E_law_modes_1 : ME := mTup (mCons (mC (.str "stay")) (mCons (mVar 11) (mNil)))
def E_law_modes_2 : ME := mTup (mCons (mC (.str "runs")) (mCons (mVar 7) (mCons (mVar 12) (mNil))))
def B_law_modes_3 : MS := sAsg (mBin pyAdd (mVar 5) (mLc (mRng1 (mBin pyAdd (mBin pySub (mVar 6) (mVar 7)) (mC (.int 1)))) (gN 12) (mYes) (E_law_modes_2) [12])) (gN 5)
def B_law_modes_4 : MS := sSeq (sAsg (mCall m_law_done (mCons (mVar 0) (mCons (mVar 9) (mCons (mVar 2) (mCons (mVar 3) (mCons (mVar 4) (mNil))))))) (gN 10))
    (sIf (mAnd (mTst (mBin pyIsNot (mVar 10) (mC .non))) (mTst (mBin pyEq (mSl (mVar 1) (moS (mVar 2)) (moS (mBin pyAdd (mVar 2) (mCall pyLen (mCons (mBin pyIx (mVar 10) (mC (.int 0))) (mNil)))))) (mBin pyIx (mVar 10) (mC (.int 0)))))) (sExpr (mMeth "list" pyAppend (mVar 8) (mCons (mTup (mCons (mVar 9) (mCons (mBin pyIx (mVar 10) (mC (.int 0))) (mCons (mBin pyIx (mVar 10) (mC (.int 1))) (mNil))))) (mNil)))) (sNil))
def b_law_modes : MS := sSeq (sPar 5 6 (mCons (mBin pyAdd (mLc (mRng2 (mUn pyNeg (mC (.int 3))) (mC (.int 4))) (gN 11) (mYes) (E_law_modes_1) [11]) (mLst (mCons (mTup (mCons (mC (.str "pass")) (mNil))) (mNil)))) (mCons (mBin pySub (mCall pyLen (mCons (mVar 1) (mNil))) (mVar 2)) (mNil))))
    (sSeq (sFor (mRng1 (mBin pyAdd (mVar 6) (mC (.int 1)))) (gN 7) (B_law_modes_3))
    (sSeq (sAsg (mLst (mNil)) (gN 8))
    (sSeq (sFor (mIt (mVar 5)) (gN 9) (B_law_modes_4))
    (sRet (mVar 8)))))
def m_law_modes : List D → IH → Res D := mBody 13 b_law_modes
theorem ok_law_modes {P : Program} {w : World} {K : PySem.W.Frag} {mg : MG} {base : Heap} {f : Addr} {fd : FuncData} (G : Gs mg K) (F : FunD K "_law_modes" "_law_modes" (defArgs s_law_modes) (defBody s_law_modes) (defScope s_law_modes) [] [] f fd) (hm : mg "_law_modes" = some (.ref f))
    (F_law_done : Fn P w K mg base 2 "_law_done" m_law_done 5)
    : Fn P w K mg base 3 "_law_modes" m_law_modes 5 := mk_fn F sc_law_modes hm (fun _ _ _ _ _ _ us hl => match us, hl with | [_, _, _, _, _], _ => rfl) fun cv A out s H E C =>
  qss_cons (qs_par 5 6 C.calm C.nd (qa_cons (qe_bin op_addD sd_add (qe_lc [("_law_k", 11)] C (qi_range2 G.z_range (qe_un un_neg sd_neg (qe_int)) (qe_int)) (blkOk_by (own := [("_law_k", 11)]) (N := N_law_modes) (sc := defScope s_law_modes) (by decide +kernel)) (fun _ _ _ _ _ C => qx_name 11 C.nd) (fun _ _ _ _ _ C => qts_nil) (fun _ _ _ _ _ C => qe_tup (qa_cons (qe_str) (qa_cons (qe_var 11) (qa_nil))))) (qe_lst (qa_cons (qe_tup (qa_cons (qe_str) (qa_nil))) (qa_nil)))) (qa_cons (qe_bin op_sub sd_sub (qe_callB call_len sd_len G.z_len (by decide +kernel) (qa_cons (qe_var 1) (qa_nil))) (qe_var 2)) (qa_nil))))
    (qss_cons (qs_for C (qi_range1 G.z_range (qe_bin op_addD sd_add (qe_var 6) (qe_int))) (qg_name 7 C.nd) (qss_one (qs_set 5 C.nd (qe_bin op_addD sd_add (qe_var 5) (qe_lc [("_law_second", 12)] C (qi_range1 G.z_range (qe_bin op_addD sd_add (qe_bin op_sub sd_sub (qe_var 6) (qe_var 7)) (qe_int))) (blkOk_by (own := [("_law_second", 12)]) (N := N_law_modes) (sc := defScope s_law_modes) (by decide +kernel)) (fun _ _ _ _ _ C => qx_name 12 C.nd) (fun _ _ _ _ _ C => qts_nil) (fun _ _ _ _ _ C => qe_tup (qa_cons (qe_str) (qa_cons (qe_var 7) (qa_cons (qe_var 12) (qa_nil))))))))))
    (qss_cons (qs_set 8 C.nd (qe_lst (qa_nil)))
    (qss_cons (qs_for C (qi_val (qe_var 5)) (qg_name 9 C.nd) (qss_cons (qs_set 10 C.nd (qe_call C F_law_done (qa_cons (qe_var 0) (qa_cons (qe_var 9) (qa_cons (qe_var 2) (qa_cons (qe_var 3) (qa_cons (qe_var 4) (qa_nil))))))))
    (qss_one (qs_if (QW.qt (qw_and (qt_cmp op_notN sd_isNot (qe_var 10) (qe_non) (nomark _)) (qw_and1 (qt_cmp (op_eqA (units_of C)) sd_eq (qe_slice (qe_var 1) (qo_some (qe_var 2)) (qo_some (qe_bin op_addD sd_add (qe_var 2) (qe_callB call_len sd_len G.z_len (by decide +kernel) (qa_cons (qe_ix (ix_any C) sd_ix (qe_var 10) (qe_int) (fun _ _ => rfl)) (qa_nil)))))) (qe_ix (ix_any C) sd_ix (qe_var 10) (qe_int) (fun _ _ => rfl)) (nomark _))))) (qss_one (qs_expr (qe_meth PySem.F.plainAttrs_list PySem.F.slot_list_append PySem.F.type_list_append mt_append sd_append (.inl rfl) (qe_var 8) (qa_cons (qe_tup (qa_cons (qe_var 9) (qa_cons (qe_ix (ix_any C) sd_ix (qe_var 10) (qe_int) (fun _ _ => rfl)) (qa_cons (qe_ix (ix_any C) sd_ix (qe_var 10) (qe_int) (fun _ _ => rfl)) (qa_nil))))) (qa_nil))))) (qss_nil)))))
    (qss_one (qs_ret (qe_var 8))))))
/-! _law_goes_on -/
abbrev s_law_goes_on : Stmt := top 42
abbrev N_law_goes_on : List Str := ["_law_row_here", "_law_spot", "_law_one"]
theorem sc_law_goes_on : FnScope N_law_goes_on ["_law_row_here", "_law_spot", "_law_one"] (defScope s_law_goes_on) := ⟨rfl, rfl, rfl, by decide +kernel, rfl, by decide +kernel, by decide +kernel⟩
def b_law_goes_on : MS := sRet (mBin pyEq (mBin pyIx (mBin pyAdd (mVar 0) (mBin pyIx (mVar 2) (mC (.int 2)))) (mBin pyAdd (mVar 1) (mCall pyLen (mCons (mBin pyIx (mVar 2) (mC (.int 1))) (mNil))))) (mBin pyIx (mVar 2) (mC (.int 2))))
def m_law_goes_on : List D → IH → Res D := mBody 3 b_law_goes_on
theorem ok_law_goes_on {P : Program} {w : World} {K : PySem.W.Frag} {mg : MG} {base : Heap} {f : Addr} {fd : FuncData} (G : Gs mg K) (F : FunD K "_law_goes_on" "_law_goes_on" (defArgs s_law_goes_on) (defBody s_law_goes_on) (defScope s_law_goes_on) [] [] f fd) (hm : mg "_law_goes_on" = some (.ref f))
    : Fn P w K mg base 1 "_law_goes_on" m_law_goes_on 3 := mk_fn F sc_law_goes_on hm (fun _ _ _ _ _ _ us hl => match us, hl with | [_, _, _], _ => rfl) fun cv A out s H E C =>
  qss_one (qs_ret (qe_cmp (op_eqA (units_of C)) sd_eq (qe_ix (ix_any C) sd_ix (qe_bin op_addD sd_add (qe_var 0) (qe_ix (ix_any C) sd_ix (qe_var 2) (qe_int) (fun _ _ => rfl))) (qe_bin op_addD sd_add (qe_var 1) (qe_callB call_len sd_len G.z_len (by decide +kernel) (qa_cons (qe_ix (ix_any C) sd_ix (qe_var 2) (qe_int) (fun _ _ => rfl)) (qa_nil)))) (fun _ _ => rfl)) (qe_ix (ix_any C) sd_ix (qe_var 2) (qe_int) (fun _ _ => rfl)) (nomark _)))
/-! _law_telling -/
abbrev s_law_telling : Stmt := top 43
abbrev N_law_telling : List Str := ["_law_m", "_law_reference", "_law_row_here", "_law_found", "_law_spot", "_law_dot", "_law_begun_here", "_law_some", "_law_mode", "_law_dots", "_law_one"]
theorem sc_law_telling : FnScope N_law_telling ["_law_m", "_law_reference", "_law_row_here"] (defScope s_law_telling) := ⟨rfl, rfl, rfl, by decide +kernel, rfl, by decide +kernel, by decide +kernel⟩
def E_law_telling_1 : ME := mVar 10
def T_law_telling_1 : MT := mTru (mCall m_law_goes_on (mCons (mVar 2) (mCons (mVar 4) (mCons (mVar 10) (mNil)))))
def B_law_telling_2 : MS := sSeq (sAsg (mCall m_law_modes (mCons (mVar 1) (mCons (mVar 2) (mCons (mVar 4) (mCons (mVar 5) (mCons (mVar 6) (mNil))))))) (gN 7))
    (sSeq (sAsg (mLc (mIt (mVar 7)) (gN 10) (T_law_telling_1) (E_law_telling_1) [10]) (gN 7))
    (sSeq (sAsg (mCall m_law_of (mCons (mVar 0) (mCons (mVar 7) (mNil)))) (gT 3 (gsCons (gN 8) (gsCons (gN 9) (gsCons (gN 5) (gsNil))))))
    (sSeq (sExpr (mMeth "list" pyAppend (mVar 3) (mCons (mVar 8) (mNil))))
    (sAsg (mTup (mCons (mBin pyAdd (mVar 4) (mCall pyLen (mCons (mVar 9) (mNil)))) (mCons (mC (.bl true)) (mNil)))) (gT 2 (gsCons (gN 4) (gsCons (gN 6) (gsNil))))))))
def T_law_telling_2 : MT := mTst (mBin pyLt (mVar 4) (mCall pyLen (mCons (mVar 2) (mNil))))
def b_law_telling : MS := sSeq (sAsg (mTup (mCons (mLst (mNil)) (mCons (mC (.int 0)) (mCons (mC (.str ".")) (mCons (mC (.bl false)) (mNil)))))) (gT 4 (gsCons (gN 3) (gsCons (gN 4) (gsCons (gN 5) (gsCons (gN 6) (gsNil)))))))
    (sSeq (whileM 100000 (T_law_telling_2) (B_law_telling_2))
    (sRet (mCall pyTuple (mCons (mVar 3) (mNil)))))
def m_law_telling : List D → IH → Res D := mBody 11 b_law_telling
theorem ok_law_telling {P : Program} {w : World} {K : PySem.W.Frag} {mg : MG} {base : Heap} {f : Addr} {fd : FuncData} (G : Gs mg K) (F : FunD K "_law_telling" "_law_telling" (defArgs s_law_telling) (defBody s_law_telling) (defScope s_law_telling) [] [] f fd) (hm : mg "_law_telling" = some (.ref f))
    (F_law_modes : Fn P w K mg base 3 "_law_modes" m_law_modes 5)
    (F_law_of : Fn P w K mg base 2 "_law_of" m_law_of 2)
    (F_law_goes_on : Fn P w K mg base 1 "_law_goes_on" m_law_goes_on 3)
    : Fn P w K mg base 4 "_law_telling" m_law_telling 3 := mk_fn F sc_law_telling hm (fun _ _ _ _ _ _ us hl => match us, hl with | [_, _, _], _ => rfl) fun cv A out s H E C =>
  qss_cons (qs_asg (qe_tup (qa_cons (qe_lst (qa_nil)) (qa_cons (qe_int) (qa_cons (qe_str) (qa_cons (qe_bl) (qa_nil)))))) (qg_tup C.calm (qgs_cons (qg_name 3 C.nd) (qgs_cons (qg_name 4 C.nd) (qgs_cons (qg_name 5 C.nd) (qgs_cons (qg_name 6 C.nd) (qgs_nil)))))))
    (qss_cons (qs_while 100000 C (qt_cmp op_lt sd_cmp (qe_var 4) (qe_callB call_len sd_len G.z_len (by decide +kernel) (qa_cons (qe_var 2) (qa_nil))) (nomark _)) (qss_cons (qs_set 7 C.nd (qe_call C F_law_modes (qa_cons (qe_var 1) (qa_cons (qe_var 2) (qa_cons (qe_var 4) (qa_cons (qe_var 5) (qa_cons (qe_var 6) (qa_nil))))))))
    (qss_cons (qs_setLc 7 [("_law_one", 10)] C (qi_val (qe_var 7)) (blkOk_by (own := [("_law_one", 10)]) (N := N_law_telling) (sc := defScope s_law_telling) (by decide +kernel)) (fun _ _ _ _ _ C => qx_name 10 C.nd) (fun _ _ _ _ _ C => qts_one (qt_tru (qe_call C F_law_goes_on (qa_cons (qe_var 2) (qa_cons (qe_var 4) (qa_cons (qe_var 10) (qa_nil))))))) (fun _ _ _ _ _ C => qe_var 10))
    (qss_cons (qs_asg (qe_call C F_law_of (qa_cons (qe_var 0) (qa_cons (qe_var 7) (qa_nil)))) (qg_tup C.calm (qgs_cons (qg_name 8 C.nd) (qgs_cons (qg_name 9 C.nd) (qgs_cons (qg_name 5 C.nd) (qgs_nil))))))
    (qss_cons (qs_expr (qe_meth PySem.F.plainAttrs_list PySem.F.slot_list_append PySem.F.type_list_append mt_append sd_append (.inl rfl) (qe_var 3) (qa_cons (qe_var 8) (qa_nil))))
    (qss_one (qs_asg (qe_tup (qa_cons (qe_bin op_addD sd_add (qe_var 4) (qe_callB call_len sd_len G.z_len (by decide +kernel) (qa_cons (qe_var 9) (qa_nil)))) (qa_cons (qe_bl) (qa_nil)))) (qg_tup C.calm (qgs_cons (qg_name 4 C.nd) (qgs_cons (qg_name 6 C.nd) (qgs_nil)))))))))))
    (qss_one (qs_ret (qe_callT call_tuple_of sd_tuple G.z_tuple (by decide +kernel) (qa_cons (qe_var 3) (qa_nil))))))
/-! _law_all_rows -/
abbrev s_law_all_rows : Stmt := top 35
abbrev N_law_all_rows : List Str := ["_law_wide", "_law_found", "_law_k", "_law_longer", "_law_row_here"]
theorem sc_law_all_rows : FnScope N_law_all_rows ["_law_wide"] (defScope s_law_all_rows) := ⟨rfl, rfl, rfl, by decide +kernel, rfl, by decide +kernel, by decide +kernel⟩
def B_law_all_rows_1 : MS := sAsg (mBin pyAdd (mVar 3) (mLst (mCons (mBin pyAdd (mVar 4) (mC (.str "#"))) (mCons (mBin pyAdd (mVar 4) (mC (.str "."))) (mNil))))) (gN 3)
def B_law_all_rows_2 : MS := sSeq (sAsg (mLst (mNil)) (gN 3))
    (sSeq (sFor (mIt (mVar 1)) (gN 4) (B_law_all_rows_1))
    (sAsg (mVar 3) (gN 1)))
def b_law_all_rows : MS := sSeq (sAsg (mLst (mCons (mC (.str "")) (mNil))) (gN 1))
    (sSeq (sFor (mRng1 (mVar 0)) (gN 2) (B_law_all_rows_2))
    (sRet (mVar 1)))
def m_law_all_rows : List D → IH → Res D := mBody 5 b_law_all_rows
theorem ok_law_all_rows {P : Program} {w : World} {K : PySem.W.Frag} {mg : MG} {base : Heap} {f : Addr} {fd : FuncData} (G : Gs mg K) (F : FunD K "_law_all_rows" "_law_all_rows" (defArgs s_law_all_rows) (defBody s_law_all_rows) (defScope s_law_all_rows) [] [] f fd) (hm : mg "_law_all_rows" = some (.ref f))
    : Fn P w K mg base 1 "_law_all_rows" m_law_all_rows 1 := mk_fn F sc_law_all_rows hm (fun _ _ _ _ _ _ us hl => match us, hl with | [_], _ => rfl) fun cv A out s H E C =>
  qss_cons (qs_set 1 C.nd (qe_lst (qa_cons (qe_str) (qa_nil))))
    (qss_cons (qs_for C (qi_range1 G.z_range (qe_var 0)) (qg_name 2 C.nd) (qss_cons (qs_set 3 C.nd (qe_lst (qa_nil)))
    (qss_cons (qs_for C (qi_val (qe_var 1)) (qg_name 4 C.nd) (qss_one (qs_set 3 C.nd (qe_bin op_addD sd_add (qe_var 3) (qe_lst (qa_cons (qe_bin op_addD sd_add (qe_var 4) (qe_str)) (qa_cons (qe_bin op_addD sd_add (qe_var 4) (qe_str)) (qa_nil))))))))
    (qss_one (qs_set 1 C.nd (qe_var 3))))))
    (qss_one (qs_ret (qe_var 1))))
/-! need_line -/
abbrev s_need_line : Stmt := top 8
abbrev N_need_line : List Str := ["thing", "place", "dot"]
theorem sc_need_line : FnScope N_need_line ["thing"] (defScope s_need_line) := ⟨rfl, rfl, rfl, by decide +kernel, rfl, by decide +kernel, by decide +kernel⟩
def B_need_line_1 : MS := sIf (mTst (mBin pyNotIn (mVar 2) (mBin pyAdd (mC (.str ".")) (mC (.str "#"))))) ((fun _ _ => .stk)) (sNil)
def b_need_line : MS := sSeq (sIf (mOr (mNot (mTru (mCall pyIsi (mCons (mVar 0) (mCons (mC (.op (.ty "str"))) (mNil)))))) (mNot (mTst (mChain pyLe pyLe (mC (.int 1)) (mCall pyLen (mCons (mVar 0) (mNil))) (mC (.int 40)))))) ((fun _ _ => .stk)) (sNil))
    (sSeq (sFor (mEn (mVar 0)) (gT 2 (gsCons (gN 1) (gsCons (gN 2) (gsNil)))) (B_need_line_1))
    (sRet (mVar 0)))
def m_need_line : List D → IH → Res D := mBody 3 b_need_line
theorem ok_need_line {P : Program} {w : World} {K : PySem.W.Frag} {mg : MG} {base : Heap} {f : Addr} {fd : FuncData} (G : Gs mg K) (F : FunD K "need_line" "need_line" (defArgs s_need_line) (defBody s_need_line) (defScope s_need_line) [] [] f fd) (hm : mg "need_line" = some (.ref f))
    : Fn P w K mg base 1 "need_line" m_need_line 1 := mk_fn F sc_need_line hm (fun _ _ _ _ _ _ us hl => match us, hl with | [_], _ => rfl) fun cv A out s H E C =>
  qss_cons (qs_if (QW.qt (qw_or (qt_not (qt_tru (qe_callB call_isi sd_isi G.z_isinstance (by decide +kernel) (qa_cons (qe_var 0) (qa_cons (qe_ty G.z_str (by decide +kernel)) (qa_nil)))))) (qw_or1 (qt_not (qt_chain op_le sd_cmp op_le sd_cmp (qe_int) (qe_callB call_len sd_len G.z_len (by decide +kernel) (qa_cons (qe_var 0) (qa_nil))) (qe_gint G.c_MOST_WIDTH)))))) (qss_one (qs_never)) (qss_nil))
    (qss_cons (qs_for C (qi_enum G.z_enumerate (qe_var 0)) (qg_tup C.calm (qgs_cons (qg_name 1 C.nd) (qgs_cons (qg_name 2 C.nd) (qgs_nil)))) (qss_one (qs_if (qt_cmp (op_notInA C) sd_notIn (qe_var 2) (qe_bin op_addD sd_add (qe_gstr G.c_WHITE) (qe_gstr G.c_BLACK)) (by rfl)) (qss_one (qs_never)) (qss_nil))))
    (qss_one (qs_ret (qe_var 0))))
/-! is_full -/
abbrev s_is_full : Stmt := top 20
abbrev N_is_full : List Str := ["telling"]
theorem sc_is_full : FnScope N_is_full ["telling"] (defScope s_is_full) := ⟨rfl, rfl, rfl, by decide +kernel, rfl, by decide +kernel, by decide +kernel⟩
def b_is_full : MS := sRet (mAndV (mBin pyGt (mCall pyLen (mCons (mVar 0) (mNil))) (mC (.int 0))) (mBin pyEq (mBin pyIx (mBin pyIx (mVar 0) (mC (.int 0))) (mC (.int 0))) (mC (.str "full"))))
def m_is_full : List D → IH → Res D := mBody 1 b_is_full
theorem ok_is_full {P : Program} {w : World} {K : PySem.W.Frag} {mg : MG} {base : Heap} {f : Addr} {fd : FuncData} (G : Gs mg K) (F : FunD K "is_full" "is_full" (defArgs s_is_full) (defBody s_is_full) (defScope s_is_full) [] [] f fd) (hm : mg "is_full" = some (.ref f))
    : Fn P w K mg base 1 "is_full" m_is_full 1 := mk_fn F sc_is_full hm (fun _ _ _ _ _ _ us hl => match us, hl with | [_], _ => rfl) fun cv A out s H E C =>
  qss_one (qs_ret (qe_and (qe_cmp op_gt sd_cmp (qe_callB call_len sd_len G.z_len (by decide +kernel) (qa_cons (qe_var 0) (qa_nil))) (qe_int) (nomark _)) (qe_one (qe_cmp (op_eqA (units_of C)) sd_eq (qe_ix (ix_any C) sd_ix (qe_ix (ix_any C) sd_ix (qe_var 0) (qe_int) (fun _ _ => rfl)) (qe_int) (fun _ _ => rfl)) (qe_gstr G.c_FULL) (nomark _)))))
/-! other_colour -/
abbrev s_other_colour : Stmt := top 9
abbrev N_other_colour : List Str := ["colour"]
theorem sc_other_colour : FnScope N_other_colour ["colour"] (defScope s_other_colour) := ⟨rfl, rfl, rfl, by decide +kernel, rfl, by decide +kernel, by decide +kernel⟩
def b_other_colour : MS := sRet (mIf (mTst (mBin pyEq (mVar 0) (mC (.str ".")))) (mC (.str "#")) (mC (.str ".")))
def m_other_colour : List D → IH → Res D := mBody 1 b_other_colour
theorem ok_other_colour {P : Program} {w : World} {K : PySem.W.Frag} {mg : MG} {base : Heap} {f : Addr} {fd : FuncData} (G : Gs mg K) (F : FunD K "other_colour" "other_colour" (defArgs s_other_colour) (defBody s_other_colour) (defScope s_other_colour) [] [] f fd) (hm : mg "other_colour" = some (.ref f))
    : Fn P w K mg base 1 "other_colour" m_other_colour 1 := mk_fn F sc_other_colour hm (fun _ _ _ _ _ _ us hl => match us, hl with | [_], _ => rfl) fun cv A out s H E C =>
  qss_one (qs_ret (qe_if (qt_cmp (op_eqA (units_of C)) sd_eq (qe_var 0) (qe_gstr G.c_WHITE) (nomark _)) (qe_gstr G.c_BLACK) (qe_gstr G.c_WHITE)))
/-! line_in -/
abbrev s_line_in : Stmt := top 11
abbrev N_line_in : List Str := ["runs", "found", "colour", "run"]
theorem sc_line_in : FnScope N_line_in ["runs"] (defScope s_line_in) := ⟨rfl, rfl, rfl, by decide +kernel, rfl, by decide +kernel, by decide +kernel⟩
def B_line_in_1 : MS := sSeq (sAug 1 pyIAdd (mBin pyMul (mVar 2) (mVar 3)))
    (sAsg (mCall m_other_colour (mCons (mVar 2) (mNil))) (gN 2))
def b_line_in : MS := sSeq (sPar 1 2 (mCons (mC (.str "")) (mCons (mC (.str ".")) (mNil))))
    (sSeq (sFor (mIt (mVar 0)) (gN 3) (B_line_in_1))
    (sRet (mVar 1)))
def m_line_in : List D → IH → Res D := mBody 4 b_line_in
theorem ok_line_in {P : Program} {w : World} {K : PySem.W.Frag} {mg : MG} {base : Heap} {f : Addr} {fd : FuncData} (G : Gs mg K) (F : FunD K "line_in" "line_in" (defArgs s_line_in) (defBody s_line_in) (defScope s_line_in) [] [] f fd) (hm : mg "line_in" = some (.ref f))
    (F_other_colour : Fn P w K mg base 1 "other_colour" m_other_colour 1)
    : Fn P w K mg base 2 "line_in" m_line_in 1 := mk_fn F sc_line_in hm (fun _ _ _ _ _ _ us hl => match us, hl with | [_], _ => rfl) fun cv A out s H E C =>
  qss_cons (qs_par 1 2 C.calm C.nd (qa_cons (qe_str) (qa_cons (qe_gstr G.c_WHITE) (qa_nil))))
    (qss_cons (qs_for C (qi_val (qe_var 0)) (qg_name 3 C.nd) (qss_cons (qs_aug 1 C.nd ip_addD sd_ipadd (qe_bin op_mulD sd_mul (qe_var 2) (qe_var 3)))
    (qss_one (qs_set 2 C.nd (qe_call C F_other_colour (qa_cons (qe_var 2) (qa_nil)))))))
    (qss_one (qs_ret (qe_var 1))))
/-! dots_of -/
abbrev s_dots_of : Stmt := top 25
abbrev N_dots_of : List Str := ["mode", "place", "end", "colour"]
theorem sc_dots_of : FnScope N_dots_of ["mode", "place", "end", "colour"] (defScope s_dots_of) := ⟨rfl, rfl, rfl, by decide +kernel, rfl, by decide +kernel, by decide +kernel⟩
def b_dots_of : MS := sSeq (sIf (mTst (mBin pyEq (mBin pyIx (mVar 0) (mC (.int 0))) (mC (.str "runs")))) (sRet (mBin pyAdd (mBin pyMul (mVar 3) (mBin pyIx (mVar 0) (mC (.int 1)))) (mBin pyMul (mCall m_other_colour (mCons (mVar 3) (mNil))) (mBin pyIx (mVar 0) (mC (.int 2)))))) (sNil))
    (sRet (mBin pyMul (mVar 3) (mBin pySub (mVar 2) (mVar 1))))
def m_dots_of : List D → IH → Res D := mBody 4 b_dots_of
theorem ok_dots_of {P : Program} {w : World} {K : PySem.W.Frag} {mg : MG} {base : Heap} {f : Addr} {fd : FuncData} (G : Gs mg K) (F : FunD K "dots_of" "dots_of" (defArgs s_dots_of) (defBody s_dots_of) (defScope s_dots_of) [] [] f fd) (hm : mg "dots_of" = some (.ref f))
    (F_other_colour : Fn P w K mg base 1 "other_colour" m_other_colour 1)
    : Fn P w K mg base 2 "dots_of" m_dots_of 4 := mk_fn F sc_dots_of hm (fun _ _ _ _ _ _ us hl => match us, hl with | [_, _, _, _], _ => rfl) fun cv A out s H E C =>
  qss_cons (qs_if (qt_cmp (op_eqA (units_of C)) sd_eq (qe_ix (ix_any C) sd_ix (qe_var 0) (qe_int) (fun _ _ => rfl)) (qe_gstr G.c_RUNS) (nomark _)) (qss_one (qs_ret (qe_bin op_addD sd_add (qe_bin op_mulD sd_mul (qe_var 3) (qe_ix (ix_any C) sd_ix (qe_var 0) (qe_int) (fun _ _ => rfl))) (qe_bin op_mulD sd_mul (qe_call C F_other_colour (qa_cons (qe_var 3) (qa_nil))) (qe_ix (ix_any C) sd_ix (qe_var 0) (qe_int) (fun _ _ => rfl)))))) (qss_nil))
    (qss_one (qs_ret (qe_bin op_mulD sd_mul (qe_var 3) (qe_bin op_sub sd_sub (qe_var 2) (qe_var 1)))))
/-! change_from -/
abbrev s_change_from : Stmt := top 22
abbrev N_change_from : List Str := ["reference", "place", "colour", "is_told", "here", "ahead"]
theorem sc_change_from : FnScope N_change_from ["reference", "place", "colour", "is_told"] (defScope s_change_from) := ⟨rfl, rfl, rfl, by decide +kernel, rfl, by decide +kernel, by decide +kernel⟩
def B_change_from_1 : MS := sSeq (sAsg (mIf (mTst (mBin pyGt (mVar 4) (mC (.int 0)))) (mBin pyIx (mVar 0) (mBin pySub (mVar 4) (mC (.int 1)))) (mC (.str "."))) (gN 5))
    (sIf (mAnd (mTst (mBin pyEq (mVar 5) (mVar 2))) (mTst (mBin pyNe (mBin pyIx (mVar 0) (mVar 4)) (mVar 2)))) (sRet (mVar 4)) (sNil))
def b_change_from : MS := sSeq (sFor (mRng2 (mIf (mTru (mVar 3)) (mBin pyAdd (mVar 1) (mC (.int 1))) (mVar 1)) (mCall pyLen (mCons (mVar 0) (mNil)))) (gN 4) (B_change_from_1))
    (sRet (mCall pyLen (mCons (mVar 0) (mNil))))
def m_change_from : List D → IH → Res D := mBody 6 b_change_from
theorem ok_change_from {P : Program} {w : World} {K : PySem.W.Frag} {mg : MG} {base : Heap} {f : Addr} {fd : FuncData} (G : Gs mg K) (F : FunD K "change_from" "change_from" (defArgs s_change_from) (defBody s_change_from) (defScope s_change_from) [] [] f fd) (hm : mg "change_from" = some (.ref f))
    : Fn P w K mg base 1 "change_from" m_change_from 4 := mk_fn F sc_change_from hm (fun _ _ _ _ _ _ us hl => match us, hl with | [_, _, _, _], _ => rfl) fun cv A out s H E C =>
  qss_cons (qs_for C (qi_range2 G.z_range (qe_if (qt_tru (qe_var 3)) (qe_bin op_addD sd_add (qe_var 1) (qe_int)) (qe_var 1)) (qe_callB call_len sd_len G.z_len (by decide +kernel) (qa_cons (qe_var 0) (qa_nil)))) (qg_name 4 C.nd) (qss_cons (qs_set 5 C.nd (qe_if (qt_cmp op_gt sd_cmp (qe_var 4) (qe_int) (nomark _)) (qe_ix (ix_any C) sd_ix (qe_var 0) (qe_bin op_sub sd_sub (qe_var 4) (qe_int)) (fun _ _ => rfl)) (qe_gstr G.c_WHITE)))
    (qss_one (qs_if (QW.qt (qw_and (qt_cmp (op_eqA (units_of C)) sd_eq (qe_var 5) (qe_var 2) (nomark _)) (qw_and1 (qt_cmp (op_neA (units_of C)) sd_ne (qe_ix (ix_any C) sd_ix (qe_var 0) (qe_var 4) (fun _ _ => rfl)) (qe_var 2) (nomark _))))) (qss_one (qs_ret (qe_var 4))) (qss_nil)))))
    (qss_one (qs_ret (qe_callB call_len sd_len G.z_len (by decide +kernel) (qa_cons (qe_var 0) (qa_nil)))))
/-! change_back -/
abbrev s_change_back : Stmt := top 23
abbrev N_change_back : List Str := ["reference", "place", "colour", "here"]
theorem sc_change_back : FnScope N_change_back ["reference", "place", "colour"] (defScope s_change_back) := ⟨rfl, rfl, rfl, by decide +kernel, rfl, by decide +kernel, by decide +kernel⟩
def B_change_back_1 : MS := sIf (mTst (mBin pyEq (mBin pyIx (mVar 0) (mVar 3)) (mVar 2))) (sRet (mVar 3)) (sNil)
def b_change_back : MS := sSeq (sFor (mRng2 (mBin pyAdd (mVar 1) (mC (.int 1))) (mCall pyLen (mCons (mVar 0) (mNil)))) (gN 3) (B_change_back_1))
    (sRet (mCall pyLen (mCons (mVar 0) (mNil))))
def m_change_back : List D → IH → Res D := mBody 4 b_change_back
theorem ok_change_back {P : Program} {w : World} {K : PySem.W.Frag} {mg : MG} {base : Heap} {f : Addr} {fd : FuncData} (G : Gs mg K) (F : FunD K "change_back" "change_back" (defArgs s_change_back) (defBody s_change_back) (defScope s_change_back) [] [] f fd) (hm : mg "change_back" = some (.ref f))
    : Fn P w K mg base 1 "change_back" m_change_back 3 := mk_fn F sc_change_back hm (fun _ _ _ _ _ _ us hl => match us, hl with | [_, _, _], _ => rfl) fun cv A out s H E C =>
  qss_cons (qs_for C (qi_range2 G.z_range (qe_bin op_addD sd_add (qe_var 1) (qe_int)) (qe_callB call_len sd_len G.z_len (by decide +kernel) (qa_cons (qe_var 0) (qa_nil)))) (qg_name 3 C.nd) (qss_one (qs_if (qt_cmp (op_eqA (units_of C)) sd_eq (qe_ix (ix_any C) sd_ix (qe_var 0) (qe_var 3) (fun _ _ => rfl)) (qe_var 2) (nomark _)) (qss_one (qs_ret (qe_var 3))) (qss_nil))))
    (qss_one (qs_ret (qe_callB call_len sd_len G.z_len (by decide +kernel) (qa_cons (qe_var 0) (qa_nil)))))
/-! after_mode -/
abbrev s_after_mode : Stmt := top 24
abbrev N_after_mode : List Str := ["reference", "mode", "place", "colour", "is_told", "width", "middle", "end", "change"]
theorem sc_after_mode : FnScope N_after_mode ["reference", "mode", "place", "colour", "is_told"] (defScope s_after_mode) := ⟨rfl, rfl, rfl, by decide +kernel, rfl, by decide +kernel, by decide +kernel⟩
def b_after_mode : MS := sSeq (sAsg (mCall pyLen (mCons (mVar 0) (mNil))) (gN 5))
    (sSeq (sIf (mTst (mBin pyEq (mBin pyIx (mVar 1) (mC (.int 0))) (mC (.str "runs")))) (sSeq (sAsg (mBin pyAdd (mVar 2) (mBin pyIx (mVar 1) (mC (.int 1)))) (gN 6))
    (sSeq (sAsg (mBin pyAdd (mVar 6) (mBin pyIx (mVar 1) (mC (.int 2)))) (gN 7))
    (sSeq (sIf (mOr (mTst (mBin pyGt (mVar 7) (mVar 5))) (mOr (mAnd (mTst (mBin pyEq (mBin pyIx (mVar 1) (mC (.int 1))) (mC (.int 0)))) (mTru (mVar 4))) (mAnd (mTst (mBin pyEq (mBin pyIx (mVar 1) (mC (.int 2))) (mC (.int 0)))) (mTst (mBin pyLt (mVar 6) (mVar 5)))))) (sRet (mC .non)) (sNil))
    (sRet (mTup (mCons (mVar 7) (mCons (mVar 3) (mNil)))))))) (sNil))
    (sSeq (sAsg (mCall m_change_from (mCons (mVar 0) (mCons (mVar 2) (mCons (mVar 3) (mCons (mVar 4) (mNil)))))) (gN 8))
    (sSeq (sIf (mTst (mBin pyEq (mBin pyIx (mVar 1) (mC (.int 0))) (mC (.str "pass")))) (sRet (mIf (mTst (mBin pyLt (mVar 8) (mVar 5))) (mTup (mCons (mCall m_change_back (mCons (mVar 0) (mCons (mVar 8) (mCons (mVar 3) (mNil))))) (mCons (mVar 3) (mNil)))) (mC .non))) (sNil))
    (sSeq (sAsg (mBin pyAdd (mVar 8) (mBin pyIx (mVar 1) (mC (.int 1)))) (gN 7))
    (sSeq (sIf (mOr (mTst (mBin pyGt (mVar 7) (mVar 5))) (mOr (mTst (mBin pyLt (mVar 7) (mC (.int 0)))) (mAnd (mTst (mBin pyLe (mVar 7) (mVar 2))) (mTru (mVar 4))))) (sRet (mC .non)) (sNil))
    (sRet (mTup (mCons (mVar 7) (mCons (mCall m_other_colour (mCons (mVar 3) (mNil))) (mNil))))))))))
def m_after_mode : List D → IH → Res D := mBody 9 b_after_mode
theorem ok_after_mode {P : Program} {w : World} {K : PySem.W.Frag} {mg : MG} {base : Heap} {f : Addr} {fd : FuncData} (G : Gs mg K) (F : FunD K "after_mode" "after_mode" (defArgs s_after_mode) (defBody s_after_mode) (defScope s_after_mode) [] [] f fd) (hm : mg "after_mode" = some (.ref f))
    (F_change_from : Fn P w K mg base 1 "change_from" m_change_from 4)
    (F_other_colour : Fn P w K mg base 1 "other_colour" m_other_colour 1)
    (F_change_back : Fn P w K mg base 1 "change_back" m_change_back 3)
    : Fn P w K mg base 2 "after_mode" m_after_mode 5 := mk_fn F sc_after_mode hm (fun _ _ _ _ _ _ us hl => match us, hl with | [_, _, _, _, _], _ => rfl) fun cv A out s H E C =>
  qss_cons (qs_set 5 C.nd (qe_callB call_len sd_len G.z_len (by decide +kernel) (qa_cons (qe_var 0) (qa_nil))))
    (qss_cons (qs_if (qt_cmp (op_eqA (units_of C)) sd_eq (qe_ix (ix_any C) sd_ix (qe_var 1) (qe_int) (fun _ _ => rfl)) (qe_gstr G.c_RUNS) (nomark _)) (qss_cons (qs_set 6 C.nd (qe_bin op_addD sd_add (qe_var 2) (qe_ix (ix_any C) sd_ix (qe_var 1) (qe_int) (fun _ _ => rfl))))
    (qss_cons (qs_set 7 C.nd (qe_bin op_addD sd_add (qe_var 6) (qe_ix (ix_any C) sd_ix (qe_var 1) (qe_int) (fun _ _ => rfl))))
    (qss_cons (qs_if (QW.qt (qw_or (qt_cmp op_gt sd_cmp (qe_var 7) (qe_var 5) (nomark _)) (qw_or (QW.qt (qw_and (qt_cmp (op_eqA (units_of C)) sd_eq (qe_ix (ix_any C) sd_ix (qe_var 1) (qe_int) (fun _ _ => rfl)) (qe_int) (nomark _)) (qw_and1 (qt_tru (qe_var 4))))) (qw_or1 (QW.qt (qw_and (qt_cmp (op_eqA (units_of C)) sd_eq (qe_ix (ix_any C) sd_ix (qe_var 1) (qe_int) (fun _ _ => rfl)) (qe_int) (nomark _)) (qw_and1 (qt_cmp op_lt sd_cmp (qe_var 6) (qe_var 5) (nomark _))))))))) (qss_one (qs_ret (qe_non))) (qss_nil))
    (qss_one (qs_ret (qe_tup (qa_cons (qe_var 7) (qa_cons (qe_var 3) (qa_nil))))))))) (qss_nil))
    (qss_cons (qs_set 8 C.nd (qe_call C F_change_from (qa_cons (qe_var 0) (qa_cons (qe_var 2) (qa_cons (qe_var 3) (qa_cons (qe_var 4) (qa_nil)))))))
    (qss_cons (qs_if (qt_cmp (op_eqA (units_of C)) sd_eq (qe_ix (ix_any C) sd_ix (qe_var 1) (qe_int) (fun _ _ => rfl)) (qe_gstr G.c_PASS) (nomark _)) (qss_one (qs_ret (qe_if (qt_cmp op_lt sd_cmp (qe_var 8) (qe_var 5) (nomark _)) (qe_tup (qa_cons (qe_call C F_change_back (qa_cons (qe_var 0) (qa_cons (qe_var 8) (qa_cons (qe_var 3) (qa_nil))))) (qa_cons (qe_var 3) (qa_nil)))) (qe_non)))) (qss_nil))
    (qss_cons (qs_set 7 C.nd (qe_bin op_addD sd_add (qe_var 8) (qe_ix (ix_any C) sd_ix (qe_var 1) (qe_int) (fun _ _ => rfl))))
    (qss_cons (qs_if (QW.qt (qw_or (qt_cmp op_gt sd_cmp (qe_var 7) (qe_var 5) (nomark _)) (qw_or (qt_cmp op_lt sd_cmp (qe_var 7) (qe_int) (nomark _)) (qw_or1 (QW.qt (qw_and (qt_cmp op_le sd_cmp (qe_var 7) (qe_var 2) (nomark _)) (qw_and1 (qt_tru (qe_var 4))))))))) (qss_one (qs_ret (qe_non))) (qss_nil))
    (qss_one (qs_ret (qe_tup (qa_cons (qe_var 7) (qa_cons (qe_call C F_other_colour (qa_cons (qe_var 3) (qa_nil))) (qa_nil)))))))))))
/-! read_beside -/
abbrev s_read_beside : Stmt := top 26
abbrev N_read_beside : List Str := ["reference", "telling", "line", "place", "colour", "found", "is_told", "mode", "there"]
theorem sc_read_beside : FnScope N_read_beside ["reference", "telling"] (defScope s_read_beside) := ⟨rfl, rfl, rfl, by decide +kernel, rfl, by decide +kernel, by decide +kernel⟩
def B_read_beside_1 : MS := sSeq (sAsg (mIf (mTst (mBin pyLt (mVar 3) (mCall pyLen (mCons (mVar 0) (mNil))))) (mCall m_after_mode (mCons (mVar 0) (mCons (mVar 7) (mCons (mVar 3) (mCons (mVar 4) (mCons (mVar 6) (mNil))))))) (mC .non)) (gN 8))
    (sSeq (sIf (mTst (mBin pyIs (mVar 8) (mC .non))) (sRet (mC .non)) (sNil))
    (sSeq (sAug 5 pyIAdd (mCall m_dots_of (mCons (mVar 7) (mCons (mVar 3) (mCons (mBin pyIx (mVar 8) (mC (.int 0))) (mCons (mVar 4) (mNil)))))))
    (sSeq (sAsg (mVar 8) (gT 2 (gsCons (gN 3) (gsCons (gN 4) (gsNil)))))
    (sAsg (mC (.bl true)) (gN 6)))))
def b_read_beside : MS := sSeq (sIf (mTru (mCall m_is_full (mCons (mVar 1) (mNil)))) (sSeq (sAsg (mCall m_line_in (mCons (mBin pyIx (mBin pyIx (mVar 1) (mC (.int 0))) (mC (.int 1))) (mNil))) (gN 2))
    (sRet (mIf (mTst (mBin pyEq (mCall pyLen (mCons (mVar 2) (mNil))) (mCall pyLen (mCons (mVar 0) (mNil))))) (mVar 2) (mC .non)))) (sNil))
    (sSeq (sAsg (mTup (mCons (mC (.int 0)) (mCons (mC (.str ".")) (mCons (mC (.str "")) (mCons (mC (.bl false)) (mNil)))))) (gT 4 (gsCons (gN 3) (gsCons (gN 4) (gsCons (gN 5) (gsCons (gN 6) (gsNil)))))))
    (sSeq (sFor (mIt (mVar 1)) (gN 7) (B_read_beside_1))
    (sRet (mIf (mTst (mBin pyEq (mVar 3) (mCall pyLen (mCons (mVar 0) (mNil))))) (mVar 5) (mC .non)))))
def m_read_beside : List D → IH → Res D := mBody 9 b_read_beside
theorem ok_read_beside {P : Program} {w : World} {K : PySem.W.Frag} {mg : MG} {base : Heap} {f : Addr} {fd : FuncData} (G : Gs mg K) (F : FunD K "read_beside" "read_beside" (defArgs s_read_beside) (defBody s_read_beside) (defScope s_read_beside) [] [] f fd) (hm : mg "read_beside" = some (.ref f))
    (F_is_full : Fn P w K mg base 1 "is_full" m_is_full 1)
    (F_line_in : Fn P w K mg base 2 "line_in" m_line_in 1)
    (F_dots_of : Fn P w K mg base 2 "dots_of" m_dots_of 4)
    (F_after_mode : Fn P w K mg base 2 "after_mode" m_after_mode 5)
    : Fn P w K mg base 3 "read_beside" m_read_beside 2 := mk_fn F sc_read_beside hm (fun _ _ _ _ _ _ us hl => match us, hl with | [_, _], _ => rfl) fun cv A out s H E C =>
  qss_cons (qs_if (qt_tru (qe_call C F_is_full (qa_cons (qe_var 1) (qa_nil)))) (qss_cons (qs_set 2 C.nd (qe_call C F_line_in (qa_cons (qe_ix (ix_any C) sd_ix (qe_ix (ix_any C) sd_ix (qe_var 1) (qe_int) (fun _ _ => rfl)) (qe_int) (fun _ _ => rfl)) (qa_nil))))
    (qss_one (qs_ret (qe_if (qt_cmp (op_eqA (units_of C)) sd_eq (qe_callB call_len sd_len G.z_len (by decide +kernel) (qa_cons (qe_var 2) (qa_nil))) (qe_callB call_len sd_len G.z_len (by decide +kernel) (qa_cons (qe_var 0) (qa_nil))) (nomark _)) (qe_var 2) (qe_non))))) (qss_nil))
    (qss_cons (qs_asg (qe_tup (qa_cons (qe_int) (qa_cons (qe_gstr G.c_WHITE) (qa_cons (qe_str) (qa_cons (qe_bl) (qa_nil)))))) (qg_tup C.calm (qgs_cons (qg_name 3 C.nd) (qgs_cons (qg_name 4 C.nd) (qgs_cons (qg_name 5 C.nd) (qgs_cons (qg_name 6 C.nd) (qgs_nil)))))))
    (qss_cons (qs_for C (qi_val (qe_var 1)) (qg_name 7 C.nd) (qss_cons (qs_set 8 C.nd (qe_if (qt_cmp op_lt sd_cmp (qe_var 3) (qe_callB call_len sd_len G.z_len (by decide +kernel) (qa_cons (qe_var 0) (qa_nil))) (nomark _)) (qe_call C F_after_mode (qa_cons (qe_var 0) (qa_cons (qe_var 7) (qa_cons (qe_var 3) (qa_cons (qe_var 4) (qa_cons (qe_var 6) (qa_nil))))))) (qe_non)))
    (qss_cons (qs_if (qt_cmp op_isN sd_is (qe_var 8) (qe_non) (nomark _)) (qss_one (qs_ret (qe_non))) (qss_nil))
    (qss_cons (qs_aug 5 C.nd ip_addD sd_ipadd (qe_call C F_dots_of (qa_cons (qe_var 7) (qa_cons (qe_var 3) (qa_cons (qe_ix (ix_any C) sd_ix (qe_var 8) (qe_int) (fun _ _ => rfl)) (qa_cons (qe_var 4) (qa_nil)))))))
    (qss_cons (qs_asg (qe_var 8) (qg_tup C.calm (qgs_cons (qg_name 3 C.nd) (qgs_cons (qg_name 4 C.nd) (qgs_nil)))))
    (qss_one (qs_set 6 C.nd (qe_bl))))))))
    (qss_one (qs_ret (qe_if (qt_cmp (op_eqA (units_of C)) sd_eq (qe_var 3) (qe_callB call_len sd_len G.z_len (by decide +kernel) (qa_cons (qe_var 0) (qa_nil))) (nomark _)) (qe_var 5) (qe_non))))))
/-! is_whole -/
abbrev s_is_whole : Stmt := top 7
abbrev N_is_whole : List Str := ["thing", "least", "most"]
theorem sc_is_whole : FnScope N_is_whole ["thing", "least", "most"] (defScope s_is_whole) := ⟨rfl, rfl, rfl, by decide +kernel, rfl, by decide +kernel, by decide +kernel⟩
def b_is_whole : MS := sSeq (sIf (mOr (mNot (mTru (mCall pyIsi (mCons (mVar 0) (mCons (mC (.op (.ty "int"))) (mNil)))))) (mTru (mCall pyIsi (mCons (mVar 0) (mCons (mC (.op (.ty "bool"))) (mNil)))))) (sRet (mC (.bl false))) (sNil))
    (sRet (mAndV (mOrV (mBin pyIs (mVar 1) (mC .non)) (mBin pyGe (mVar 0) (mVar 1))) (mOrV (mBin pyIs (mVar 2) (mC .non)) (mBin pyLe (mVar 0) (mVar 2)))))
def m_is_whole : List D → IH → Res D := mBody 3 b_is_whole
theorem ok_is_whole {P : Program} {w : World} {K : PySem.W.Frag} {mg : MG} {base : Heap} {f : Addr} {fd : FuncData} (G : Gs mg K) (F : FunD K "is_whole" "is_whole" (defArgs s_is_whole) (defBody s_is_whole) (defScope s_is_whole) [] [] f fd) (hm : mg "is_whole" = some (.ref f))
    : Fn P w K mg base 1 "is_whole" m_is_whole 3 := mk_fn F sc_is_whole hm (fun _ _ _ _ _ _ us hl => match us, hl with | [_, _, _], _ => rfl) fun cv A out s H E C =>
  qss_cons (qs_if (QW.qt (qw_or (qt_not (qt_tru (qe_callB call_isi sd_isi G.z_isinstance (by decide +kernel) (qa_cons (qe_var 0) (qa_cons (qe_ty G.z_int (by decide +kernel)) (qa_nil)))))) (qw_or1 (qt_tru (qe_callB call_isi sd_isi G.z_isinstance (by decide +kernel) (qa_cons (qe_var 0) (qa_cons (qe_ty G.z_bool (by decide +kernel)) (qa_nil)))))))) (qss_one (qs_ret (qe_bl))) (qss_nil))
    (qss_one (qs_ret (qe_and (qe_or (qe_cmp op_isN sd_is (qe_var 1) (qe_non) (nomark _)) (qe_one (qe_cmp op_ge sd_cmp (qe_var 0) (qe_var 1) (nomark _)))) (qe_one (qe_or (qe_cmp op_isN sd_is (qe_var 2) (qe_non) (nomark _)) (qe_one (qe_cmp op_le sd_cmp (qe_var 0) (qe_var 2) (nomark _))))))))
/-! are_runs -/
abbrev s_are_runs : Stmt := top 10
abbrev N_are_runs : List Str := ["thing", "run"]
theorem sc_are_runs : FnScope N_are_runs ["thing"] (defScope s_are_runs) := ⟨rfl, rfl, rfl, by decide +kernel, rfl, by decide +kernel, by decide +kernel⟩
def E_are_runs_1 : ME := mCall m_is_whole (mCons (mVar 1) (mCons (mC (.int 0)) (mCons (mC (.int 40)) (mNil))))
def b_are_runs : MS := sSeq (sIf (mOr (mNot (mTru (mCall pyIsi (mCons (mVar 0) (mCons (mC (.op (.ty "tuple"))) (mNil)))))) (mOr (mTst (mBin pyEq (mVar 0) (mTup (mNil)))) (mNot (mTru (mCall pyAll (mCons (mLc (mIt (mVar 0)) (gN 1) (mYes) (E_are_runs_1) [1]) (mNil))))))) (sRet (mC (.bl false))) (sNil))
    (sRet (mAndV (mBin pyNotIn (mC (.int 0)) (mSl (mVar 0) (moS (mC (.int 1))) (moN))) (mChain pyLe pyLe (mC (.int 1)) (mCall pySum (mCons (mVar 0) (mNil))) (mC (.int 40)))))
def m_are_runs : List D → IH → Res D := mBody 2 b_are_runs
theorem ok_are_runs {P : Program} {w : World} {K : PySem.W.Frag} {mg : MG} {base : Heap} {f : Addr} {fd : FuncData} (G : Gs mg K) (F : FunD K "are_runs" "are_runs" (defArgs s_are_runs) (defBody s_are_runs) (defScope s_are_runs) [] [] f fd) (hm : mg "are_runs" = some (.ref f))
    (F_is_whole : Fn P w K mg base 1 "is_whole" m_is_whole 3)
    : Fn P w K mg base 2 "are_runs" m_are_runs 1 := mk_fn F sc_are_runs hm (fun _ _ _ _ _ _ us hl => match us, hl with | [_], _ => rfl) fun cv A out s H E C =>
  qss_cons (qs_if (QW.qt (qw_or (qt_not (qt_tru (qe_callB call_isi sd_isi G.z_isinstance (by decide +kernel) (qa_cons (qe_var 0) (qa_cons (qe_ty G.z_tuple (by decide +kernel)) (qa_nil)))))) (qw_or (qt_cmp (op_eqA (units_of C)) sd_eq (qe_var 0) (qe_tup (qa_nil)) (nomark _)) (qw_or1 (qt_not (qt_tru (qe_callB (cr_all C.calm) sd_all G.z_all (by decide +kernel) (qa_cons (qe_lc [("run", 1)] C (qi_val (qe_var 0)) (blkOk_by (own := [("run", 1)]) (N := N_are_runs) (sc := defScope s_are_runs) (by decide +kernel)) (fun _ _ _ _ _ C => qx_name 1 C.nd) (fun _ _ _ _ _ C => qts_nil) (fun _ _ _ _ _ C => qe_call C F_is_whole (qa_cons (qe_var 1) (qa_cons (qe_int) (qa_cons (qe_gint G.c_MOST_WIDTH) (qa_nil)))))) (qa_nil))))))))) (qss_one (qs_ret (qe_bl))) (qss_nil))
    (qss_one (qs_ret (qe_and (qe_cmp (op_notInA C) sd_notIn (qe_int) (qe_slice (qe_var 0) (qo_some (qe_int)) (qo_none)) (by rfl)) (qe_one (qe_chain op_le sd_cmp op_le sd_cmp (qe_int) (qe_callB (cr_sumD C.calm) sd_sum G.z_sum (by decide +kernel) (qa_cons (qe_var 0) (qa_nil))) (qe_gint G.c_MOST_WIDTH))))))
/-! is_mode -/
abbrev s_is_mode : Stmt := top 19
abbrev N_is_mode : List Str := ["thing"]
theorem sc_is_mode : FnScope N_is_mode ["thing"] (defScope s_is_mode) := ⟨rfl, rfl, rfl, by decide +kernel, rfl, by decide +kernel, by decide +kernel⟩
def b_is_mode : MS := sSeq (sIf (mOr (mNot (mTru (mCall pyIsi (mCons (mVar 0) (mCons (mC (.op (.ty "tuple"))) (mNil)))))) (mOr (mTst (mBin pyEq (mVar 0) (mTup (mNil)))) (mNot (mTru (mCall pyIsi (mCons (mBin pyIx (mVar 0) (mC (.int 0))) (mCons (mC (.op (.ty "str"))) (mNil)))))))) (sRet (mC (.bl false))) (sNil))
    (sSeq (sIf (mTst (mBin pyEq (mBin pyIx (mVar 0) (mC (.int 0))) (mC (.str "pass")))) (sRet (mBin pyEq (mCall pyLen (mCons (mVar 0) (mNil))) (mC (.int 1)))) (sNil))
    (sSeq (sIf (mTst (mBin pyEq (mBin pyIx (mVar 0) (mC (.int 0))) (mC (.str "stay")))) (sRet (mAndV (mBin pyEq (mCall pyLen (mCons (mVar 0) (mNil))) (mC (.int 2))) (mCall m_is_whole (mCons (mBin pyIx (mVar 0) (mC (.int 1))) (mCons (mUn pyNeg (mC (.int 3))) (mCons (mC (.int 3)) (mNil))))))) (sNil))
    (sSeq (sIf (mTst (mBin pyEq (mBin pyIx (mVar 0) (mC (.int 0))) (mC (.str "full")))) (sRet (mAndV (mBin pyEq (mCall pyLen (mCons (mVar 0) (mNil))) (mC (.int 2))) (mCall m_are_runs (mCons (mBin pyIx (mVar 0) (mC (.int 1))) (mNil))))) (sNil))
    (sSeq (sIf (mOr (mTst (mBin pyNe (mBin pyIx (mVar 0) (mC (.int 0))) (mC (.str "runs")))) (mTst (mBin pyNe (mCall pyLen (mCons (mVar 0) (mNil))) (mC (.int 3))))) (sRet (mC (.bl false))) (sNil))
    (sRet (mAndV (mCall m_is_whole (mCons (mBin pyIx (mVar 0) (mC (.int 1))) (mCons (mC (.int 0)) (mCons (mC (.int 40)) (mNil))))) (mCall m_is_whole (mCons (mBin pyIx (mVar 0) (mC (.int 2))) (mCons (mC (.int 0)) (mCons (mC (.int 40)) (mNil)))))))))))
def m_is_mode : List D → IH → Res D := mBody 1 b_is_mode
theorem ok_is_mode {P : Program} {w : World} {K : PySem.W.Frag} {mg : MG} {base : Heap} {f : Addr} {fd : FuncData} (G : Gs mg K) (F : FunD K "is_mode" "is_mode" (defArgs s_is_mode) (defBody s_is_mode) (defScope s_is_mode) [] [] f fd) (hm : mg "is_mode" = some (.ref f))
    (F_is_whole : Fn P w K mg base 1 "is_whole" m_is_whole 3)
    (F_are_runs : Fn P w K mg base 2 "are_runs" m_are_runs 1)
    : Fn P w K mg base 3 "is_mode" m_is_mode 1 := mk_fn F sc_is_mode hm (fun _ _ _ _ _ _ us hl => match us, hl with | [_], _ => rfl) fun cv A out s H E C =>
  qss_cons (qs_if (QW.qt (qw_or (qt_not (qt_tru (qe_callB call_isi sd_isi G.z_isinstance (by decide +kernel) (qa_cons (qe_var 0) (qa_cons (qe_ty G.z_tuple (by decide +kernel)) (qa_nil)))))) (qw_or (qt_cmp (op_eqA (units_of C)) sd_eq (qe_var 0) (qe_tup (qa_nil)) (nomark _)) (qw_or1 (qt_not (qt_tru (qe_callB call_isi sd_isi G.z_isinstance (by decide +kernel) (qa_cons (qe_ix (ix_any C) sd_ix (qe_var 0) (qe_int) (fun _ _ => rfl)) (qa_cons (qe_ty G.z_str (by decide +kernel)) (qa_nil)))))))))) (qss_one (qs_ret (qe_bl))) (qss_nil))
    (qss_cons (qs_if (qt_cmp (op_eqA (units_of C)) sd_eq (qe_ix (ix_any C) sd_ix (qe_var 0) (qe_int) (fun _ _ => rfl)) (qe_gstr G.c_PASS) (nomark _)) (qss_one (qs_ret (qe_cmp (op_eqA (units_of C)) sd_eq (qe_callB call_len sd_len G.z_len (by decide +kernel) (qa_cons (qe_var 0) (qa_nil))) (qe_int) (nomark _)))) (qss_nil))
    (qss_cons (qs_if (qt_cmp (op_eqA (units_of C)) sd_eq (qe_ix (ix_any C) sd_ix (qe_var 0) (qe_int) (fun _ _ => rfl)) (qe_gstr G.c_STAY) (nomark _)) (qss_one (qs_ret (qe_and (qe_cmp (op_eqA (units_of C)) sd_eq (qe_callB call_len sd_len G.z_len (by decide +kernel) (qa_cons (qe_var 0) (qa_nil))) (qe_int) (nomark _)) (qe_one (qe_call C F_is_whole (qa_cons (qe_ix (ix_any C) sd_ix (qe_var 0) (qe_int) (fun _ _ => rfl)) (qa_cons (qe_un un_neg sd_neg (qe_gint G.c_MOST_STAY)) (qa_cons (qe_gint G.c_MOST_STAY) (qa_nil))))))))) (qss_nil))
    (qss_cons (qs_if (qt_cmp (op_eqA (units_of C)) sd_eq (qe_ix (ix_any C) sd_ix (qe_var 0) (qe_int) (fun _ _ => rfl)) (qe_gstr G.c_FULL) (nomark _)) (qss_one (qs_ret (qe_and (qe_cmp (op_eqA (units_of C)) sd_eq (qe_callB call_len sd_len G.z_len (by decide +kernel) (qa_cons (qe_var 0) (qa_nil))) (qe_int) (nomark _)) (qe_one (qe_call C F_are_runs (qa_cons (qe_ix (ix_any C) sd_ix (qe_var 0) (qe_int) (fun _ _ => rfl)) (qa_nil))))))) (qss_nil))
    (qss_cons (qs_if (QW.qt (qw_or (qt_cmp (op_neA (units_of C)) sd_ne (qe_ix (ix_any C) sd_ix (qe_var 0) (qe_int) (fun _ _ => rfl)) (qe_gstr G.c_RUNS) (nomark _)) (qw_or1 (qt_cmp (op_neA (units_of C)) sd_ne (qe_callB call_len sd_len G.z_len (by decide +kernel) (qa_cons (qe_var 0) (qa_nil))) (qe_int) (nomark _))))) (qss_one (qs_ret (qe_bl))) (qss_nil))
    (qss_one (qs_ret (qe_and (qe_call C F_is_whole (qa_cons (qe_ix (ix_any C) sd_ix (qe_var 0) (qe_int) (fun _ _ => rfl)) (qa_cons (qe_int) (qa_cons (qe_gint G.c_MOST_WIDTH) (qa_nil))))) (qe_one (qe_call C F_is_whole (qa_cons (qe_ix (ix_any C) sd_ix (qe_var 0) (qe_int) (fun _ _ => rfl)) (qa_cons (qe_int) (qa_cons (qe_gint G.c_MOST_WIDTH) (qa_nil)))))))))))))
/-! need_telling -/
abbrev s_need_telling : Stmt := top 21
abbrev N_need_telling : List Str := ["thing", "number", "mode"]
theorem sc_need_telling : FnScope N_need_telling ["thing"] (defScope s_need_telling) := ⟨rfl, rfl, rfl, by decide +kernel, rfl, by decide +kernel, by decide +kernel⟩
def B_need_telling_1 : MS := sIf (mOr (mNot (mTru (mCall m_is_mode (mCons (mVar 2) (mNil))))) (mAnd (mTst (mBin pyGt (mVar 1) (mC (.int 0)))) (mTst (mBin pyIn (mC (.str "full")) (mTup (mCons (mBin pyIx (mVar 2) (mC (.int 0))) (mCons (mBin pyIx (mBin pyIx (mVar 0) (mC (.int 0))) (mC (.int 0))) (mNil)))))))) ((fun _ _ => .stk)) (sNil)
def b_need_telling : MS := sSeq (sIf (mOr (mNot (mTru (mCall pyIsi (mCons (mVar 0) (mCons (mC (.op (.ty "tuple"))) (mNil)))))) (mTst (mBin pyGt (mCall pyLen (mCons (mVar 0) (mNil))) (mC (.int 80))))) ((fun _ _ => .stk)) (sNil))
    (sSeq (sFor (mEn (mVar 0)) (gT 2 (gsCons (gN 1) (gsCons (gN 2) (gsNil)))) (B_need_telling_1))
    (sRet (mVar 0)))
def m_need_telling : List D → IH → Res D := mBody 3 b_need_telling
theorem ok_need_telling {P : Program} {w : World} {K : PySem.W.Frag} {mg : MG} {base : Heap} {f : Addr} {fd : FuncData} (G : Gs mg K) (F : FunD K "need_telling" "need_telling" (defArgs s_need_telling) (defBody s_need_telling) (defScope s_need_telling) [] [] f fd) (hm : mg "need_telling" = some (.ref f))
    (F_is_mode : Fn P w K mg base 3 "is_mode" m_is_mode 1)
    : Fn P w K mg base 4 "need_telling" m_need_telling 1 := mk_fn F sc_need_telling hm (fun _ _ _ _ _ _ us hl => match us, hl with | [_], _ => rfl) fun cv A out s H E C =>
  qss_cons (qs_if (QW.qt (qw_or (qt_not (qt_tru (qe_callB call_isi sd_isi G.z_isinstance (by decide +kernel) (qa_cons (qe_var 0) (qa_cons (qe_ty G.z_tuple (by decide +kernel)) (qa_nil)))))) (qw_or1 (qt_cmp op_gt sd_cmp (qe_callB call_len sd_len G.z_len (by decide +kernel) (qa_cons (qe_var 0) (qa_nil))) (qe_gint G.c_MOST_MODES) (nomark _))))) (qss_one (qs_never)) (qss_nil))
    (qss_cons (qs_for C (qi_enum G.z_enumerate (qe_var 0)) (qg_tup C.calm (qgs_cons (qg_name 1 C.nd) (qgs_cons (qg_name 2 C.nd) (qgs_nil)))) (qss_one (qs_if (QW.qt (qw_or (qt_not (qt_tru (qe_call C F_is_mode (qa_cons (qe_var 2) (qa_nil))))) (qw_or1 (QW.qt (qw_and (qt_cmp op_gt sd_cmp (qe_var 1) (qe_int) (nomark _)) (qw_and1 (qt_cmp (op_inA C) sd_in (qe_gstr G.c_FULL) (qe_tup (qa_cons (qe_ix (ix_any C) sd_ix (qe_var 2) (qe_int) (fun _ _ => rfl)) (qa_cons (qe_ix (ix_any C) sd_ix (qe_ix (ix_any C) sd_ix (qe_var 0) (qe_int) (fun _ _ => rfl)) (qe_int) (fun _ _ => rfl)) (qa_nil)))) (by rfl)))))))) (qss_one (qs_never)) (qss_nil))))
    (qss_one (qs_ret (qe_var 0))))
/-! read_line -/
abbrev s_read_line : Stmt := top 27
abbrev N_read_line : List Str := ["reference", "telling"]
theorem sc_read_line : FnScope N_read_line ["reference", "telling"] (defScope s_read_line) := ⟨rfl, rfl, rfl, by decide +kernel, rfl, by decide +kernel, by decide +kernel⟩
def b_read_line : MS := sSeq (sExpr (mCall m_need_line (mCons (mVar 0) (mNil))))
    (sRet (mCall m_read_beside (mCons (mVar 0) (mCons (mCall m_need_telling (mCons (mVar 1) (mNil))) (mNil)))))
def m_read_line : List D → IH → Res D := mBody 2 b_read_line
theorem ok_read_line {P : Program} {w : World} {K : PySem.W.Frag} {mg : MG} {base : Heap} {f : Addr} {fd : FuncData} (G : Gs mg K) (F : FunD K "read_line" "read_line" (defArgs s_read_line) (defBody s_read_line) (defScope s_read_line) [] [] f fd) (hm : mg "read_line" = some (.ref f))
    (F_need_line : Fn P w K mg base 1 "need_line" m_need_line 1)
    (F_read_beside : Fn P w K mg base 3 "read_beside" m_read_beside 2)
    (F_need_telling : Fn P w K mg base 4 "need_telling" m_need_telling 1)
    : Fn P w K mg base 5 "read_line" m_read_line 2 := mk_fn F sc_read_line hm (fun _ _ _ _ _ _ us hl => match us, hl with | [_, _], _ => rfl) fun cv A out s H E C =>
  qss_cons (qs_expr (qe_call C F_need_line (qa_cons (qe_var 0) (qa_nil))))
    (qss_one (qs_ret (qe_call C F_read_beside (qa_cons (qe_var 0) (qa_cons (qe_call C F_need_telling (qa_cons (qe_var 1) (qa_nil))) (qa_nil))))))
/-! _law_any_mode -/
abbrev s_law_any_mode : Stmt := top 44
abbrev N_law_any_mode : List Str := ["_law_m", "_law_wide", "_law_some"]
theorem sc_law_any_mode : FnScope N_law_any_mode ["_law_m", "_law_wide"] (defScope s_law_any_mode) := ⟨rfl, rfl, rfl, by decide +kernel, rfl, by decide +kernel, by decide +kernel⟩
def b_law_any_mode : MS := sSeq (sAsg (mLst (mCons (mTup (mCons (mC (.str "stay")) (mCons (mBin pySub (mCall m_law_next (mCons (mVar 0) (mCons (mC (.int 7)) (mNil)))) (mC (.int 3))) (mNil)))) (mCons (mTup (mCons (mC (.str "stay")) (mCons (mBin pySub (mCall m_law_next (mCons (mVar 0) (mCons (mC (.int 3)) (mNil)))) (mC (.int 1))) (mNil)))) (mCons (mTup (mCons (mC (.str "pass")) (mNil))) (mNil))))) (gN 2))
    (sRet (mCall m_law_of (mCons (mVar 0) (mCons (mBin pyAdd (mVar 2) (mLst (mCons (mTup (mCons (mC (.str "runs")) (mCons (mCall m_law_next (mCons (mVar 0) (mCons (mVar 1) (mNil)))) (mCons (mCall m_law_next (mCons (mVar 0) (mCons (mVar 1) (mNil)))) (mNil))))) (mNil)))) (mNil)))))
def m_law_any_mode : List D → IH → Res D := mBody 3 b_law_any_mode
theorem ok_law_any_mode {P : Program} {w : World} {K : PySem.W.Frag} {mg : MG} {base : Heap} {f : Addr} {fd : FuncData} (G : Gs mg K) (F : FunD K "_law_any_mode" "_law_any_mode" (defArgs s_law_any_mode) (defBody s_law_any_mode) (defScope s_law_any_mode) [] [] f fd) (hm : mg "_law_any_mode" = some (.ref f))
    (F_law_of : Fn P w K mg base 2 "_law_of" m_law_of 2)
    (F_law_next : Fn P w K mg base 1 "_law_next" m_law_next 2)
    : Fn P w K mg base 3 "_law_any_mode" m_law_any_mode 2 := mk_fn F sc_law_any_mode hm (fun _ _ _ _ _ _ us hl => match us, hl with | [_, _], _ => rfl) fun cv A out s H E C =>
  qss_cons (qs_set 2 C.nd (qe_lst (qa_cons (qe_tup (qa_cons (qe_str) (qa_cons (qe_bin op_sub sd_sub (qe_call C F_law_next (qa_cons (qe_var 0) (qa_cons (qe_int) (qa_nil)))) (qe_int)) (qa_nil)))) (qa_cons (qe_tup (qa_cons (qe_str) (qa_cons (qe_bin op_sub sd_sub (qe_call C F_law_next (qa_cons (qe_var 0) (qa_cons (qe_int) (qa_nil)))) (qe_int)) (qa_nil)))) (qa_cons (qe_tup (qa_cons (qe_str) (qa_nil))) (qa_nil))))))
    (qss_one (qs_ret (qe_call C F_law_of (qa_cons (qe_var 0) (qa_cons (qe_bin op_addD sd_add (qe_var 2) (qe_lst (qa_cons (qe_tup (qa_cons (qe_str) (qa_cons (qe_call C F_law_next (qa_cons (qe_var 0) (qa_cons (qe_var 1) (qa_nil)))) (qa_cons (qe_call C F_law_next (qa_cons (qe_var 0) (qa_cons (qe_var 1) (qa_nil)))) (qa_nil))))) (qa_nil)))) (qa_nil))))))
/-! _law_read -/
abbrev s_law_read : Stmt := top 40
abbrev N_law_read : List Str := ["_law_reference", "_law_telling_here", "_law_row_here", "_law_dot", "_law_begun_here", "_law_mode", "_law_done_here", "_law_k", "_law_piece"]
theorem sc_law_read : FnScope N_law_read ["_law_reference", "_law_telling_here"] (defScope s_law_read) := ⟨rfl, rfl, rfl, by decide +kernel, rfl, by decide +kernel, by decide +kernel⟩
def E_law_read_1 : ME := mBin pyMul (mBin pyIx (mC (.str ".#")) (mBin pyMod (mCall pyInt (mCons (mVar 7) (mNil))) (mC (.int 2)))) (mVar 8)
def B_law_read_2 : MS := sSeq (sIf (mTst (mBin pyGe (mCall pyLen (mCons (mVar 2) (mNil))) (mCall pyLen (mCons (mVar 0) (mNil))))) (sRet (mC .non)) (sNil))
    (sSeq (sAsg (mCall m_law_done (mCons (mVar 0) (mCons (mVar 5) (mCons (mCall pyLen (mCons (mVar 2) (mNil))) (mCons (mVar 3) (mCons (mVar 4) (mNil))))))) (gN 6))
    (sSeq (sIf (mTst (mBin pyIs (mVar 6) (mC .non))) (sRet (mC .non)) (sNil))
    (sPar3 2 3 4 (mCons (mBin pyAdd (mVar 2) (mBin pyIx (mVar 6) (mC (.int 0)))) (mCons (mBin pyIx (mVar 6) (mC (.int 1))) (mCons (mC (.bl true)) (mNil)))))))
def b_law_read : MS := sSeq (sIf (mAnd (mTst (mBin pyNe (mVar 1) (mTup (mNil)))) (mTst (mBin pyEq (mBin pyIx (mBin pyIx (mVar 1) (mC (.int 0))) (mC (.int 0))) (mC (.str "full"))))) (sSeq (sAsg (mMeth "str" pyJoin (mC (.str "")) (mCons (mLc (mEn (mBin pyIx (mBin pyIx (mVar 1) (mC (.int 0))) (mC (.int 1)))) (gT 2 (gsCons (gN 7) (gsCons (gN 8) (gsNil)))) (mYes) (E_law_read_1) [7, 8]) (mNil))) (gN 2))
    (sRet (mIf (mTst (mBin pyEq (mCall pyLen (mCons (mVar 2) (mNil))) (mCall pyLen (mCons (mVar 0) (mNil))))) (mVar 2) (mC .non)))) (sNil))
    (sSeq (sAsg (mTup (mCons (mC (.str "")) (mCons (mC (.str ".")) (mCons (mC (.bl false)) (mNil))))) (gT 3 (gsCons (gN 2) (gsCons (gN 3) (gsCons (gN 4) (gsNil))))))
    (sSeq (sFor (mIt (mVar 1)) (gN 5) (B_law_read_2))
    (sRet (mIf (mTst (mBin pyEq (mCall pyLen (mCons (mVar 2) (mNil))) (mCall pyLen (mCons (mVar 0) (mNil))))) (mVar 2) (mC .non)))))
def m_law_read : List D → IH → Res D := mBody 9 b_law_read
theorem ok_law_read {P : Program} {w : World} {K : PySem.W.Frag} {mg : MG} {base : Heap} {f : Addr} {fd : FuncData} (G : Gs mg K) (F : FunD K "_law_read" "_law_read" (defArgs s_law_read) (defBody s_law_read) (defScope s_law_read) [] [] f fd) (hm : mg "_law_read" = some (.ref f))
    (F_law_done : Fn P w K mg base 2 "_law_done" m_law_done 5)
    : Fn P w K mg base 3 "_law_read" m_law_read 2 := mk_fn F sc_law_read hm (fun _ _ _ _ _ _ us hl => match us, hl with | [_, _], _ => rfl) fun cv A out s H E C =>
  qss_cons (qs_if (QW.qt (qw_and (qt_cmp (op_neA (units_of C)) sd_ne (qe_var 1) (qe_tup (qa_nil)) (nomark _)) (qw_and1 (qt_cmp (op_eqA (units_of C)) sd_eq (qe_ix (ix_any C) sd_ix (qe_ix (ix_any C) sd_ix (qe_var 1) (qe_int) (fun _ _ => rfl)) (qe_int) (fun _ _ => rfl)) (qe_str) (nomark _))))) (qss_cons (qs_set 2 C.nd (qe_mstr PySem.F.slot_str_join PySem.F.type_str_join mt_joinA sd_join (qe_str) (qa_cons (qe_lc [("_law_k", 7), ("_law_piece", 8)] C (qi_enum G.z_enumerate (qe_ix (ix_any C) sd_ix (qe_ix (ix_any C) sd_ix (qe_var 1) (qe_int) (fun _ _ => rfl)) (qe_int) (fun _ _ => rfl))) (blkOk_by (own := [("_law_k", 7), ("_law_piece", 8)]) (N := N_law_read) (sc := defScope s_law_read) (by decide +kernel)) (fun _ _ _ _ _ C => qx_tup C.calm (qxs_cons (qx_name 7 C.nd) (qxs_cons (qx_name 8 C.nd) (qxs_nil)))) (fun _ _ _ _ _ C => qts_nil) (fun _ _ _ _ _ C => qe_bin op_mulD sd_mul (qe_ix (ix_any C) sd_ix (qe_str) (qe_bin op_mod sd_mod (qe_callT call_int1 sd_int G.z_int (by decide +kernel) (qa_cons (qe_var 7) (qa_nil))) (qe_int)) (fun _ _ => rfl)) (qe_var 8))) (qa_nil))))
    (qss_one (qs_ret (qe_if (qt_cmp (op_eqA (units_of C)) sd_eq (qe_callB call_len sd_len G.z_len (by decide +kernel) (qa_cons (qe_var 2) (qa_nil))) (qe_callB call_len sd_len G.z_len (by decide +kernel) (qa_cons (qe_var 0) (qa_nil))) (nomark _)) (qe_var 2) (qe_non))))) (qss_nil))
    (qss_cons (qs_asg (qe_tup (qa_cons (qe_str) (qa_cons (qe_str) (qa_cons (qe_bl) (qa_nil))))) (qg_tup C.calm (qgs_cons (qg_name 2 C.nd) (qgs_cons (qg_name 3 C.nd) (qgs_cons (qg_name 4 C.nd) (qgs_nil))))))
    (qss_cons (qs_for C (qi_val (qe_var 1)) (qg_name 5 C.nd) (qss_cons (qs_if (qt_cmp op_ge sd_cmp (qe_callB call_len sd_len G.z_len (by decide +kernel) (qa_cons (qe_var 2) (qa_nil))) (qe_callB call_len sd_len G.z_len (by decide +kernel) (qa_cons (qe_var 0) (qa_nil))) (nomark _)) (qss_one (qs_ret (qe_non))) (qss_nil))
    (qss_cons (qs_set 6 C.nd (qe_call C F_law_done (qa_cons (qe_var 0) (qa_cons (qe_var 5) (qa_cons (qe_callB call_len sd_len G.z_len (by decide +kernel) (qa_cons (qe_var 2) (qa_nil))) (qa_cons (qe_var 3) (qa_cons (qe_var 4) (qa_nil))))))))
    (qss_cons (qs_if (qt_cmp op_isN sd_is (qe_var 6) (qe_non) (nomark _)) (qss_one (qs_ret (qe_non))) (qss_nil))
    (qss_one (qs_par3 2 3 4 C.calm C.nd (qa_cons (qe_bin op_addD sd_add (qe_var 2) (qe_ix (ix_any C) sd_ix (qe_var 6) (qe_int) (fun _ _ => rfl))) (qa_cons (qe_ix (ix_any C) sd_ix (qe_var 6) (qe_int) (fun _ _ => rfl)) (qa_cons (qe_bl) (qa_nil))))))))))
    (qss_one (qs_ret (qe_if (qt_cmp (op_eqA (units_of C)) sd_eq (qe_callB call_len sd_len G.z_len (by decide +kernel) (qa_cons (qe_var 2) (qa_nil))) (qe_callB call_len sd_len G.z_len (by decide +kernel) (qa_cons (qe_var 0) (qa_nil))) (nomark _)) (qe_var 2) (qe_non))))))
/-! _law_runs -/
abbrev s_law_runs : Stmt := top 37
abbrev N_law_runs : List Str := ["_law_row_here", "_law_found", "_law_dot", "_law_size", "_law_one"]
theorem sc_law_runs : FnScope N_law_runs ["_law_row_here"] (defScope s_law_runs) := ⟨rfl, rfl, rfl, by decide +kernel, rfl, by decide +kernel, by decide +kernel⟩
def B_law_runs_1 : MS := sSeq (sIf (mTst (mBin pyNe (mVar 4) (mVar 2))) (sPar3 1 2 3 (mCons (mBin pyAdd (mVar 1) (mLst (mCons (mVar 3) (mNil)))) (mCons (mVar 4) (mCons (mC (.int 0)) (mNil))))) (sNil))
    (sAsg (mBin pyAdd (mVar 3) (mC (.int 1))) (gN 3))
def b_law_runs : MS := sSeq (sPar3 1 2 3 (mCons (mLst (mNil)) (mCons (mC (.str ".")) (mCons (mC (.int 0)) (mNil)))))
    (sSeq (sFor (mIt (mVar 0)) (gN 4) (B_law_runs_1))
    (sRet (mCall pyTuple (mCons (mBin pyAdd (mVar 1) (mLst (mCons (mVar 3) (mNil)))) (mNil)))))
def m_law_runs : List D → IH → Res D := mBody 5 b_law_runs
theorem ok_law_runs {P : Program} {w : World} {K : PySem.W.Frag} {mg : MG} {base : Heap} {f : Addr} {fd : FuncData} (G : Gs mg K) (F : FunD K "_law_runs" "_law_runs" (defArgs s_law_runs) (defBody s_law_runs) (defScope s_law_runs) [] [] f fd) (hm : mg "_law_runs" = some (.ref f))
    : Fn P w K mg base 1 "_law_runs" m_law_runs 1 := mk_fn F sc_law_runs hm (fun _ _ _ _ _ _ us hl => match us, hl with | [_], _ => rfl) fun cv A out s H E C =>
  qss_cons (qs_par3 1 2 3 C.calm C.nd (qa_cons (qe_lst (qa_nil)) (qa_cons (qe_str) (qa_cons (qe_int) (qa_nil)))))
    (qss_cons (qs_for C (qi_val (qe_var 0)) (qg_name 4 C.nd) (qss_cons (qs_if (qt_cmp (op_neA (units_of C)) sd_ne (qe_var 4) (qe_var 2) (nomark _)) (qss_one (qs_par3 1 2 3 C.calm C.nd (qa_cons (qe_bin op_addD sd_add (qe_var 1) (qe_lst (qa_cons (qe_var 3) (qa_nil)))) (qa_cons (qe_var 4) (qa_cons (qe_int) (qa_nil)))))) (qss_nil))
    (qss_one (qs_set 3 C.nd (qe_bin op_addD sd_add (qe_var 3) (qe_int))))))
    (qss_one (qs_ret (qe_callT call_tuple_of sd_tuple G.z_tuple (by decide +kernel) (qa_cons (qe_bin op_addD sd_add (qe_var 1) (qe_lst (qa_cons (qe_var 3) (qa_nil)))) (qa_nil))))))
/-! is_right -/
abbrev s_is_right : Stmt := top 28
abbrev N_is_right : List Str := ["reference", "telling"]
theorem sc_is_right : FnScope N_is_right ["reference", "telling"] (defScope s_is_right) := ⟨rfl, rfl, rfl, by decide +kernel, rfl, by decide +kernel, by decide +kernel⟩
def b_is_right : MS := sRet (mBin pyIsNot (mCall m_read_line (mCons (mVar 0) (mCons (mVar 1) (mNil)))) (mC .non))
def m_is_right : List D → IH → Res D := mBody 2 b_is_right
theorem ok_is_right {P : Program} {w : World} {K : PySem.W.Frag} {mg : MG} {base : Heap} {f : Addr} {fd : FuncData} (G : Gs mg K) (F : FunD K "is_right" "is_right" (defArgs s_is_right) (defBody s_is_right) (defScope s_is_right) [] [] f fd) (hm : mg "is_right" = some (.ref f))
    (F_read_line : Fn P w K mg base 5 "read_line" m_read_line 2)
    : Fn P w K mg base 6 "is_right" m_is_right 2 := mk_fn F sc_is_right hm (fun _ _ _ _ _ _ us hl => match us, hl with | [_, _], _ => rfl) fun cv A out s H E C =>
  qss_one (qs_ret (qe_cmp op_notN sd_isNot (qe_call C F_read_line (qa_cons (qe_var 0) (qa_cons (qe_var 1) (qa_nil)))) (qe_non) (nomark _)))
/-! law -/
abbrev s_law : Stmt := top 45
abbrev N_law : List Str := ["_law_script", "_law_m", "_law_turn", "_law_wide", "_law_row_here", "_law_beside", "_law_telling_here", "_law_far", "_law_one", "_law_reference", "_law_due", "_law_told", "_law_k"]
theorem sc_law : FnScope N_law ["_law_script"] (defScope s_law) := ⟨rfl, rfl, rfl, by decide +kernel, rfl, by decide +kernel, by decide +kernel⟩
def E_law_1 : ME := mCall m_law_any_mode (mCons (mVar 1) (mCons (mVar 3) (mNil)))
def B_law_2 : MS := sSeq (sAsg (mCall m_law_read (mCons (mVar 9) (mCons (mVar 8) (mNil)))) (gN 10))
    (sSeq (sAsg (mLst (mCons (mCall m_read_line (mCons (mVar 9) (mCons (mVar 8) (mNil)))) (mCons (mCall m_is_right (mCons (mVar 9) (mCons (mVar 8) (mNil)))) (mNil)))) (gN 11))
    (sIf (mTst (mBin pyNe (mCall pyReprA (mCons (mVar 11) (mNil))) (mCall pyReprA (mCons (mLst (mCons (mVar 10) (mCons (mBin pyIsNot (mVar 10) (mC .non)) (mNil)))) (mNil))))) (sRet (mC (.bl false))) (sNil)))
def B_law_3 : MS := sFor (mIt (mCall m_law_all_rows (mCons (mIf (mTst (mBin pyLt (mVar 3) (mC (.int 8)))) (mVar 3) (mC (.int 5))) (mNil)))) (gN 9) (B_law_2)
def B_law_4 : MS := sSeq (sAsg (mBin pyAdd (mC (.int 1)) (mCall m_law_next (mCons (mVar 1) (mCons (mC (.int 8)) (mNil))))) (gN 3))
    (sSeq (sAsg (mCall m_law_row (mCons (mVar 1) (mCons (mVar 3) (mNil)))) (gN 4))
    (sSeq (sAsg (mCall m_law_near_row (mCons (mVar 1) (mCons (mVar 4) (mNil)))) (gN 5))
    (sSeq (sAsg (mCall m_law_telling (mCons (mVar 1) (mCons (mVar 5) (mCons (mVar 4) (mNil))))) (gN 6))
    (sSeq (sIf (mTst (mBin pyNe (mCall pyReprA (mCons (mCall m_read_line (mCons (mVar 5) (mCons (mVar 6) (mNil)))) (mNil))) (mCall pyReprA (mCons (mVar 4) (mNil))))) (sRet (mC (.bl false))) (sNil))
    (sSeq (sAsg (mCall pyTuple (mCons (mLc (mRng1 (mCall m_law_next (mCons (mVar 1) (mCons (mC (.int 5)) (mNil))))) (gN 12) (mYes) (E_law_1) [12]) (mNil))) (gN 7))
    (sFor (mIt (mTup (mCons (mVar 6) (mCons (mVar 7) (mCons (mSl (mVar 6) (moN) (moS (mUn pyNeg (mC (.int 1))))) (mCons (mTup (mCons (mTup (mCons (mC (.str "full")) (mCons (mCall m_law_runs (mCons (mVar 4) (mNil))) (mNil)))) (mNil))) (mCons (mTup (mNil)) (mNil)))))))) (gN 8) (B_law_3)))))))
def b_law : MS := sSeq (sAsg (mCall m_law_begun (mCons (mVar 0) (mNil))) (gN 1))
    (sSeq (sFor (mRng1 (mBin pyAdd (mC (.int 4)) (mCall pyMin (mCons (mCall pyLen (mCons (mVar 0) (mNil))) (mCons (mC (.int 6)) (mNil)))))) (gN 2) (B_law_4))
    (sRet (mC (.bl true))))
def m_law : List D → IH → Res D := mBody 13 b_law
theorem ok_law {P : Program} {w : World} {K : PySem.W.Frag} {mg : MG} {base : Heap} {f : Addr} {fd : FuncData} (G : Gs mg K) (F : FunD K "law" "law" (defArgs s_law) (defBody s_law) (defScope s_law) [] [] f fd) (hm : mg "law" = some (.ref f))
    (F_law_begun : Fn P w K mg base 1 "_law_begun" m_law_begun 1)
    (F_law_row : Fn P w K mg base 3 "_law_row" m_law_row 2)
    (F_law_near_row : Fn P w K mg base 2 "_law_near_row" m_law_near_row 2)
    (F_law_telling : Fn P w K mg base 4 "_law_telling" m_law_telling 3)
    (F_law_next : Fn P w K mg base 1 "_law_next" m_law_next 2)
    (F_law_all_rows : Fn P w K mg base 1 "_law_all_rows" m_law_all_rows 1)
    (F_read_line : Fn P w K mg base 5 "read_line" m_read_line 2)
    (F_law_any_mode : Fn P w K mg base 3 "_law_any_mode" m_law_any_mode 2)
    (F_law_read : Fn P w K mg base 3 "_law_read" m_law_read 2)
    (F_law_runs : Fn P w K mg base 1 "_law_runs" m_law_runs 1)
    (F_is_right : Fn P w K mg base 6 "is_right" m_is_right 2)
    : FnG P w K mg base 7 f fd ["_law_script"] (spM mg K m_law 1) := mk_fnG F sc_law fun cv A out s H E C =>
  qss_cons (qs_set 1 C.nd (qe_call C F_law_begun (qa_cons (qe_var 0) (qa_nil))))
    (qss_cons (qs_for C (qi_range1 G.z_range (qe_bin op_addD sd_add (qe_int) (qe_callB (cr_minA C) sd_min G.z_min (by decide +kernel) (qa_cons (qe_callB call_len sd_len G.z_len (by decide +kernel) (qa_cons (qe_var 0) (qa_nil))) (qa_cons (qe_int) (qa_nil)))))) (qg_name 2 C.nd) (qss_cons (qs_set 3 C.nd (qe_bin op_addD sd_add (qe_int) (qe_call C F_law_next (qa_cons (qe_var 1) (qa_cons (qe_int) (qa_nil))))))
    (qss_cons (qs_set 4 C.nd (qe_call C F_law_row (qa_cons (qe_var 1) (qa_cons (qe_var 3) (qa_nil)))))
    (qss_cons (qs_set 5 C.nd (qe_call C F_law_near_row (qa_cons (qe_var 1) (qa_cons (qe_var 4) (qa_nil)))))
    (qss_cons (qs_set 6 C.nd (qe_call C F_law_telling (qa_cons (qe_var 1) (qa_cons (qe_var 5) (qa_cons (qe_var 4) (qa_nil))))))
    (qss_cons (qs_if (qt_cmp (op_neA (units_of C)) sd_ne (qe_callB (cr_reprA C) sd_reprA G.z_repr (by decide +kernel) (qa_cons (qe_call C F_read_line (qa_cons (qe_var 5) (qa_cons (qe_var 6) (qa_nil)))) (qa_nil))) (qe_callB (cr_reprA C) sd_reprA G.z_repr (by decide +kernel) (qa_cons (qe_var 4) (qa_nil))) (nomark _)) (qss_one (qs_ret (qe_bl))) (qss_nil))
    (qss_cons (qs_set 7 C.nd (qe_callT call_tuple_of sd_tuple G.z_tuple (by decide +kernel) (qa_cons (qe_lc [("_law_k", 12)] C (qi_range1 G.z_range (qe_call C F_law_next (qa_cons (qe_var 1) (qa_cons (qe_int) (qa_nil))))) (blkOk_by (own := [("_law_k", 12)]) (N := N_law) (sc := defScope s_law) (by decide +kernel)) (fun _ _ _ _ _ C => qx_name 12 C.nd) (fun _ _ _ _ _ C => qts_nil) (fun _ _ _ _ _ C => qe_call C F_law_any_mode (qa_cons (qe_var 1) (qa_cons (qe_var 3) (qa_nil))))) (qa_nil))))
    (qss_one (qs_for C (qi_val (qe_tup (qa_cons (qe_var 6) (qa_cons (qe_var 7) (qa_cons (qe_slice (qe_var 6) (qo_none) (qo_some (qe_un un_neg sd_neg (qe_int)))) (qa_cons (qe_tup (qa_cons (qe_tup (qa_cons (qe_str) (qa_cons (qe_call C F_law_runs (qa_cons (qe_var 4) (qa_nil))) (qa_nil)))) (qa_nil))) (qa_cons (qe_tup (qa_nil)) (qa_nil)))))))) (qg_name 8 C.nd) (qss_one (qs_for C (qi_val (qe_call C F_law_all_rows (qa_cons (qe_if (qt_cmp op_lt sd_cmp (qe_var 3) (qe_int) (nomark _)) (qe_var 3) (qe_int)) (qa_nil)))) (qg_name 9 C.nd) (qss_cons (qs_set 10 C.nd (qe_call C F_law_read (qa_cons (qe_var 9) (qa_cons (qe_var 8) (qa_nil)))))
    (qss_cons (qs_set 11 C.nd (qe_lst (qa_cons (qe_call C F_read_line (qa_cons (qe_var 9) (qa_cons (qe_var 8) (qa_nil)))) (qa_cons (qe_call C F_is_right (qa_cons (qe_var 9) (qa_cons (qe_var 8) (qa_nil)))) (qa_nil)))))
    (qss_one (qs_if (qt_cmp (op_neA (units_of C)) sd_ne (qe_callB (cr_reprA C) sd_reprA G.z_repr (by decide +kernel) (qa_cons (qe_var 11) (qa_nil))) (qe_callB (cr_reprA C) sd_reprA G.z_repr (by decide +kernel) (qa_cons (qe_lst (qa_cons (qe_var 10) (qa_cons (qe_cmp op_notN sd_isNot (qe_var 10) (qe_non) (nomark _)) (qa_nil)))) (qa_nil))) (nomark _)) (qss_one (qs_ret (qe_bl))) (qss_nil))))))))))))))))
    (qss_one (qs_ret (qe_bl))))
end LW
set_option Elab.async false
set_option linter.all false
set_option maxRecDepth 100000
set_option maxHeartbeats 4000000
namespace LW
open PySem L2 DD VV
/-! _law_begun(_law_script, _law_great, _law_cell) : fr2 -/
def X_law_begun_1 : VE := vVar 2
def C_law_begun_1 : VT := vTst (vBin uGe (vVar 2) (vBin uPow (vC (.int 10)) (vC (.int 18))))
def w_law_begun : VS := vSeq (vAsg (vLc (vIt (vVar 0)) (tN 2) (C_law_begun_1) (X_law_begun_1) [2]) 1)
    (vRetD [1] (vpCons (vC (.str "cells")) (vOp uList (vCons (vVar 0) (vNil))) (vpCons (vC (.str "great")) (vVar 1) (vpCons (vC (.str "spot")) (vC (.int 0)) (vpNil)))))
def v_law_begun : VF := vBody 3 0 w_law_begun
theorem sim_law_begun : SF [] (.fr 2) m_law_begun v_law_begun := sf_ofL 3 [0, 0, 0] 3 rfl (dp' := dpOf [0, 0, 0]) (show SS [] (.fr 2) (dpOf []) (dpOf [0, 0, 0]) (dpOf [0, 0, 0]) b_law_begun w_law_begun from ss_seq (ss_asgD (l := [0, 0, 0]) (io := []) 1 1 (pd_of (by decide)) (by decide) (se_lc (k := 0) (si_val (se_var 0 rfl)) (sg_name 2 rfl) (sb_tst ((se_binL od_cmp fl_cmp ((se_var 2 rfl).fz_bor) ((se_binL od_pow fl_pow ((se_int).fl_bor) ((se_int).fl_bor)).fl_bor)).fl_bor)) ((se_var 2 rfl).fz_fr0) (by decide) (by decide)) (by decide))
    (ss_retD (k := 1) (T := [1]) (io := []) (pd_of (by decide)) (spt_cons ((se_str).fl_fz) (se_callO oo_list (sa_cons (se_var 0 rfl) (sa_nil))) (spt_take 1 rfl (by decide) ((se_str).fl_fz) (spt_cons ((se_str).fl_fz) ((se_int).fl_fr 1) (spt_nil)))) (by decide) (by decide))) (pd_of (by decide)) nofun
/-! _law_next(_law_m, _law_total, _law_rest, _law_k, _law_cell, _law_mixed) : fz -/
def L_law_next_1 : VS := vSetI 0 (vHere 0) (vC (.str "great")) (vSlF (vBin uIx (vVar 0) (vC (.str "great"))) (voS (vC (.int 1))) (voN))
def W_law_next_1 : VT := vAnd (vTst (vBin uNe (vBin uIx (vVar 0) (vC (.str "great"))) (vLst (vNil)))) (vTst (vBin uEq (vBin uIx (vBin uIx (vVar 0) (vC (.str "great"))) (vC (.int 0))) (vC (.int 0))))
def w_law_next : VS := vSeq (vWhile 100000 (W_law_next_1) (L_law_next_1))
    (vSeq (vIfS (vTst (vBin uNe (vBin uIx (vVar 0) (vC (.str "great"))) (vLst (vNil)))) (vSeq (vAsg (vOp uInt (vCons (vBin uIx (vBin uIx (vVar 0) (vC (.str "great"))) (vC (.int 0))) (vNil))) 2)
    (vSeq (vSetI 0 (vStep 0 (vHere 0) (vC (.str "great"))) (vC (.int 0)) (vBin uDiv (vVar 2) (vVar 1)))
    (vRet (vBin uMod (vVar 2) (vVar 1))))) (vSkip))
    (vSeq (vAsg (vBin uAdd (vSolid (vBin uIx (vVar 0) (vC (.str "spot")))) (vC (.int 1))) 3)
    (vSeq (vSetI 0 (vHere 0) (vC (.str "spot")) (vSolid (vVar 3)))
    (vSeq (vAsg (vIf (vTst (vBin uNe (vBin uIx (vVar 0) (vC (.str "cells"))) (vLst (vNil)))) (vSolid (vBin uIx (vBin uIx (vVar 0) (vC (.str "cells"))) (vBin uMod (vOp uInt (vCons (vVar 3) (vNil))) (vOp uLen (vCons (vBin uIx (vVar 0) (vC (.str "cells"))) (vNil)))))) (vC (.int 31))) 4)
    (vSeq (vAsg (vBin uMul (vOp uInt (vCons (vBin uAdd (vBin uAdd (vBin uMod (vOp uInt (vCons (vVar 4) (vNil))) (vC (.int 2147483563))) (vBin uMul (vC (.int 6037)) (vVar 3))) (vBin uMul (vBin uMul (vC (.int 41)) (vVar 3)) (vVar 3))) (vNil))) (vC (.int 40014))) 5)
    (vSeq (vAsg (vBin uMul (vOp uInt (vCons (vBin uAdd (vBin uMod (vOp uInt (vCons (vVar 5) (vNil))) (vC (.int 2147483563))) (vBin uMul (vC (.int 88919)) (vVar 3))) (vNil))) (vC (.int 742938285))) 5)
    (vRet (vBin uMod (vOp uInt (vCons (vBin uDiv (vBin uMod (vOp uInt (vCons (vVar 5) (vNil))) (vC (.int 2147483549))) (vC (.int 17))) (vNil))) (vVar 1)))))))))
def v_law_next : VF := vBody 6 1 w_law_next
theorem sim_law_next : SF [2] .fz m_law_next v_law_next := sf_ofL 6 [2, 0, 0, 0, 0, 0] 5 rfl (dp' := dpOf [2, 0, 0, 0, 0, 0]) (show SS [2] .fz (dpOf []) (dpOf [2, 0, 0, 0, 0, 0]) (dpOf [2, 0, 0, 0, 0, 0]) b_law_next w_law_next from ss_seq (ss_while 100000 (io := []) (pd_of (by decide)) (sb_and (sb_tst ((se_binL od_ne fl_ne (se_binB od_ix (se_own 0 (by decide)) ((se_str).fl_bor)) (se_lstB (sa_nil))).fl_bor)) (sb_tst ((se_binL od_eq fl_eq (se_binB od_ix (se_binB od_ix (se_own 0 (by decide)) ((se_str).fl_bor)) ((se_int).fl_bor)) ((se_int).fl_bor)).fl_bor))) (ss_setI (io := []) (n := 0) (j := 1) (pd_of (by decide)) (by decide) rfl (op_here) ((se_str).fl_fz) (se_sliceF 0 (se_binB od_ix (se_own 0 (by decide)) ((se_str).fl_bor)) (so_some ((se_int).fl_bor)) (so_none))))
    (ss_seq (ss_if (io := []) (pd_of (by decide)) (sb_tst ((se_binL od_ne fl_ne (se_binB od_ix (se_own 0 (by decide)) ((se_str).fl_bor)) (se_lstB (sa_nil))).fl_bor)) (ss_seq (ss_asgD (l := [2, 0, 0, 0, 0, 0]) (io := []) 2 0 (pd_of (by decide)) (by decide) ((se_callL od_int fl_int (sa_cons (se_binB od_ix (se_binB od_ix (se_own 0 (by decide)) ((se_str).fl_bor)) ((se_int).fl_bor)) (sa_nil))).fl_fr 0) (by decide))
    (ss_seq (ss_setI (io := []) (n := 1) (j := 0) (pd_of (by decide)) (by decide) rfl (op_step (by decide) (by decide) (op_here) ((se_str).fl_fz)) ((se_int).fl_fz) ((se_binL od_div fl_div ((se_var 2 rfl).fz_bor) ((se_var 1 rfl).fz_bor)).fl_fr 0))
    (ss_ret (io := []) (pd_of (by decide)) ((se_binL od_mod fl_mod ((se_var 2 rfl).fz_bor) ((se_var 1 rfl).fz_bor)).fl_fz) nofun))) (ss_skip))
    (ss_seq (ss_asgD (l := [2, 0, 0, 0, 0, 0]) (io := []) 3 0 (pd_of (by decide)) (by decide) ((se_bin od_add ((se_binB od_ix (se_own 0 (by decide)) ((se_str).fl_bor)).solid.fl_fz) ((se_int).fl_fz)).fz_fr0) (by decide))
    (ss_seq (ss_setI (io := []) (n := 0) (j := 1) (pd_of (by decide)) (by decide) rfl (op_here) ((se_str).fl_fz) ((((se_var 3 rfl).fz_bor).solid).fl_fr 1))
    (ss_seq (ss_asgD (l := [2, 0, 0, 0, 0, 0]) (io := []) 4 0 (pd_of (by decide)) (by decide) (se_if (sb_tst ((se_binL od_ne fl_ne (se_binB od_ix (se_own 0 (by decide)) ((se_str).fl_bor)) (se_lstB (sa_nil))).fl_bor)) (((se_binB od_ix (se_binB od_ix (se_own 0 (by decide)) ((se_str).fl_bor)) ((se_binL od_mod fl_mod ((se_callL od_int fl_int (sa_cons ((se_var 3 rfl).fz_bor) (sa_nil))).fl_bor) ((se_callL od_len fl_len (sa_cons (se_binB od_ix (se_own 0 (by decide)) ((se_str).fl_bor)) (sa_nil))).fl_bor)).fl_bor)).solid.fl_fz).fz_fr0) ((se_int).fl_fr 0)) (by decide))
    (ss_seq (ss_asgD (l := [2, 0, 0, 0, 0, 0]) (io := []) 5 0 (pd_of (by decide)) (by decide) ((se_bin od_mul ((se_callL od_int fl_int (sa_cons (se_binB od_add (se_binB od_add ((se_binL od_mod fl_mod ((se_callL od_int fl_int (sa_cons ((se_var 4 rfl).fz_bor) (sa_nil))).fl_bor) ((se_int).fl_bor)).fl_bor) (se_binB od_mul ((se_int).fl_bor) ((se_var 3 rfl).fz_bor))) (se_binB od_mul (se_binB od_mul ((se_int).fl_bor) ((se_var 3 rfl).fz_bor)) ((se_var 3 rfl).fz_bor))) (sa_nil))).fl_fz) ((se_int).fl_fz)).fz_fr0) (by decide))
    (ss_seq (ss_asgD (l := [2, 0, 0, 0, 0, 0]) (io := []) 5 0 (pd_of (by decide)) (by decide) ((se_bin od_mul ((se_callL od_int fl_int (sa_cons (se_binB od_add ((se_binL od_mod fl_mod ((se_callL od_int fl_int (sa_cons ((se_var 5 rfl).fz_bor) (sa_nil))).fl_bor) ((se_int).fl_bor)).fl_bor) (se_binB od_mul ((se_int).fl_bor) ((se_var 3 rfl).fz_bor))) (sa_nil))).fl_fz) ((se_int).fl_fz)).fz_fr0) (by decide))
    (ss_ret (io := []) (pd_of (by decide)) ((se_binL od_mod fl_mod ((se_callL od_int fl_int (sa_cons ((se_binL od_div fl_div ((se_binL od_mod fl_mod ((se_callL od_int fl_int (sa_cons ((se_var 5 rfl).fz_bor) (sa_nil))).fl_bor) ((se_int).fl_bor)).fl_bor) ((se_int).fl_bor)).fl_bor) (sa_nil))).fl_bor) ((se_var 1 rfl).fz_bor)).fl_fz) nofun)))))))) (pd_of (by decide)) nofun
/-! _law_of(_law_m, _law_some) : fz -/
def w_law_of : VS := vRet (vBin uIx (vVar 1) (vCallN v_law_next [0] (vCons (vOp uLen (vCons (vVar 1) (vNil))) (vNil))))
def v_law_of : VF := vBody 2 1 w_law_of
theorem sim_law_of : SF [2] .fz m_law_of v_law_of := sf_ofL 2 [2, 0] 1 rfl (dp' := dpOf [2, 0]) (show SS [2] .fz (dpOf []) (dpOf [2, 0]) (dpOf [2, 0]) b_law_of w_law_of from ss_ret (io := [0]) (pd_of (by decide)) (se_bin od_ix (se_var 1 rfl) (se_callN [2] [0] sim_law_next nofun (by decide) rfl (hdp_of (by decide)) (by decide) (sa_cons ((se_callL od_len fl_len (sa_cons ((se_var 1 rfl).fz_bor) (sa_nil))).fl_fz) (sa_nil)))) nofun) (pd_of (by decide)) nofun
/-! _law_row(_law_m, _law_wide, _law_found, _law_dot) : fz -/
def L_law_row_1 : VS := vSeq (vAsg (vBin uAdd (vVar 2) (vBin uMul (vVar 3) (vBin uAdd (vC (.int 1)) (vCallN v_law_next [0] (vCons (vCallN v_law_of [0] (vCons (vLst (vCons (vC (.int 1)) (vCons (vC (.int 2)) (vCons (vC (.int 3)) (vCons (vC (.int 6)) (vNil)))))) (vNil))) (vNil)))))) 2)
    (vAsg (vIf (vTst (vBin uEq (vVar 3) (vC (.str ".")))) (vC (.str "#")) (vC (.str "."))) 3)
def W_law_row_1 : VT := vTst (vBin uLt (vOp uLen (vCons (vVar 2) (vNil))) (vVar 1))
def w_law_row : VS := vSeq (vParN [2, 3] (vCons (vC (.str "")) (vCons (vCallN v_law_of [0] (vCons (vC (.str ".#")) (vNil))) (vNil))))
    (vSeq (vWhile 100000 (W_law_row_1) (L_law_row_1))
    (vRet (vSl (vVar 2) (voN) (voS (vVar 1)))))
def v_law_row : VF := vBody 4 1 w_law_row
theorem sim_law_row : SF [2] .fz m_law_row v_law_row := sf_ofL 4 [2, 0, 0, 0] 3 rfl (dp' := dpOf [2, 0, 0, 0]) (show SS [2] .fz (dpOf []) (dpOf [2, 0, 0, 0]) (dpOf [2, 0, 0, 0]) b_law_row w_law_row from ss_seq (ss_parD (l := [2, 0, 0, 0]) (io := [0]) 2 3 0 0 (pd_of (by decide)) (sl_cons ((se_str).fl_fr 0) (sl_cons ((se_callN [2] [0] sim_law_of nofun (by decide) rfl (hdp_of (by decide)) (by decide) (sa_cons ((se_str).fl_fz) (sa_nil))).fz_fr0) (sl_nil))) (by decide))
    (ss_seq (ss_while 100000 (io := []) (pd_of (by decide)) (sb_tst ((se_binL od_cmp fl_cmp ((se_callL od_len fl_len (sa_cons ((se_var 2 rfl).fz_bor) (sa_nil))).fl_bor) ((se_var 1 rfl).fz_bor)).fl_bor)) (ss_seq (ss_asgD (l := [2, 0, 0, 0]) (io := [0]) 2 0 (pd_of (by decide)) (by decide) ((se_bin od_add (se_var 2 rfl) (se_bin od_mul (se_var 3 rfl) (se_bin od_add ((se_int).fl_fz) (se_callN [2] [0] sim_law_next nofun (by decide) rfl (hdp_of (by decide)) (by decide) (sa_cons (se_callN [2] [0] sim_law_of nofun (by decide) rfl (hdp_of (by decide)) (by decide) (sa_cons ((se_lstO (k := 0) (sa_cons ((se_int).fl_fr 0) (sa_cons ((se_int).fl_fr 0) (sa_cons ((se_int).fl_fr 0) (sa_cons ((se_int).fl_fr 0) (sa_nil)))))).fr_fz) (sa_nil))) (sa_nil)))))).fz_fr0) (by decide))
    (ss_asgD (l := [2, 0, 0, 0]) (io := []) 3 0 (pd_of (by decide)) (by decide) (se_if (sb_tst ((se_binL od_eq fl_eq ((se_var 3 rfl).fz_bor) ((se_str).fl_bor)).fl_bor)) ((se_str).fl_fr 0) ((se_str).fl_fr 0)) (by decide))))
    (ss_ret (io := []) (pd_of (by decide)) (se_slice (se_var 2 rfl) (so_none) (so_some ((se_var 1 rfl).fz_bor))) nofun))) (pd_of (by decide)) nofun
/-! _law_near_row(_law_m, _law_row_here, _law_found, _law_k, _law_j) : fz -/
def L_law_near_row_1 : VS := vSeq (vAsg (vCallN v_law_next [0] (vCons (vOp uLen (vCons (vVar 1) (vNil))) (vNil))) 4)
    (vAsg (vBin uAdd (vBin uAdd (vSl (vVar 2) (voN) (voS (vVar 4))) (vIf (vTst (vBin uEq (vBin uIx (vVar 2) (vVar 4)) (vC (.str ".")))) (vC (.str "#")) (vC (.str ".")))) (vSl (vVar 2) (voS (vBin uAdd (vVar 4) (vC (.int 1)))) (voN))) 2)
def w_law_near_row : VS := vSeq (vAsg (vVar 1) 2)
    (vSeq (vFor (vRng1 (vCallN v_law_next [0] (vCons (vC (.int 4)) (vNil)))) (tN 3) (L_law_near_row_1))
    (vRet (vVar 2)))
def v_law_near_row : VF := vBody 5 1 w_law_near_row
theorem sim_law_near_row : SF [2] .fz m_law_near_row v_law_near_row := sf_ofL 5 [2, 0, 0, 0, 0] 4 rfl (dp' := dpOf [2, 0, 0, 0, 0]) (show SS [2] .fz (dpOf []) (dpOf [2, 0, 0, 0, 0]) (dpOf [2, 0, 0, 0, 0]) b_law_near_row w_law_near_row from ss_seq (ss_asgD (l := [2, 0, 0, 0, 0]) (io := []) 2 0 (pd_of (by decide)) (by decide) ((se_var 1 rfl).fz_fr0) (by decide))
    (ss_seq (ss_for (io := [0]) (pd_of (by decide)) (si_range1 ((se_callN [2] [0] sim_law_next nofun (by decide) rfl (hdp_of (by decide)) (by decide) (sa_cons ((se_int).fl_fz) (sa_nil))).fz_bor)) (sg_name 3 rfl) (ss_seq (ss_asgD (l := [2, 0, 0, 0, 0]) (io := [0]) 4 0 (pd_of (by decide)) (by decide) ((se_callN [2] [0] sim_law_next nofun (by decide) rfl (hdp_of (by decide)) (by decide) (sa_cons ((se_callL od_len fl_len (sa_cons ((se_var 1 rfl).fz_bor) (sa_nil))).fl_fz) (sa_nil))).fz_fr0) (by decide))
    (ss_asgD (l := [2, 0, 0, 0, 0]) (io := []) 2 0 (pd_of (by decide)) (by decide) ((se_bin od_add (se_bin od_add (se_slice (se_var 2 rfl) (so_none) (so_some ((se_var 4 rfl).fz_bor))) (se_if (sb_tst ((se_binL od_eq fl_eq (se_binB od_ix ((se_var 2 rfl).fz_bor) ((se_var 4 rfl).fz_bor)) ((se_str).fl_bor)).fl_bor)) ((se_str).fl_fz) ((se_str).fl_fz))) (se_slice (se_var 2 rfl) (so_some (se_binB od_add ((se_var 4 rfl).fz_bor) ((se_int).fl_bor))) (so_none))).fz_fr0) (by decide))) (by decide))
    (ss_ret (io := []) (pd_of (by decide)) (se_var 2 rfl) nofun))) (pd_of (by decide)) nofun
/-! _law_changes(_law_reference, _law_spot, _law_dot, _law_begun_here, _law_first, _law_wide, _law_shifted, _law_some, _law_change, _law_far, _law_k) : fz -/
def X_law_changes_1 : VE := vVar 10
def C_law_changes_1 : VT := vTst (vBin uEq (vBin uIx (vVar 6) (vVar 10)) (vVar 2))
def X_law_changes_2 : VE := vVar 10
def C_law_changes_2 : VT := vTst (vBin uNe (vBin uIx (vVar 0) (vVar 10)) (vVar 2))
def X_law_changes_3 : VE := vVar 10
def C_law_changes_3 : VT := vTst (vBin uEq (vBin uIx (vVar 0) (vVar 10)) (vVar 2))
def w_law_changes : VS := vSeq (vParN [4, 5] (vCons (vIf (vTru (vVar 3)) (vBin uAdd (vVar 1) (vC (.int 1))) (vC (.int 0))) (vCons (vOp uLen (vCons (vVar 0) (vNil))) (vNil))))
    (vSeq (vAsg (vBin uAdd (vC (.str ".")) (vVar 0)) 6)
    (vSeq (vAsg (vLc (vRng2 (vVar 4) (vVar 5)) (tN 10) (C_law_changes_1) (X_law_changes_1) [10]) 7)
    (vSeq (vAsg (vLc (vIt (vVar 7)) (tN 10) (C_law_changes_2) (X_law_changes_2) [10]) 7)
    (vSeq (vAsg (vBin uIx (vBin uAdd (vVar 7) (vLst (vCons (vVar 5) (vNil)))) (vC (.int 0))) 8)
    (vSeq (vAsg (vLc (vRng2 (vBin uAdd (vVar 8) (vC (.int 1))) (vVar 5)) (tN 10) (C_law_changes_3) (X_law_changes_3) [10]) 9)
    (vRet (vTup (vCons (vVar 8) (vCons (vBin uIx (vBin uAdd (vVar 9) (vLst (vCons (vVar 5) (vNil)))) (vC (.int 0))) (vNil))))))))))
def v_law_changes : VF := vBody 11 0 w_law_changes
theorem sim_law_changes : SF [] .fz m_law_changes v_law_changes := sf_ofL 11 [0, 0, 0, 0, 0, 0, 0, 0, 0, 0, 0] 11 rfl (dp' := dpOf [0, 0, 0, 0, 0, 0, 0, 0, 0, 0, 0]) (show SS [] .fz (dpOf []) (dpOf [0, 0, 0, 0, 0, 0, 0, 0, 0, 0, 0]) (dpOf [0, 0, 0, 0, 0, 0, 0, 0, 0, 0, 0]) b_law_changes w_law_changes from ss_seq (ss_parD (l := [0, 0, 0, 0, 0, 0, 0, 0, 0, 0, 0]) (io := []) 4 5 0 0 (pd_of (by decide)) (sl_cons (se_if (sb_tru ((se_var 3 rfl).fz_bor)) ((se_bin od_add (se_var 1 rfl) ((se_int).fl_fz)).fz_fr0) ((se_int).fl_fr 0)) (sl_cons ((se_callL od_len fl_len (sa_cons ((se_var 0 rfl).fz_bor) (sa_nil))).fl_fr 0) (sl_nil))) (by decide))
    (ss_seq (ss_asgD (l := [0, 0, 0, 0, 0, 0, 0, 0, 0, 0, 0]) (io := []) 6 0 (pd_of (by decide)) (by decide) ((se_bin od_add ((se_str).fl_fz) (se_var 0 rfl)).fz_fr0) (by decide))
    (ss_seq (ss_asgD (l := [0, 0, 0, 0, 0, 0, 0, 0, 0, 0, 0]) (io := []) 7 0 (pd_of (by decide)) (by decide) (((se_lc (k := 0) (si_range2 ((se_var 4 rfl).fz_bor) ((se_var 5 rfl).fz_bor)) (sg_name 10 rfl) (sb_tst ((se_binL od_eq fl_eq (se_binB od_ix ((se_var 6 rfl).fz_bor) ((se_var 10 rfl).fz_bor)) ((se_var 2 rfl).fz_bor)).fl_bor)) ((se_var 10 rfl).fz_fr0) (by decide) (by decide)).fr_fz).fz_fr0) (by decide))
    (ss_seq (ss_asgD (l := [0, 0, 0, 0, 0, 0, 0, 0, 0, 0, 0]) (io := []) 7 0 (pd_of (by decide)) (by decide) (((se_lc (k := 0) (si_val (se_var 7 rfl)) (sg_name 10 rfl) (sb_tst ((se_binL od_ne fl_ne (se_binB od_ix ((se_var 0 rfl).fz_bor) ((se_var 10 rfl).fz_bor)) ((se_var 2 rfl).fz_bor)).fl_bor)) ((se_var 10 rfl).fz_fr0) (by decide) (by decide)).fr_fz).fz_fr0) (by decide))
    (ss_seq (ss_asgD (l := [0, 0, 0, 0, 0, 0, 0, 0, 0, 0, 0]) (io := []) 8 0 (pd_of (by decide)) (by decide) ((se_bin od_ix (se_bin od_add (se_var 7 rfl) ((se_lstO (k := 0) (sa_cons ((se_var 5 rfl).fz_fr0) (sa_nil))).fr_fz)) ((se_int).fl_fz)).fz_fr0) (by decide))
    (ss_seq (ss_asgD (l := [0, 0, 0, 0, 0, 0, 0, 0, 0, 0, 0]) (io := []) 9 0 (pd_of (by decide)) (by decide) (((se_lc (k := 0) (si_range2 (se_binB od_add ((se_var 8 rfl).fz_bor) ((se_int).fl_bor)) ((se_var 5 rfl).fz_bor)) (sg_name 10 rfl) (sb_tst ((se_binL od_eq fl_eq (se_binB od_ix ((se_var 0 rfl).fz_bor) ((se_var 10 rfl).fz_bor)) ((se_var 2 rfl).fz_bor)).fl_bor)) ((se_var 10 rfl).fz_fr0) (by decide) (by decide)).fr_fz).fz_fr0) (by decide))
    (ss_ret (io := []) (pd_of (by decide)) (se_tup (sa_cons (se_var 8 rfl) (sa_cons (se_bin od_ix (se_bin od_add (se_var 9 rfl) ((se_lstO (k := 0) (sa_cons ((se_var 5 rfl).fz_fr0) (sa_nil))).fr_fz)) ((se_int).fl_fz)) (sa_nil))) nofun) nofun))))))) (pd_of (by decide)) nofun
/-! _law_other(_law_dot) : fz -/
def w_law_other : VS := vRet (vIf (vTst (vBin uEq (vVar 0) (vC (.str ".")))) (vC (.str "#")) (vC (.str ".")))
def v_law_other : VF := vBody 1 0 w_law_other
theorem sim_law_other : SF [] .fz m_law_other v_law_other := sf_ofL 1 [0] 1 rfl (dp' := dpOf [0]) (show SS [] .fz (dpOf []) (dpOf [0]) (dpOf [0]) b_law_other w_law_other from ss_ret (io := []) (pd_of (by decide)) (se_if (sb_tst ((se_binL od_eq fl_eq ((se_var 0 rfl).fz_bor) ((se_str).fl_bor)).fl_bor)) ((se_str).fl_fz) ((se_str).fl_fz)) nofun) (pd_of (by decide)) nofun
/-! _law_done(_law_reference, _law_mode, _law_spot, _law_dot, _law_begun_here, _law_wide, _law_change, _law_back, _law_goal, _law_first, _law_second, _law_middle) : fz -/
def w_law_done : VS := vSeq (vAsg (vOp uLen (vCons (vVar 0) (vNil))) 5)
    (vSeq (vAsgT (vCall0 v_law_changes (vCons (vVar 0) (vCons (vVar 2) (vCons (vVar 3) (vCons (vVar 4) (vNil)))))) (tT 2 (tsCons (tN 6) (tsCons (tN 7) (tsNil)))))
    (vSeq (vIfS (vTst (vBin uEq (vBin uIx (vVar 1) (vC (.int 0))) (vC (.str "stay")))) (vSeq (vAsg (vBin uAdd (vVar 6) (vBin uIx (vVar 1) (vC (.int 1)))) 8)
    (vSeq (vIfS (vOr (vTst (vBin uGt (vVar 8) (vVar 5))) (vOr (vTst (vBin uLt (vVar 8) (vC (.int 0)))) (vAnd (vTru (vVar 4)) (vTst (vBin uLe (vVar 8) (vVar 2)))))) (vRet (vC .non)) (vSkip))
    (vRet (vTup (vCons (vBin uMul (vVar 3) (vBin uSub (vVar 8) (vVar 2))) (vCons (vCall0 v_law_other (vCons (vVar 3) (vNil))) (vNil))))))) (vSkip))
    (vSeq (vIfS (vTst (vBin uEq (vBin uIx (vVar 1) (vC (.int 0))) (vC (.str "pass")))) (vRet (vIf (vTst (vBin uLt (vVar 6) (vVar 5))) (vTup (vCons (vBin uMul (vVar 3) (vBin uSub (vVar 7) (vVar 2))) (vCons (vVar 3) (vNil)))) (vC .non))) (vSkip))
    (vSeq (vAsgT (vSl (vVar 1) (voS (vC (.int 1))) (voN)) (tT 2 (tsCons (tN 9) (tsCons (tN 10) (tsNil)))))
    (vSeq (vAsg (vBin uAdd (vVar 2) (vVar 9)) 11)
    (vSeq (vIfS (vOr (vAnd (vTst (vBin uEq (vVar 9) (vC (.int 0)))) (vTru (vVar 4))) (vTst (vBin uGt (vBin uAdd (vVar 11) (vVar 10)) (vVar 5)))) (vRet (vC .non)) (vSkip))
    (vSeq (vIfS (vAnd (vTst (vBin uEq (vVar 10) (vC (.int 0)))) (vTst (vBin uNe (vVar 11) (vVar 5)))) (vRet (vC .non)) (vSkip))
    (vRet (vTup (vCons (vBin uAdd (vBin uMul (vVar 3) (vVar 9)) (vBin uMul (vCall0 v_law_other (vCons (vVar 3) (vNil))) (vVar 10))) (vCons (vVar 3) (vNil))))))))))))
def v_law_done : VF := vBody 12 0 w_law_done
theorem sim_law_done : SF [] .fz m_law_done v_law_done := sf_ofL 12 [0, 0, 0, 0, 0, 0, 0, 0, 0, 0, 0, 0] 12 rfl (dp' := dpOf [0, 0, 0, 0, 0, 0, 0, 0, 0, 0, 0, 0]) (show SS [] .fz (dpOf []) (dpOf [0, 0, 0, 0, 0, 0, 0, 0, 0, 0, 0, 0]) (dpOf [0, 0, 0, 0, 0, 0, 0, 0, 0, 0, 0, 0]) b_law_done w_law_done from ss_seq (ss_asgD (l := [0, 0, 0, 0, 0, 0, 0, 0, 0, 0, 0, 0]) (io := []) 5 0 (pd_of (by decide)) (by decide) ((se_callL od_len fl_len (sa_cons ((se_var 0 rfl).fz_bor) (sa_nil))).fl_fr 0) (by decide))
    (ss_seq (ss_asgT (io := []) (pd_of (by decide)) (se_call0 sim_law_changes nofun (sa_cons (se_var 0 rfl) (sa_cons (se_var 2 rfl) (sa_cons (se_var 3 rfl) (sa_cons (se_var 4 rfl) (sa_nil)))))) (sg_tup (sgs_cons (sg_name 6 rfl) (sgs_cons (sg_name 7 rfl) (sgs_nil)))) (by decide))
    (ss_seq (ss_if (io := []) (pd_of (by decide)) (sb_tst ((se_binL od_eq fl_eq (se_binB od_ix ((se_var 1 rfl).fz_bor) ((se_int).fl_bor)) ((se_str).fl_bor)).fl_bor)) (ss_seq (ss_asgD (l := [0, 0, 0, 0, 0, 0, 0, 0, 0, 0, 0, 0]) (io := []) 8 0 (pd_of (by decide)) (by decide) ((se_bin od_add (se_var 6 rfl) (se_bin od_ix (se_var 1 rfl) ((se_int).fl_fz))).fz_fr0) (by decide))
    (ss_seq (ss_if (io := []) (pd_of (by decide)) (sb_or (sb_tst ((se_binL od_cmp fl_cmp ((se_var 8 rfl).fz_bor) ((se_var 5 rfl).fz_bor)).fl_bor)) (sb_or (sb_tst ((se_binL od_cmp fl_cmp ((se_var 8 rfl).fz_bor) ((se_int).fl_bor)).fl_bor)) (sb_and (sb_tru ((se_var 4 rfl).fz_bor)) (sb_tst ((se_binL od_cmp fl_cmp ((se_var 8 rfl).fz_bor) ((se_var 2 rfl).fz_bor)).fl_bor))))) (ss_ret (io := []) (pd_of (by decide)) ((se_non).fl_fz) nofun) (ss_skip))
    (ss_ret (io := []) (pd_of (by decide)) (se_tup (sa_cons (se_bin od_mul (se_var 3 rfl) ((se_binL od_sub fl_sub ((se_var 8 rfl).fz_bor) ((se_var 2 rfl).fz_bor)).fl_fz)) (sa_cons (se_call0 sim_law_other nofun (sa_cons (se_var 3 rfl) (sa_nil))) (sa_nil))) nofun) nofun))) (ss_skip))
    (ss_seq (ss_if (io := []) (pd_of (by decide)) (sb_tst ((se_binL od_eq fl_eq (se_binB od_ix ((se_var 1 rfl).fz_bor) ((se_int).fl_bor)) ((se_str).fl_bor)).fl_bor)) (ss_ret (io := []) (pd_of (by decide)) (se_if (sb_tst ((se_binL od_cmp fl_cmp ((se_var 6 rfl).fz_bor) ((se_var 5 rfl).fz_bor)).fl_bor)) (se_tup (sa_cons (se_bin od_mul (se_var 3 rfl) ((se_binL od_sub fl_sub ((se_var 7 rfl).fz_bor) ((se_var 2 rfl).fz_bor)).fl_fz)) (sa_cons (se_var 3 rfl) (sa_nil))) nofun) ((se_non).fl_fz)) nofun) (ss_skip))
    (ss_seq (ss_asgT (io := []) (pd_of (by decide)) (se_slice (se_var 1 rfl) (so_some ((se_int).fl_bor)) (so_none)) (sg_tup (sgs_cons (sg_name 9 rfl) (sgs_cons (sg_name 10 rfl) (sgs_nil)))) (by decide))
    (ss_seq (ss_asgD (l := [0, 0, 0, 0, 0, 0, 0, 0, 0, 0, 0, 0]) (io := []) 11 0 (pd_of (by decide)) (by decide) ((se_bin od_add (se_var 2 rfl) (se_var 9 rfl)).fz_fr0) (by decide))
    (ss_seq (ss_if (io := []) (pd_of (by decide)) (sb_or (sb_and (sb_tst ((se_binL od_eq fl_eq ((se_var 9 rfl).fz_bor) ((se_int).fl_bor)).fl_bor)) (sb_tru ((se_var 4 rfl).fz_bor))) (sb_tst ((se_binL od_cmp fl_cmp (se_binB od_add ((se_var 11 rfl).fz_bor) ((se_var 10 rfl).fz_bor)) ((se_var 5 rfl).fz_bor)).fl_bor))) (ss_ret (io := []) (pd_of (by decide)) ((se_non).fl_fz) nofun) (ss_skip))
    (ss_seq (ss_if (io := []) (pd_of (by decide)) (sb_and (sb_tst ((se_binL od_eq fl_eq ((se_var 10 rfl).fz_bor) ((se_int).fl_bor)).fl_bor)) (sb_tst ((se_binL od_ne fl_ne ((se_var 11 rfl).fz_bor) ((se_var 5 rfl).fz_bor)).fl_bor))) (ss_ret (io := []) (pd_of (by decide)) ((se_non).fl_fz) nofun) (ss_skip))
    (ss_ret (io := []) (pd_of (by decide)) (se_tup (sa_cons (se_bin od_add (se_bin od_mul (se_var 3 rfl) (se_var 9 rfl)) (se_bin od_mul (se_call0 sim_law_other nofun (sa_cons (se_var 3 rfl) (sa_nil))) (se_var 10 rfl))) (sa_cons (se_var 3 rfl) (sa_nil))) nofun) nofun))))))))) (pd_of (by decide)) nofun
/-! _law_modes(_law_reference, _law_row_here, _law_spot, _law_dot, _law_begun_here, _law_some, _law_rest, _law_first, _law_found, _law_mode, _law_done_here, _law_k, _law_second) : fz -/
def X_law_modes_1 : VE := vTup (vCons (vC (.str "stay")) (vCons (vVar 11) (vNil)))
def X_law_modes_2 : VE := vTup (vCons (vC (.str "runs")) (vCons (vVar 7) (vCons (vVar 12) (vNil))))
def L_law_modes_3 : VS := vAsg (vBin uAdd (vVar 5) (vLc (vRng1 (vBin uAdd (vBin uSub (vVar 6) (vVar 7)) (vC (.int 1)))) (tN 12) (vYes) (X_law_modes_2) [12])) 5
def L_law_modes_4 : VS := vSeq (vAsg (vCall0 v_law_done (vCons (vVar 0) (vCons (vVar 9) (vCons (vVar 2) (vCons (vVar 3) (vCons (vVar 4) (vNil))))))) 10)
    (vIfS (vAnd (vTst (vBin uIsNot (vVar 10) (vC .non))) (vTst (vBin uEq (vSl (vVar 1) (voS (vVar 2)) (voS (vBin uAdd (vVar 2) (vOp uLen (vCons (vBin uIx (vVar 10) (vC (.int 0))) (vNil)))))) (vBin uIx (vVar 10) (vC (.int 0)))))) (vExpr (vMut "list" 8 (vHere 8) uAppend (vCons (vTup (vCons (vVar 9) (vCons (vBin uIx (vVar 10) (vC (.int 0))) (vCons (vBin uIx (vVar 10) (vC (.int 1))) (vNil))))) (vNil)))) (vSkip))
def w_law_modes : VS := vSeq (vParN [5, 6] (vCons (vBin uAdd (vLc (vRng2 (vUn uNeg (vC (.int 3))) (vC (.int 4))) (tN 11) (vYes) (X_law_modes_1) [11]) (vLst (vCons (vTup (vCons (vC (.str "pass")) (vNil))) (vNil)))) (vCons (vBin uSub (vOp uLen (vCons (vVar 1) (vNil))) (vVar 2)) (vNil))))
    (vSeq (vFor (vRng1 (vBin uAdd (vVar 6) (vC (.int 1)))) (tN 7) (L_law_modes_3))
    (vSeq (vAsg (vLst (vNil)) 8)
    (vSeq (vFor (vIt (vVar 5)) (tN 9) (L_law_modes_4))
    (vRet (vVar 8)))))
def v_law_modes : VF := vBody 13 0 w_law_modes
theorem sim_law_modes : SF [] .fz m_law_modes v_law_modes := sf_ofL 13 [0, 0, 0, 0, 0, 0, 0, 0, 0, 0, 0, 0, 0] 13 rfl (dp' := dpOf [0, 0, 0, 0, 0, 0, 0, 0, 0, 0, 0, 0, 0]) (show SS [] .fz (dpOf []) (dpOf [0, 0, 0, 0, 0, 0, 0, 0, 0, 0, 0, 0, 0]) (dpOf [0, 0, 0, 0, 0, 0, 0, 0, 0, 0, 0, 0, 0]) b_law_modes w_law_modes from ss_seq (ss_parD (l := [0, 0, 0, 0, 0, 0, 0, 0, 0, 0, 0, 0, 0]) (io := []) 5 6 0 0 (pd_of (by decide)) (sl_cons ((se_bin od_add ((se_lc (k := 0) (si_range2 ((se_un_fl od_neg fl_neg ((se_int).fl_bor)).fl_bor) ((se_int).fl_bor)) (sg_name 11 rfl) (sb_yes) ((se_tup (sa_cons ((se_str).fl_fz) (sa_cons (se_var 11 rfl) (sa_nil))) nofun).fz_fr0) (by decide) (by decide)).fr_fz) ((se_lstO (k := 0) (sa_cons ((se_tup (sa_cons ((se_str).fl_fz) (sa_nil)) nofun).fz_fr0) (sa_nil))).fr_fz)).fz_fr0) (sl_cons ((se_binL od_sub fl_sub ((se_callL od_len fl_len (sa_cons ((se_var 1 rfl).fz_bor) (sa_nil))).fl_bor) ((se_var 2 rfl).fz_bor)).fl_fr 0) (sl_nil))) (by decide))
    (ss_seq (ss_for (io := []) (pd_of (by decide)) (si_range1 (se_binB od_add ((se_var 6 rfl).fz_bor) ((se_int).fl_bor))) (sg_name 7 rfl) (ss_asgD (l := [0, 0, 0, 0, 0, 0, 0, 0, 0, 0, 0, 0, 0]) (io := []) 5 0 (pd_of (by decide)) (by decide) ((se_bin od_add (se_var 5 rfl) ((se_lc (k := 0) (si_range1 (se_binB od_add ((se_binL od_sub fl_sub ((se_var 6 rfl).fz_bor) ((se_var 7 rfl).fz_bor)).fl_bor) ((se_int).fl_bor))) (sg_name 12 rfl) (sb_yes) ((se_tup (sa_cons ((se_str).fl_fz) (sa_cons (se_var 7 rfl) (sa_cons (se_var 12 rfl) (sa_nil)))) nofun).fz_fr0) (by decide) (by decide)).fr_fz)).fz_fr0) (by decide)) (by decide))
    (ss_seq (ss_asgD (l := [0, 0, 0, 0, 0, 0, 0, 0, 0, 0, 0, 0, 0]) (io := []) 8 1 (pd_of (by decide)) (by decide) (se_lstO (k := 0) (sa_nil)) (by decide))
    (ss_seq (ss_for (io := []) (pd_of (by decide)) (si_val (se_var 5 rfl)) (sg_name 9 rfl) (ss_seq (ss_asgD (l := [0, 0, 0, 0, 0, 0, 0, 0, 1, 0, 0, 0, 0]) (io := []) 10 0 (pd_of (by decide)) (by decide) ((se_call0 sim_law_done nofun (sa_cons (se_var 0 rfl) (sa_cons (se_var 9 rfl) (sa_cons (se_var 2 rfl) (sa_cons (se_var 3 rfl) (sa_cons (se_var 4 rfl) (sa_nil))))))).fz_fr0) (by decide))
    (ss_if (io := []) (pd_of (by decide)) (sb_and (sb_tst ((se_binL od_isNot fl_isNot ((se_var 10 rfl).fz_bor) ((se_non).fl_bor)).fl_bor)) (sb_tst ((se_binL od_eq fl_eq (se_sliceB ((se_var 1 rfl).fz_bor) (so_some ((se_var 2 rfl).fz_bor)) (so_some (se_binB od_add ((se_var 2 rfl).fz_bor) ((se_callL od_len fl_len (sa_cons (se_binB od_ix ((se_var 10 rfl).fz_bor) ((se_int).fl_bor)) (sa_nil))).fl_bor)))) (se_binB od_ix ((se_var 10 rfl).fz_bor) ((se_int).fl_bor))).fl_bor))) (ss_expr (pd_of (by decide)) (se_mut (io := []) (n := 0) (mo_append 0) (by decide) rfl (op_here) (sa_cons ((se_tup (sa_cons (se_var 9 rfl) (sa_cons (se_bin od_ix (se_var 10 rfl) ((se_int).fl_fz)) (sa_cons (se_bin od_ix (se_var 10 rfl) ((se_int).fl_fz)) (sa_nil)))) nofun).fz_fr0) (sa_nil)))) (ss_skip))) (by decide))
    (SS.pre (wk_of (a := [0, 0, 0, 0, 0, 0, 0, 0, 0, 0, 0, 0, 0]) (b := [0, 0, 0, 0, 0, 0, 0, 0, 1, 0, 0, 0, 0]) (by decide)) (ss_ret (io := []) (pd_of (by decide)) (se_var 8 rfl) nofun)))))) (pd_of (by decide)) nofun
/-! _law_goes_on(_law_row_here, _law_spot, _law_one) : fz -/
def w_law_goes_on : VS := vRet (vBin uEq (vBin uIx (vBin uAdd (vVar 0) (vBin uIx (vVar 2) (vC (.int 2)))) (vBin uAdd (vVar 1) (vOp uLen (vCons (vBin uIx (vVar 2) (vC (.int 1))) (vNil))))) (vBin uIx (vVar 2) (vC (.int 2))))
def v_law_goes_on : VF := vBody 3 0 w_law_goes_on
theorem sim_law_goes_on : SF [] .fz m_law_goes_on v_law_goes_on := sf_ofL 3 [0, 0, 0] 3 rfl (dp' := dpOf [0, 0, 0]) (show SS [] .fz (dpOf []) (dpOf [0, 0, 0]) (dpOf [0, 0, 0]) b_law_goes_on w_law_goes_on from ss_ret (io := []) (pd_of (by decide)) ((se_binL od_eq fl_eq (se_binB od_ix (se_binB od_add ((se_var 0 rfl).fz_bor) (se_binB od_ix ((se_var 2 rfl).fz_bor) ((se_int).fl_bor))) (se_binB od_add ((se_var 1 rfl).fz_bor) ((se_callL od_len fl_len (sa_cons (se_binB od_ix ((se_var 2 rfl).fz_bor) ((se_int).fl_bor)) (sa_nil))).fl_bor))) (se_binB od_ix ((se_var 2 rfl).fz_bor) ((se_int).fl_bor))).fl_fz) nofun) (pd_of (by decide)) nofun
/-! _law_telling(_law_m, _law_reference, _law_row_here, _law_found, _law_spot, _law_dot, _law_begun_here, _law_some, _law_mode, _law_dots, _law_one) : fz -/
def X_law_telling_1 : VE := vVar 10
def C_law_telling_1 : VT := vTru (vCall0 v_law_goes_on (vCons (vVar 2) (vCons (vVar 4) (vCons (vVar 10) (vNil)))))
def L_law_telling_2 : VS := vSeq (vAsg (vCall0 v_law_modes (vCons (vVar 1) (vCons (vVar 2) (vCons (vVar 4) (vCons (vVar 5) (vCons (vVar 6) (vNil))))))) 7)
    (vSeq (vAsg (vLc (vIt (vVar 7)) (tN 10) (C_law_telling_1) (X_law_telling_1) [10]) 7)
    (vSeq (vAsgT (vCallN v_law_of [0] (vCons (vVar 7) (vNil))) (tT 3 (tsCons (tN 8) (tsCons (tN 9) (tsCons (tN 5) (tsNil))))))
    (vSeq (vExpr (vMut "list" 3 (vHere 3) uAppend (vCons (vVar 8) (vNil))))
    (vParN [4, 6] (vCons (vBin uAdd (vVar 4) (vOp uLen (vCons (vVar 9) (vNil)))) (vCons (vC (.bl true)) (vNil)))))))
def W_law_telling_2 : VT := vTst (vBin uLt (vVar 4) (vOp uLen (vCons (vVar 2) (vNil))))
def w_law_telling : VS := vSeq (vParN [3, 4, 5, 6] (vCons (vLst (vNil)) (vCons (vC (.int 0)) (vCons (vC (.str ".")) (vCons (vC (.bl false)) (vNil))))))
    (vSeq (vWhile 100000 (W_law_telling_2) (L_law_telling_2))
    (vRet (vOp uTuple (vCons (vVar 3) (vNil)))))
def v_law_telling : VF := vBody 11 1 w_law_telling
theorem sim_law_telling : SF [2] .fz m_law_telling v_law_telling := sf_ofL 11 [2, 0, 0, 0, 0, 0, 0, 0, 0, 0, 0] 10 rfl (dp' := dpOf [2, 0, 0, 0, 0, 0, 0, 0, 0, 0, 0]) (show SS [2] .fz (dpOf []) (dpOf [2, 0, 0, 0, 0, 0, 0, 0, 0, 0, 0]) (dpOf [2, 0, 0, 0, 0, 0, 0, 0, 0, 0, 0]) b_law_telling w_law_telling from ss_seq (ss_parTD (l := [2, 0, 0, 0, 0, 0, 0, 0, 0, 0, 0]) (io := []) [3, 4, 5, 6] [1, 0, 0, 0] 4 (pd_of (by decide)) (sl_cons (se_lstO (k := 0) (sa_nil)) (sl_cons ((se_int).fl_fr 0) (sl_cons ((se_str).fl_fr 0) (sl_cons ((se_bl).fl_fr 0) (sl_nil))))) rfl rfl (by decide) (by decide))
    (ss_seq (ss_while 100000 (io := []) (pd_of (by decide)) (sb_tst ((se_binL od_cmp fl_cmp ((se_var 4 rfl).fz_bor) ((se_callL od_len fl_len (sa_cons ((se_var 2 rfl).fz_bor) (sa_nil))).fl_bor)).fl_bor)) (ss_seq (ss_asgD (l := [2, 0, 0, 1, 0, 0, 0, 0, 0, 0, 0]) (io := []) 7 0 (pd_of (by decide)) (by decide) ((se_call0 sim_law_modes nofun (sa_cons (se_var 1 rfl) (sa_cons (se_var 2 rfl) (sa_cons (se_var 4 rfl) (sa_cons (se_var 5 rfl) (sa_cons (se_var 6 rfl) (sa_nil))))))).fz_fr0) (by decide))
    (ss_seq (ss_asgD (l := [2, 0, 0, 1, 0, 0, 0, 0, 0, 0, 0]) (io := []) 7 0 (pd_of (by decide)) (by decide) (((se_lc (k := 0) (si_val (se_var 7 rfl)) (sg_name 10 rfl) (sb_tru ((se_call0 sim_law_goes_on nofun (sa_cons (se_var 2 rfl) (sa_cons (se_var 4 rfl) (sa_cons (se_var 10 rfl) (sa_nil))))).fz_bor)) ((se_var 10 rfl).fz_fr0) (by decide) (by decide)).fr_fz).fz_fr0) (by decide))
    (ss_seq (ss_asgT (io := [0]) (pd_of (by decide)) (se_callN [2] [0] sim_law_of nofun (by decide) rfl (hdp_of (by decide)) (by decide) (sa_cons (se_var 7 rfl) (sa_nil))) (sg_tup (sgs_cons (sg_name 8 rfl) (sgs_cons (sg_name 9 rfl) (sgs_cons (sg_name 5 rfl) (sgs_nil))))) (by decide))
    (ss_seq (ss_expr (pd_of (by decide)) (se_mut (io := []) (n := 0) (mo_append 0) (by decide) rfl (op_here) (sa_cons ((se_var 8 rfl).fz_fr0) (sa_nil))))
    (ss_parTD (l := [2, 0, 0, 1, 0, 0, 0, 0, 0, 0, 0]) (io := []) [4, 6] [0, 0] 2 (pd_of (by decide)) (sl_cons ((se_bin od_add (se_var 4 rfl) ((se_callL od_len fl_len (sa_cons ((se_var 9 rfl).fz_bor) (sa_nil))).fl_fz)).fz_fr0) (sl_cons ((se_bl).fl_fr 0) (sl_nil))) rfl rfl (by decide) (by decide)))))))
    (SS.pre (wk_of (a := [2, 0, 0, 0, 0, 0, 0, 0, 0, 0, 0]) (b := [2, 0, 0, 1, 0, 0, 0, 0, 0, 0, 0]) (by decide)) (ss_ret (io := []) (pd_of (by decide)) (se_call od_tuple (sa_cons (se_var 3 rfl) (sa_nil))) nofun)))) (pd_of (by decide)) nofun
/-! _law_all_rows(_law_wide, _law_found, _law_k, _law_longer, _law_row_here) : fz -/
def L_law_all_rows_1 : VS := vAsg (vBin uAdd (vVar 3) (vLst (vCons (vBin uAdd (vVar 4) (vC (.str "#"))) (vCons (vBin uAdd (vVar 4) (vC (.str "."))) (vNil))))) 3
def L_law_all_rows_2 : VS := vSeq (vAsg (vLst (vNil)) 3)
    (vSeq (vFor (vIt (vVar 1)) (tN 4) (L_law_all_rows_1))
    (vAsg (vVar 3) 1))
def w_law_all_rows : VS := vSeq (vAsg (vLst (vCons (vC (.str "")) (vNil))) 1)
    (vSeq (vFor (vRng1 (vVar 0)) (tN 2) (L_law_all_rows_2))
    (vRet (vVar 1)))
def v_law_all_rows : VF := vBody 5 0 w_law_all_rows
theorem sim_law_all_rows : SF [] .fz m_law_all_rows v_law_all_rows := sf_ofL 5 [0, 0, 0, 0, 0] 5 rfl (dp' := dpOf [0, 0, 0, 0, 0]) (show SS [] .fz (dpOf []) (dpOf [0, 0, 0, 0, 0]) (dpOf [0, 0, 0, 0, 0]) b_law_all_rows w_law_all_rows from ss_seq (ss_asgD (l := [0, 0, 0, 0, 0]) (io := []) 1 0 (pd_of (by decide)) (by decide) (((se_lstO (k := 0) (sa_cons ((se_str).fl_fr 0) (sa_nil))).fr_fz).fz_fr0) (by decide))
    (ss_seq (ss_for (io := []) (pd_of (by decide)) (si_range1 ((se_var 0 rfl).fz_bor)) (sg_name 2 rfl) (ss_seq (ss_asgD (l := [0, 0, 0, 0, 0]) (io := []) 3 0 (pd_of (by decide)) (by decide) (((se_lstO (k := 0) (sa_nil)).fr_fz).fz_fr0) (by decide))
    (ss_seq (ss_for (io := []) (pd_of (by decide)) (si_val (se_var 1 rfl)) (sg_name 4 rfl) (ss_asgD (l := [0, 0, 0, 0, 0]) (io := []) 3 0 (pd_of (by decide)) (by decide) ((se_bin od_add (se_var 3 rfl) ((se_lstO (k := 0) (sa_cons ((se_bin od_add (se_var 4 rfl) ((se_str).fl_fz)).fz_fr0) (sa_cons ((se_bin od_add (se_var 4 rfl) ((se_str).fl_fz)).fz_fr0) (sa_nil)))).fr_fz)).fz_fr0) (by decide)) (by decide))
    (ss_asgD (l := [0, 0, 0, 0, 0]) (io := []) 1 0 (pd_of (by decide)) (by decide) ((se_var 3 rfl).fz_fr0) (by decide)))) (by decide))
    (ss_ret (io := []) (pd_of (by decide)) (se_var 1 rfl) nofun))) (pd_of (by decide)) nofun
/-! need_line(thing, place, dot) : fz -/
def L_need_line_1 : VS := vIfS (vTst (vBin uNotIn (vVar 2) (vBin uAdd (vC (.str ".")) (vC (.str "#"))))) (vNever) (vSkip)
def w_need_line : VS := vSeq (vIfS (vOr (vNot (vTru (vOp uIsi (vCons (vVar 0) (vCons (vC (.op (.ty "str"))) (vNil)))))) (vNot (vTst (vChain uLe uLe (vC (.int 1)) (vOp uLen (vCons (vVar 0) (vNil))) (vC (.int 40)))))) (vNever) (vSkip))
    (vSeq (vFor (vEn (vVar 0)) (tT 2 (tsCons (tN 1) (tsCons (tN 2) (tsNil)))) (L_need_line_1))
    (vRet (vVar 0)))
def v_need_line : VF := vBody 3 0 w_need_line
theorem sim_need_line : SF [] .fz m_need_line v_need_line := sf_ofL 3 [0, 0, 0] 3 rfl (dp' := dpOf [0, 0, 0]) (show SS [] .fz (dpOf []) (dpOf [0, 0, 0]) (dpOf [0, 0, 0]) b_need_line w_need_line from ss_seq (ss_if (io := []) (pd_of (by decide)) (sb_or (sb_not (sb_tru ((se_callL od_isi fl_isi (sa_cons ((se_var 0 rfl).fz_bor) (sa_cons ((se_op).fl_bor) (sa_nil)))).fl_bor))) (sb_not (sb_tst ((se_chain od_cmp od_cmp fl_cmp ((se_int).fl_bor) ((se_callL od_len fl_len (sa_cons ((se_var 0 rfl).fz_bor) (sa_nil))).fl_bor) ((se_int).fl_bor)).fl_bor)))) (ss_never) (ss_skip))
    (ss_seq (ss_for (io := []) (pd_of (by decide)) (si_enum (se_var 0 rfl)) (sg_tup (sgs_cons (sg_name 1 rfl) (sgs_cons (sg_name 2 rfl) (sgs_nil)))) (ss_if (io := []) (pd_of (by decide)) (sb_tst ((se_binL od_notIn fl_notIn ((se_var 2 rfl).fz_bor) (se_binB od_add ((se_str).fl_bor) ((se_str).fl_bor))).fl_bor)) (ss_never) (ss_skip)) (by decide))
    (ss_ret (io := []) (pd_of (by decide)) (se_var 0 rfl) nofun))) (pd_of (by decide)) nofun
/-! is_full(telling) : fz -/
def w_is_full : VS := vRet (vAndV (vBin uGt (vOp uLen (vCons (vVar 0) (vNil))) (vC (.int 0))) (vBin uEq (vBin uIx (vBin uIx (vVar 0) (vC (.int 0))) (vC (.int 0))) (vC (.str "full"))))
def v_is_full : VF := vBody 1 0 w_is_full
theorem sim_is_full : SF [] .fz m_is_full v_is_full := sf_ofL 1 [0] 1 rfl (dp' := dpOf [0]) (show SS [] .fz (dpOf []) (dpOf [0]) (dpOf [0]) b_is_full w_is_full from ss_ret (io := []) (pd_of (by decide)) (se_and ((se_binL od_cmp fl_cmp ((se_callL od_len fl_len (sa_cons ((se_var 0 rfl).fz_bor) (sa_nil))).fl_bor) ((se_int).fl_bor)).fl_fz) ((se_binL od_eq fl_eq (se_binB od_ix (se_binB od_ix ((se_var 0 rfl).fz_bor) ((se_int).fl_bor)) ((se_int).fl_bor)) ((se_str).fl_bor)).fl_fz)) nofun) (pd_of (by decide)) nofun
/-! other_colour(colour) : fz -/
def w_other_colour : VS := vRet (vIf (vTst (vBin uEq (vVar 0) (vC (.str ".")))) (vC (.str "#")) (vC (.str ".")))
def v_other_colour : VF := vBody 1 0 w_other_colour
theorem sim_other_colour : SF [] .fz m_other_colour v_other_colour := sf_ofL 1 [0] 1 rfl (dp' := dpOf [0]) (show SS [] .fz (dpOf []) (dpOf [0]) (dpOf [0]) b_other_colour w_other_colour from ss_ret (io := []) (pd_of (by decide)) (se_if (sb_tst ((se_binL od_eq fl_eq ((se_var 0 rfl).fz_bor) ((se_str).fl_bor)).fl_bor)) ((se_str).fl_fz) ((se_str).fl_fz)) nofun) (pd_of (by decide)) nofun
/-! line_in(runs, found, colour, run) : fz -/
def L_line_in_1 : VS := vSeq (vAug 1 uIAdd (vBin uMul (vVar 2) (vVar 3)))
    (vAsg (vCall0 v_other_colour (vCons (vVar 2) (vNil))) 2)
def w_line_in : VS := vSeq (vParN [1, 2] (vCons (vC (.str "")) (vCons (vC (.str ".")) (vNil))))
    (vSeq (vFor (vIt (vVar 0)) (tN 3) (L_line_in_1))
    (vRet (vVar 1)))
def v_line_in : VF := vBody 4 0 w_line_in
theorem sim_line_in : SF [] .fz m_line_in v_line_in := sf_ofL 4 [0, 0, 0, 0] 4 rfl (dp' := dpOf [0, 0, 0, 0]) (show SS [] .fz (dpOf []) (dpOf [0, 0, 0, 0]) (dpOf [0, 0, 0, 0]) b_line_in w_line_in from ss_seq (ss_parD (l := [0, 0, 0, 0]) (io := []) 1 2 0 0 (pd_of (by decide)) (sl_cons ((se_str).fl_fr 0) (sl_cons ((se_str).fl_fr 0) (sl_nil))) (by decide))
    (ss_seq (ss_for (io := []) (pd_of (by decide)) (si_val (se_var 0 rfl)) (sg_name 3 rfl) (ss_seq (ss_aug (io := []) (pd_of (by decide)) 1 od_iadd fl_iadd rfl (se_binB od_mul ((se_var 2 rfl).fz_bor) ((se_var 3 rfl).fz_bor)) (by decide))
    (ss_asgD (l := [0, 0, 0, 0]) (io := []) 2 0 (pd_of (by decide)) (by decide) ((se_call0 sim_other_colour nofun (sa_cons (se_var 2 rfl) (sa_nil))).fz_fr0) (by decide))) (by decide))
    (ss_ret (io := []) (pd_of (by decide)) (se_var 1 rfl) nofun))) (pd_of (by decide)) nofun
/-! dots_of(mode, place, end, colour) : fz -/
def w_dots_of : VS := vSeq (vIfS (vTst (vBin uEq (vBin uIx (vVar 0) (vC (.int 0))) (vC (.str "runs")))) (vRet (vBin uAdd (vBin uMul (vVar 3) (vBin uIx (vVar 0) (vC (.int 1)))) (vBin uMul (vCall0 v_other_colour (vCons (vVar 3) (vNil))) (vBin uIx (vVar 0) (vC (.int 2)))))) (vSkip))
    (vRet (vBin uMul (vVar 3) (vBin uSub (vVar 2) (vVar 1))))
def v_dots_of : VF := vBody 4 0 w_dots_of
theorem sim_dots_of : SF [] .fz m_dots_of v_dots_of := sf_ofL 4 [0, 0, 0, 0] 4 rfl (dp' := dpOf [0, 0, 0, 0]) (show SS [] .fz (dpOf []) (dpOf [0, 0, 0, 0]) (dpOf [0, 0, 0, 0]) b_dots_of w_dots_of from ss_seq (ss_if (io := []) (pd_of (by decide)) (sb_tst ((se_binL od_eq fl_eq (se_binB od_ix ((se_var 0 rfl).fz_bor) ((se_int).fl_bor)) ((se_str).fl_bor)).fl_bor)) (ss_ret (io := []) (pd_of (by decide)) (se_bin od_add (se_bin od_mul (se_var 3 rfl) (se_bin od_ix (se_var 0 rfl) ((se_int).fl_fz))) (se_bin od_mul (se_call0 sim_other_colour nofun (sa_cons (se_var 3 rfl) (sa_nil))) (se_bin od_ix (se_var 0 rfl) ((se_int).fl_fz)))) nofun) (ss_skip))
    (ss_ret (io := []) (pd_of (by decide)) (se_bin od_mul (se_var 3 rfl) ((se_binL od_sub fl_sub ((se_var 2 rfl).fz_bor) ((se_var 1 rfl).fz_bor)).fl_fz)) nofun)) (pd_of (by decide)) nofun
/-! change_from(reference, place, colour, is_told, here, ahead) : fz -/
def L_change_from_1 : VS := vSeq (vAsg (vIf (vTst (vBin uGt (vVar 4) (vC (.int 0)))) (vBin uIx (vVar 0) (vBin uSub (vVar 4) (vC (.int 1)))) (vC (.str "."))) 5)
    (vIfS (vAnd (vTst (vBin uEq (vVar 5) (vVar 2))) (vTst (vBin uNe (vBin uIx (vVar 0) (vVar 4)) (vVar 2)))) (vRet (vVar 4)) (vSkip))
def w_change_from : VS := vSeq (vFor (vRng2 (vIf (vTru (vVar 3)) (vBin uAdd (vVar 1) (vC (.int 1))) (vVar 1)) (vOp uLen (vCons (vVar 0) (vNil)))) (tN 4) (L_change_from_1))
    (vRet (vOp uLen (vCons (vVar 0) (vNil))))
def v_change_from : VF := vBody 6 0 w_change_from
theorem sim_change_from : SF [] .fz m_change_from v_change_from := sf_ofL 6 [0, 0, 0, 0, 0, 0] 6 rfl (dp' := dpOf [0, 0, 0, 0, 0, 0]) (show SS [] .fz (dpOf []) (dpOf [0, 0, 0, 0, 0, 0]) (dpOf [0, 0, 0, 0, 0, 0]) b_change_from w_change_from from ss_seq (ss_for (io := []) (pd_of (by decide)) (si_range2 (se_if (sb_tru ((se_var 3 rfl).fz_bor)) (se_binB od_add ((se_var 1 rfl).fz_bor) ((se_int).fl_bor)) ((se_var 1 rfl).fz_bor)) ((se_callL od_len fl_len (sa_cons ((se_var 0 rfl).fz_bor) (sa_nil))).fl_bor)) (sg_name 4 rfl) (ss_seq (ss_asgD (l := [0, 0, 0, 0, 0, 0]) (io := []) 5 0 (pd_of (by decide)) (by decide) (se_if (sb_tst ((se_binL od_cmp fl_cmp ((se_var 4 rfl).fz_bor) ((se_int).fl_bor)).fl_bor)) ((se_bin od_ix (se_var 0 rfl) ((se_binL od_sub fl_sub ((se_var 4 rfl).fz_bor) ((se_int).fl_bor)).fl_fz)).fz_fr0) ((se_str).fl_fr 0)) (by decide))
    (ss_if (io := []) (pd_of (by decide)) (sb_and (sb_tst ((se_binL od_eq fl_eq ((se_var 5 rfl).fz_bor) ((se_var 2 rfl).fz_bor)).fl_bor)) (sb_tst ((se_binL od_ne fl_ne (se_binB od_ix ((se_var 0 rfl).fz_bor) ((se_var 4 rfl).fz_bor)) ((se_var 2 rfl).fz_bor)).fl_bor))) (ss_ret (io := []) (pd_of (by decide)) (se_var 4 rfl) nofun) (ss_skip))) (by decide))
    (ss_ret (io := []) (pd_of (by decide)) ((se_callL od_len fl_len (sa_cons ((se_var 0 rfl).fz_bor) (sa_nil))).fl_fz) nofun)) (pd_of (by decide)) nofun
/-! change_back(reference, place, colour, here) : fz -/
def L_change_back_1 : VS := vIfS (vTst (vBin uEq (vBin uIx (vVar 0) (vVar 3)) (vVar 2))) (vRet (vVar 3)) (vSkip)
def w_change_back : VS := vSeq (vFor (vRng2 (vBin uAdd (vVar 1) (vC (.int 1))) (vOp uLen (vCons (vVar 0) (vNil)))) (tN 3) (L_change_back_1))
    (vRet (vOp uLen (vCons (vVar 0) (vNil))))
def v_change_back : VF := vBody 4 0 w_change_back
theorem sim_change_back : SF [] .fz m_change_back v_change_back := sf_ofL 4 [0, 0, 0, 0] 4 rfl (dp' := dpOf [0, 0, 0, 0]) (show SS [] .fz (dpOf []) (dpOf [0, 0, 0, 0]) (dpOf [0, 0, 0, 0]) b_change_back w_change_back from ss_seq (ss_for (io := []) (pd_of (by decide)) (si_range2 (se_binB od_add ((se_var 1 rfl).fz_bor) ((se_int).fl_bor)) ((se_callL od_len fl_len (sa_cons ((se_var 0 rfl).fz_bor) (sa_nil))).fl_bor)) (sg_name 3 rfl) (ss_if (io := []) (pd_of (by decide)) (sb_tst ((se_binL od_eq fl_eq (se_binB od_ix ((se_var 0 rfl).fz_bor) ((se_var 3 rfl).fz_bor)) ((se_var 2 rfl).fz_bor)).fl_bor)) (ss_ret (io := []) (pd_of (by decide)) (se_var 3 rfl) nofun) (ss_skip)) (by decide))
    (ss_ret (io := []) (pd_of (by decide)) ((se_callL od_len fl_len (sa_cons ((se_var 0 rfl).fz_bor) (sa_nil))).fl_fz) nofun)) (pd_of (by decide)) nofun
/-! after_mode(reference, mode, place, colour, is_told, width, middle, end, change) : fz -/
def w_after_mode : VS := vSeq (vAsg (vOp uLen (vCons (vVar 0) (vNil))) 5)
    (vSeq (vIfS (vTst (vBin uEq (vBin uIx (vVar 1) (vC (.int 0))) (vC (.str "runs")))) (vSeq (vAsg (vBin uAdd (vVar 2) (vBin uIx (vVar 1) (vC (.int 1)))) 6)
    (vSeq (vAsg (vBin uAdd (vVar 6) (vBin uIx (vVar 1) (vC (.int 2)))) 7)
    (vSeq (vIfS (vOr (vTst (vBin uGt (vVar 7) (vVar 5))) (vOr (vAnd (vTst (vBin uEq (vBin uIx (vVar 1) (vC (.int 1))) (vC (.int 0)))) (vTru (vVar 4))) (vAnd (vTst (vBin uEq (vBin uIx (vVar 1) (vC (.int 2))) (vC (.int 0)))) (vTst (vBin uLt (vVar 6) (vVar 5)))))) (vRet (vC .non)) (vSkip))
    (vRet (vTup (vCons (vVar 7) (vCons (vVar 3) (vNil)))))))) (vSkip))
    (vSeq (vAsg (vCall0 v_change_from (vCons (vVar 0) (vCons (vVar 2) (vCons (vVar 3) (vCons (vVar 4) (vNil)))))) 8)
    (vSeq (vIfS (vTst (vBin uEq (vBin uIx (vVar 1) (vC (.int 0))) (vC (.str "pass")))) (vRet (vIf (vTst (vBin uLt (vVar 8) (vVar 5))) (vTup (vCons (vCall0 v_change_back (vCons (vVar 0) (vCons (vVar 8) (vCons (vVar 3) (vNil))))) (vCons (vVar 3) (vNil)))) (vC .non))) (vSkip))
    (vSeq (vAsg (vBin uAdd (vVar 8) (vBin uIx (vVar 1) (vC (.int 1)))) 7)
    (vSeq (vIfS (vOr (vTst (vBin uGt (vVar 7) (vVar 5))) (vOr (vTst (vBin uLt (vVar 7) (vC (.int 0)))) (vAnd (vTst (vBin uLe (vVar 7) (vVar 2))) (vTru (vVar 4))))) (vRet (vC .non)) (vSkip))
    (vRet (vTup (vCons (vVar 7) (vCons (vCall0 v_other_colour (vCons (vVar 3) (vNil))) (vNil))))))))))
def v_after_mode : VF := vBody 9 0 w_after_mode
theorem sim_after_mode : SF [] .fz m_after_mode v_after_mode := sf_ofL 9 [0, 0, 0, 0, 0, 0, 0, 0, 0] 9 rfl (dp' := dpOf [0, 0, 0, 0, 0, 0, 0, 0, 0]) (show SS [] .fz (dpOf []) (dpOf [0, 0, 0, 0, 0, 0, 0, 0, 0]) (dpOf [0, 0, 0, 0, 0, 0, 0, 0, 0]) b_after_mode w_after_mode from ss_seq (ss_asgD (l := [0, 0, 0, 0, 0, 0, 0, 0, 0]) (io := []) 5 0 (pd_of (by decide)) (by decide) ((se_callL od_len fl_len (sa_cons ((se_var 0 rfl).fz_bor) (sa_nil))).fl_fr 0) (by decide))
    (ss_seq (ss_if (io := []) (pd_of (by decide)) (sb_tst ((se_binL od_eq fl_eq (se_binB od_ix ((se_var 1 rfl).fz_bor) ((se_int).fl_bor)) ((se_str).fl_bor)).fl_bor)) (ss_seq (ss_asgD (l := [0, 0, 0, 0, 0, 0, 0, 0, 0]) (io := []) 6 0 (pd_of (by decide)) (by decide) ((se_bin od_add (se_var 2 rfl) (se_bin od_ix (se_var 1 rfl) ((se_int).fl_fz))).fz_fr0) (by decide))
    (ss_seq (ss_asgD (l := [0, 0, 0, 0, 0, 0, 0, 0, 0]) (io := []) 7 0 (pd_of (by decide)) (by decide) ((se_bin od_add (se_var 6 rfl) (se_bin od_ix (se_var 1 rfl) ((se_int).fl_fz))).fz_fr0) (by decide))
    (ss_seq (ss_if (io := []) (pd_of (by decide)) (sb_or (sb_tst ((se_binL od_cmp fl_cmp ((se_var 7 rfl).fz_bor) ((se_var 5 rfl).fz_bor)).fl_bor)) (sb_or (sb_and (sb_tst ((se_binL od_eq fl_eq (se_binB od_ix ((se_var 1 rfl).fz_bor) ((se_int).fl_bor)) ((se_int).fl_bor)).fl_bor)) (sb_tru ((se_var 4 rfl).fz_bor))) (sb_and (sb_tst ((se_binL od_eq fl_eq (se_binB od_ix ((se_var 1 rfl).fz_bor) ((se_int).fl_bor)) ((se_int).fl_bor)).fl_bor)) (sb_tst ((se_binL od_cmp fl_cmp ((se_var 6 rfl).fz_bor) ((se_var 5 rfl).fz_bor)).fl_bor))))) (ss_ret (io := []) (pd_of (by decide)) ((se_non).fl_fz) nofun) (ss_skip))
    (ss_ret (io := []) (pd_of (by decide)) (se_tup (sa_cons (se_var 7 rfl) (sa_cons (se_var 3 rfl) (sa_nil))) nofun) nofun)))) (ss_skip))
    (ss_seq (ss_asgD (l := [0, 0, 0, 0, 0, 0, 0, 0, 0]) (io := []) 8 0 (pd_of (by decide)) (by decide) ((se_call0 sim_change_from nofun (sa_cons (se_var 0 rfl) (sa_cons (se_var 2 rfl) (sa_cons (se_var 3 rfl) (sa_cons (se_var 4 rfl) (sa_nil)))))).fz_fr0) (by decide))
    (ss_seq (ss_if (io := []) (pd_of (by decide)) (sb_tst ((se_binL od_eq fl_eq (se_binB od_ix ((se_var 1 rfl).fz_bor) ((se_int).fl_bor)) ((se_str).fl_bor)).fl_bor)) (ss_ret (io := []) (pd_of (by decide)) (se_if (sb_tst ((se_binL od_cmp fl_cmp ((se_var 8 rfl).fz_bor) ((se_var 5 rfl).fz_bor)).fl_bor)) (se_tup (sa_cons (se_call0 sim_change_back nofun (sa_cons (se_var 0 rfl) (sa_cons (se_var 8 rfl) (sa_cons (se_var 3 rfl) (sa_nil))))) (sa_cons (se_var 3 rfl) (sa_nil))) nofun) ((se_non).fl_fz)) nofun) (ss_skip))
    (ss_seq (ss_asgD (l := [0, 0, 0, 0, 0, 0, 0, 0, 0]) (io := []) 7 0 (pd_of (by decide)) (by decide) ((se_bin od_add (se_var 8 rfl) (se_bin od_ix (se_var 1 rfl) ((se_int).fl_fz))).fz_fr0) (by decide))
    (ss_seq (ss_if (io := []) (pd_of (by decide)) (sb_or (sb_tst ((se_binL od_cmp fl_cmp ((se_var 7 rfl).fz_bor) ((se_var 5 rfl).fz_bor)).fl_bor)) (sb_or (sb_tst ((se_binL od_cmp fl_cmp ((se_var 7 rfl).fz_bor) ((se_int).fl_bor)).fl_bor)) (sb_and (sb_tst ((se_binL od_cmp fl_cmp ((se_var 7 rfl).fz_bor) ((se_var 2 rfl).fz_bor)).fl_bor)) (sb_tru ((se_var 4 rfl).fz_bor))))) (ss_ret (io := []) (pd_of (by decide)) ((se_non).fl_fz) nofun) (ss_skip))
    (ss_ret (io := []) (pd_of (by decide)) (se_tup (sa_cons (se_var 7 rfl) (sa_cons (se_call0 sim_other_colour nofun (sa_cons (se_var 3 rfl) (sa_nil))) (sa_nil))) nofun) nofun))))))) (pd_of (by decide)) nofun
/-! read_beside(reference, telling, line, place, colour, found, is_told, mode, there) : fz -/
def L_read_beside_1 : VS := vSeq (vAsg (vIf (vTst (vBin uLt (vVar 3) (vOp uLen (vCons (vVar 0) (vNil))))) (vCall0 v_after_mode (vCons (vVar 0) (vCons (vVar 7) (vCons (vVar 3) (vCons (vVar 4) (vCons (vVar 6) (vNil))))))) (vC .non)) 8)
    (vSeq (vIfS (vTst (vBin uIs (vVar 8) (vC .non))) (vRet (vC .non)) (vSkip))
    (vSeq (vAug 5 uIAdd (vCall0 v_dots_of (vCons (vVar 7) (vCons (vVar 3) (vCons (vBin uIx (vVar 8) (vC (.int 0))) (vCons (vVar 4) (vNil)))))))
    (vSeq (vAsgT (vVar 8) (tT 2 (tsCons (tN 3) (tsCons (tN 4) (tsNil)))))
    (vAsg (vC (.bl true)) 6))))
def w_read_beside : VS := vSeq (vIfS (vTru (vCall0 v_is_full (vCons (vVar 1) (vNil)))) (vSeq (vAsg (vCall0 v_line_in (vCons (vBin uIx (vBin uIx (vVar 1) (vC (.int 0))) (vC (.int 1))) (vNil))) 2)
    (vRet (vIf (vTst (vBin uEq (vOp uLen (vCons (vVar 2) (vNil))) (vOp uLen (vCons (vVar 0) (vNil))))) (vVar 2) (vC .non)))) (vSkip))
    (vSeq (vParN [3, 4, 5, 6] (vCons (vC (.int 0)) (vCons (vC (.str ".")) (vCons (vC (.str "")) (vCons (vC (.bl false)) (vNil))))))
    (vSeq (vFor (vIt (vVar 1)) (tN 7) (L_read_beside_1))
    (vRet (vIf (vTst (vBin uEq (vVar 3) (vOp uLen (vCons (vVar 0) (vNil))))) (vVar 5) (vC .non)))))
def v_read_beside : VF := vBody 9 0 w_read_beside
theorem sim_read_beside : SF [] .fz m_read_beside v_read_beside := sf_ofL 9 [0, 0, 0, 0, 0, 0, 0, 0, 0] 9 rfl (dp' := dpOf [0, 0, 0, 0, 0, 0, 0, 0, 0]) (show SS [] .fz (dpOf []) (dpOf [0, 0, 0, 0, 0, 0, 0, 0, 0]) (dpOf [0, 0, 0, 0, 0, 0, 0, 0, 0]) b_read_beside w_read_beside from ss_seq (ss_if (io := []) (pd_of (by decide)) (sb_tru ((se_call0 sim_is_full nofun (sa_cons (se_var 1 rfl) (sa_nil))).fz_bor)) (ss_seq (ss_asgD (l := [0, 0, 0, 0, 0, 0, 0, 0, 0]) (io := []) 2 0 (pd_of (by decide)) (by decide) ((se_call0 sim_line_in nofun (sa_cons (se_bin od_ix (se_bin od_ix (se_var 1 rfl) ((se_int).fl_fz)) ((se_int).fl_fz)) (sa_nil))).fz_fr0) (by decide))
    (ss_ret (io := []) (pd_of (by decide)) (se_if (sb_tst ((se_binL od_eq fl_eq ((se_callL od_len fl_len (sa_cons ((se_var 2 rfl).fz_bor) (sa_nil))).fl_bor) ((se_callL od_len fl_len (sa_cons ((se_var 0 rfl).fz_bor) (sa_nil))).fl_bor)).fl_bor)) (se_var 2 rfl) ((se_non).fl_fz)) nofun)) (ss_skip))
    (ss_seq (ss_parTD (l := [0, 0, 0, 0, 0, 0, 0, 0, 0]) (io := []) [3, 4, 5, 6] [0, 0, 0, 0] 4 (pd_of (by decide)) (sl_cons ((se_int).fl_fr 0) (sl_cons ((se_str).fl_fr 0) (sl_cons ((se_str).fl_fr 0) (sl_cons ((se_bl).fl_fr 0) (sl_nil))))) rfl rfl (by decide) (by decide))
    (ss_seq (ss_for (io := []) (pd_of (by decide)) (si_val (se_var 1 rfl)) (sg_name 7 rfl) (ss_seq (ss_asgD (l := [0, 0, 0, 0, 0, 0, 0, 0, 0]) (io := []) 8 0 (pd_of (by decide)) (by decide) (se_if (sb_tst ((se_binL od_cmp fl_cmp ((se_var 3 rfl).fz_bor) ((se_callL od_len fl_len (sa_cons ((se_var 0 rfl).fz_bor) (sa_nil))).fl_bor)).fl_bor)) ((se_call0 sim_after_mode nofun (sa_cons (se_var 0 rfl) (sa_cons (se_var 7 rfl) (sa_cons (se_var 3 rfl) (sa_cons (se_var 4 rfl) (sa_cons (se_var 6 rfl) (sa_nil))))))).fz_fr0) ((se_non).fl_fr 0)) (by decide))
    (ss_seq (ss_if (io := []) (pd_of (by decide)) (sb_tst ((se_binL od_is fl_is ((se_var 8 rfl).fz_bor) ((se_non).fl_bor)).fl_bor)) (ss_ret (io := []) (pd_of (by decide)) ((se_non).fl_fz) nofun) (ss_skip))
    (ss_seq (ss_aug (io := []) (pd_of (by decide)) 5 od_iadd fl_iadd rfl ((se_call0 sim_dots_of nofun (sa_cons (se_var 7 rfl) (sa_cons (se_var 3 rfl) (sa_cons (se_bin od_ix (se_var 8 rfl) ((se_int).fl_fz)) (sa_cons (se_var 4 rfl) (sa_nil)))))).fz_bor) (by decide))
    (ss_seq (ss_asgT (io := []) (pd_of (by decide)) (se_var 8 rfl) (sg_tup (sgs_cons (sg_name 3 rfl) (sgs_cons (sg_name 4 rfl) (sgs_nil)))) (by decide))
    (ss_asgD (l := [0, 0, 0, 0, 0, 0, 0, 0, 0]) (io := []) 6 0 (pd_of (by decide)) (by decide) ((se_bl).fl_fr 0) (by decide)))))) (by decide))
    (ss_ret (io := []) (pd_of (by decide)) (se_if (sb_tst ((se_binL od_eq fl_eq ((se_var 3 rfl).fz_bor) ((se_callL od_len fl_len (sa_cons ((se_var 0 rfl).fz_bor) (sa_nil))).fl_bor)).fl_bor)) (se_var 5 rfl) ((se_non).fl_fz)) nofun)))) (pd_of (by decide)) nofun
/-! is_whole(thing, least, most) : fz -/
def w_is_whole : VS := vSeq (vIfS (vOr (vNot (vTru (vOp uIsi (vCons (vVar 0) (vCons (vC (.op (.ty "int"))) (vNil)))))) (vTru (vOp uIsi (vCons (vVar 0) (vCons (vC (.op (.ty "bool"))) (vNil)))))) (vRet (vC (.bl false))) (vSkip))
    (vRet (vAndV (vOrV (vBin uIs (vVar 1) (vC .non)) (vBin uGe (vVar 0) (vVar 1))) (vOrV (vBin uIs (vVar 2) (vC .non)) (vBin uLe (vVar 0) (vVar 2)))))
def v_is_whole : VF := vBody 3 0 w_is_whole
theorem sim_is_whole : SF [] .fz m_is_whole v_is_whole := sf_ofL 3 [0, 0, 0] 3 rfl (dp' := dpOf [0, 0, 0]) (show SS [] .fz (dpOf []) (dpOf [0, 0, 0]) (dpOf [0, 0, 0]) b_is_whole w_is_whole from ss_seq (ss_if (io := []) (pd_of (by decide)) (sb_or (sb_not (sb_tru ((se_callL od_isi fl_isi (sa_cons ((se_var 0 rfl).fz_bor) (sa_cons ((se_op).fl_bor) (sa_nil)))).fl_bor))) (sb_tru ((se_callL od_isi fl_isi (sa_cons ((se_var 0 rfl).fz_bor) (sa_cons ((se_op).fl_bor) (sa_nil)))).fl_bor))) (ss_ret (io := []) (pd_of (by decide)) ((se_bl).fl_fz) nofun) (ss_skip))
    (ss_ret (io := []) (pd_of (by decide)) (se_and (se_or ((se_binL od_is fl_is ((se_var 1 rfl).fz_bor) ((se_non).fl_bor)).fl_fz) ((se_binL od_cmp fl_cmp ((se_var 0 rfl).fz_bor) ((se_var 1 rfl).fz_bor)).fl_fz)) (se_or ((se_binL od_is fl_is ((se_var 2 rfl).fz_bor) ((se_non).fl_bor)).fl_fz) ((se_binL od_cmp fl_cmp ((se_var 0 rfl).fz_bor) ((se_var 2 rfl).fz_bor)).fl_fz))) nofun)) (pd_of (by decide)) nofun
/-! are_runs(thing, run) : fz -/
def X_are_runs_1 : VE := vCall0 v_is_whole (vCons (vVar 1) (vCons (vC (.int 0)) (vCons (vC (.int 40)) (vNil))))
def w_are_runs : VS := vSeq (vIfS (vOr (vNot (vTru (vOp uIsi (vCons (vVar 0) (vCons (vC (.op (.ty "tuple"))) (vNil)))))) (vOr (vTst (vBin uEq (vVar 0) (vTup (vNil)))) (vNot (vTru (vOp uAll (vCons (vLc (vIt (vVar 0)) (tN 1) (vYes) (X_are_runs_1) [1]) (vNil))))))) (vRet (vC (.bl false))) (vSkip))
    (vRet (vAndV (vBin uNotIn (vC (.int 0)) (vSl (vVar 0) (voS (vC (.int 1))) (voN))) (vChain uLe uLe (vC (.int 1)) (vOp uSum (vCons (vVar 0) (vNil))) (vC (.int 40)))))
def v_are_runs : VF := vBody 2 0 w_are_runs
theorem sim_are_runs : SF [] .fz m_are_runs v_are_runs := sf_ofL 2 [0, 0] 2 rfl (dp' := dpOf [0, 0]) (show SS [] .fz (dpOf []) (dpOf [0, 0]) (dpOf [0, 0]) b_are_runs w_are_runs from ss_seq (ss_if (io := []) (pd_of (by decide)) (sb_or (sb_not (sb_tru ((se_callL od_isi fl_isi (sa_cons ((se_var 0 rfl).fz_bor) (sa_cons ((se_op).fl_bor) (sa_nil)))).fl_bor))) (sb_or (sb_tst ((se_binL od_eq fl_eq ((se_var 0 rfl).fz_bor) (se_tup (sa_nil) nofun)).fl_bor)) (sb_not (sb_tru ((se_callL od_all fl_all (sa_cons ((se_lc (k := 0) (si_val (se_var 0 rfl)) (sg_name 1 rfl) (sb_yes) ((se_call0 sim_is_whole nofun (sa_cons (se_var 1 rfl) (sa_cons ((se_int).fl_fz) (sa_cons ((se_int).fl_fz) (sa_nil))))).fz_fr0) (by decide) (by decide)).fr_bor) (sa_nil))).fl_bor))))) (ss_ret (io := []) (pd_of (by decide)) ((se_bl).fl_fz) nofun) (ss_skip))
    (ss_ret (io := []) (pd_of (by decide)) (se_and ((se_binL od_notIn fl_notIn ((se_int).fl_bor) (se_sliceB ((se_var 0 rfl).fz_bor) (so_some ((se_int).fl_bor)) (so_none))).fl_fz) ((se_chain od_cmp od_cmp fl_cmp ((se_int).fl_bor) ((se_callL od_sum fl_sum (sa_cons ((se_var 0 rfl).fz_bor) (sa_nil))).fl_bor) ((se_int).fl_bor)).fl_fz)) nofun)) (pd_of (by decide)) nofun
/-! is_mode(thing) : fz -/
def w_is_mode : VS := vSeq (vIfS (vOr (vNot (vTru (vOp uIsi (vCons (vVar 0) (vCons (vC (.op (.ty "tuple"))) (vNil)))))) (vOr (vTst (vBin uEq (vVar 0) (vTup (vNil)))) (vNot (vTru (vOp uIsi (vCons (vBin uIx (vVar 0) (vC (.int 0))) (vCons (vC (.op (.ty "str"))) (vNil)))))))) (vRet (vC (.bl false))) (vSkip))
    (vSeq (vIfS (vTst (vBin uEq (vBin uIx (vVar 0) (vC (.int 0))) (vC (.str "pass")))) (vRet (vBin uEq (vOp uLen (vCons (vVar 0) (vNil))) (vC (.int 1)))) (vSkip))
    (vSeq (vIfS (vTst (vBin uEq (vBin uIx (vVar 0) (vC (.int 0))) (vC (.str "stay")))) (vRet (vAndV (vBin uEq (vOp uLen (vCons (vVar 0) (vNil))) (vC (.int 2))) (vCall0 v_is_whole (vCons (vBin uIx (vVar 0) (vC (.int 1))) (vCons (vUn uNeg (vC (.int 3))) (vCons (vC (.int 3)) (vNil))))))) (vSkip))
    (vSeq (vIfS (vTst (vBin uEq (vBin uIx (vVar 0) (vC (.int 0))) (vC (.str "full")))) (vRet (vAndV (vBin uEq (vOp uLen (vCons (vVar 0) (vNil))) (vC (.int 2))) (vCall0 v_are_runs (vCons (vBin uIx (vVar 0) (vC (.int 1))) (vNil))))) (vSkip))
    (vSeq (vIfS (vOr (vTst (vBin uNe (vBin uIx (vVar 0) (vC (.int 0))) (vC (.str "runs")))) (vTst (vBin uNe (vOp uLen (vCons (vVar 0) (vNil))) (vC (.int 3))))) (vRet (vC (.bl false))) (vSkip))
    (vRet (vAndV (vCall0 v_is_whole (vCons (vBin uIx (vVar 0) (vC (.int 1))) (vCons (vC (.int 0)) (vCons (vC (.int 40)) (vNil))))) (vCall0 v_is_whole (vCons (vBin uIx (vVar 0) (vC (.int 2))) (vCons (vC (.int 0)) (vCons (vC (.int 40)) (vNil)))))))))))
def v_is_mode : VF := vBody 1 0 w_is_mode
theorem sim_is_mode : SF [] .fz m_is_mode v_is_mode := sf_ofL 1 [0] 1 rfl (dp' := dpOf [0]) (show SS [] .fz (dpOf []) (dpOf [0]) (dpOf [0]) b_is_mode w_is_mode from ss_seq (ss_if (io := []) (pd_of (by decide)) (sb_or (sb_not (sb_tru ((se_callL od_isi fl_isi (sa_cons ((se_var 0 rfl).fz_bor) (sa_cons ((se_op).fl_bor) (sa_nil)))).fl_bor))) (sb_or (sb_tst ((se_binL od_eq fl_eq ((se_var 0 rfl).fz_bor) (se_tup (sa_nil) nofun)).fl_bor)) (sb_not (sb_tru ((se_callL od_isi fl_isi (sa_cons (se_binB od_ix ((se_var 0 rfl).fz_bor) ((se_int).fl_bor)) (sa_cons ((se_op).fl_bor) (sa_nil)))).fl_bor))))) (ss_ret (io := []) (pd_of (by decide)) ((se_bl).fl_fz) nofun) (ss_skip))
    (ss_seq (ss_if (io := []) (pd_of (by decide)) (sb_tst ((se_binL od_eq fl_eq (se_binB od_ix ((se_var 0 rfl).fz_bor) ((se_int).fl_bor)) ((se_str).fl_bor)).fl_bor)) (ss_ret (io := []) (pd_of (by decide)) ((se_binL od_eq fl_eq ((se_callL od_len fl_len (sa_cons ((se_var 0 rfl).fz_bor) (sa_nil))).fl_bor) ((se_int).fl_bor)).fl_fz) nofun) (ss_skip))
    (ss_seq (ss_if (io := []) (pd_of (by decide)) (sb_tst ((se_binL od_eq fl_eq (se_binB od_ix ((se_var 0 rfl).fz_bor) ((se_int).fl_bor)) ((se_str).fl_bor)).fl_bor)) (ss_ret (io := []) (pd_of (by decide)) (se_and ((se_binL od_eq fl_eq ((se_callL od_len fl_len (sa_cons ((se_var 0 rfl).fz_bor) (sa_nil))).fl_bor) ((se_int).fl_bor)).fl_fz) (se_call0 sim_is_whole nofun (sa_cons (se_bin od_ix (se_var 0 rfl) ((se_int).fl_fz)) (sa_cons ((se_un_fl od_neg fl_neg ((se_int).fl_bor)).fl_fz) (sa_cons ((se_int).fl_fz) (sa_nil)))))) nofun) (ss_skip))
    (ss_seq (ss_if (io := []) (pd_of (by decide)) (sb_tst ((se_binL od_eq fl_eq (se_binB od_ix ((se_var 0 rfl).fz_bor) ((se_int).fl_bor)) ((se_str).fl_bor)).fl_bor)) (ss_ret (io := []) (pd_of (by decide)) (se_and ((se_binL od_eq fl_eq ((se_callL od_len fl_len (sa_cons ((se_var 0 rfl).fz_bor) (sa_nil))).fl_bor) ((se_int).fl_bor)).fl_fz) (se_call0 sim_are_runs nofun (sa_cons (se_bin od_ix (se_var 0 rfl) ((se_int).fl_fz)) (sa_nil)))) nofun) (ss_skip))
    (ss_seq (ss_if (io := []) (pd_of (by decide)) (sb_or (sb_tst ((se_binL od_ne fl_ne (se_binB od_ix ((se_var 0 rfl).fz_bor) ((se_int).fl_bor)) ((se_str).fl_bor)).fl_bor)) (sb_tst ((se_binL od_ne fl_ne ((se_callL od_len fl_len (sa_cons ((se_var 0 rfl).fz_bor) (sa_nil))).fl_bor) ((se_int).fl_bor)).fl_bor))) (ss_ret (io := []) (pd_of (by decide)) ((se_bl).fl_fz) nofun) (ss_skip))
    (ss_ret (io := []) (pd_of (by decide)) (se_and (se_call0 sim_is_whole nofun (sa_cons (se_bin od_ix (se_var 0 rfl) ((se_int).fl_fz)) (sa_cons ((se_int).fl_fz) (sa_cons ((se_int).fl_fz) (sa_nil))))) (se_call0 sim_is_whole nofun (sa_cons (se_bin od_ix (se_var 0 rfl) ((se_int).fl_fz)) (sa_cons ((se_int).fl_fz) (sa_cons ((se_int).fl_fz) (sa_nil)))))) nofun)))))) (pd_of (by decide)) nofun
/-! need_telling(thing, number, mode) : fz -/
def L_need_telling_1 : VS := vIfS (vOr (vNot (vTru (vCall0 v_is_mode (vCons (vVar 2) (vNil))))) (vAnd (vTst (vBin uGt (vVar 1) (vC (.int 0)))) (vTst (vBin uIn (vC (.str "full")) (vTup (vCons (vBin uIx (vVar 2) (vC (.int 0))) (vCons (vBin uIx (vBin uIx (vVar 0) (vC (.int 0))) (vC (.int 0))) (vNil)))))))) (vNever) (vSkip)
def w_need_telling : VS := vSeq (vIfS (vOr (vNot (vTru (vOp uIsi (vCons (vVar 0) (vCons (vC (.op (.ty "tuple"))) (vNil)))))) (vTst (vBin uGt (vOp uLen (vCons (vVar 0) (vNil))) (vC (.int 80))))) (vNever) (vSkip))
    (vSeq (vFor (vEn (vVar 0)) (tT 2 (tsCons (tN 1) (tsCons (tN 2) (tsNil)))) (L_need_telling_1))
    (vRet (vVar 0)))
def v_need_telling : VF := vBody 3 0 w_need_telling
theorem sim_need_telling : SF [] .fz m_need_telling v_need_telling := sf_ofL 3 [0, 0, 0] 3 rfl (dp' := dpOf [0, 0, 0]) (show SS [] .fz (dpOf []) (dpOf [0, 0, 0]) (dpOf [0, 0, 0]) b_need_telling w_need_telling from ss_seq (ss_if (io := []) (pd_of (by decide)) (sb_or (sb_not (sb_tru ((se_callL od_isi fl_isi (sa_cons ((se_var 0 rfl).fz_bor) (sa_cons ((se_op).fl_bor) (sa_nil)))).fl_bor))) (sb_tst ((se_binL od_cmp fl_cmp ((se_callL od_len fl_len (sa_cons ((se_var 0 rfl).fz_bor) (sa_nil))).fl_bor) ((se_int).fl_bor)).fl_bor))) (ss_never) (ss_skip))
    (ss_seq (ss_for (io := []) (pd_of (by decide)) (si_enum (se_var 0 rfl)) (sg_tup (sgs_cons (sg_name 1 rfl) (sgs_cons (sg_name 2 rfl) (sgs_nil)))) (ss_if (io := []) (pd_of (by decide)) (sb_or (sb_not (sb_tru ((se_call0 sim_is_mode nofun (sa_cons (se_var 2 rfl) (sa_nil))).fz_bor))) (sb_and (sb_tst ((se_binL od_cmp fl_cmp ((se_var 1 rfl).fz_bor) ((se_int).fl_bor)).fl_bor)) (sb_tst ((se_binL od_in fl_in ((se_str).fl_bor) (se_tup (sa_cons (se_binB od_ix ((se_var 2 rfl).fz_bor) ((se_int).fl_bor)) (sa_cons (se_binB od_ix (se_binB od_ix ((se_var 0 rfl).fz_bor) ((se_int).fl_bor)) ((se_int).fl_bor)) (sa_nil))) nofun)).fl_bor)))) (ss_never) (ss_skip)) (by decide))
    (ss_ret (io := []) (pd_of (by decide)) (se_var 0 rfl) nofun))) (pd_of (by decide)) nofun
/-! read_line(reference, telling) : fz -/
def w_read_line : VS := vSeq (vExpr (vCall0 v_need_line (vCons (vVar 0) (vNil))))
    (vRet (vCall0 v_read_beside (vCons (vVar 0) (vCons (vCall0 v_need_telling (vCons (vVar 1) (vNil))) (vNil)))))
def v_read_line : VF := vBody 2 0 w_read_line
theorem sim_read_line : SF [] .fz m_read_line v_read_line := sf_ofL 2 [0, 0] 2 rfl (dp' := dpOf [0, 0]) (show SS [] .fz (dpOf []) (dpOf [0, 0]) (dpOf [0, 0]) b_read_line w_read_line from ss_seq (ss_expr (io := []) (pd_of (by decide)) (se_call0 sim_need_line nofun (sa_cons (se_var 0 rfl) (sa_nil))))
    (ss_ret (io := []) (pd_of (by decide)) (se_call0 sim_read_beside nofun (sa_cons (se_var 0 rfl) (sa_cons (se_call0 sim_need_telling nofun (sa_cons (se_var 1 rfl) (sa_nil))) (sa_nil)))) nofun)) (pd_of (by decide)) nofun
/-! _law_any_mode(_law_m, _law_wide, _law_some) : fz -/
def w_law_any_mode : VS := vSeq (vAsg (vLst (vCons (vTup (vCons (vC (.str "stay")) (vCons (vBin uSub (vCallN v_law_next [0] (vCons (vC (.int 7)) (vNil))) (vC (.int 3))) (vNil)))) (vCons (vTup (vCons (vC (.str "stay")) (vCons (vBin uSub (vCallN v_law_next [0] (vCons (vC (.int 3)) (vNil))) (vC (.int 1))) (vNil)))) (vCons (vTup (vCons (vC (.str "pass")) (vNil))) (vNil))))) 2)
    (vRet (vCallN v_law_of [0] (vCons (vBin uAdd (vVar 2) (vLst (vCons (vTup (vCons (vC (.str "runs")) (vCons (vCallN v_law_next [0] (vCons (vVar 1) (vNil))) (vCons (vCallN v_law_next [0] (vCons (vVar 1) (vNil))) (vNil))))) (vNil)))) (vNil))))
def v_law_any_mode : VF := vBody 3 1 w_law_any_mode
theorem sim_law_any_mode : SF [2] .fz m_law_any_mode v_law_any_mode := sf_ofL 3 [2, 0, 0] 2 rfl (dp' := dpOf [2, 0, 0]) (show SS [2] .fz (dpOf []) (dpOf [2, 0, 0]) (dpOf [2, 0, 0]) b_law_any_mode w_law_any_mode from ss_seq (ss_asgD (l := [2, 0, 0]) (io := [0]) 2 0 (pd_of (by decide)) (by decide) (((se_lstO (k := 0) (sa_cons ((se_tup (sa_cons ((se_str).fl_fz) (sa_cons ((se_binL od_sub fl_sub ((se_callN [2] [0] sim_law_next nofun (by decide) rfl (hdp_of (by decide)) (by decide) (sa_cons ((se_int).fl_fz) (sa_nil))).fz_bor) ((se_int).fl_bor)).fl_fz) (sa_nil))) nofun).fz_fr0) (sa_cons ((se_tup (sa_cons ((se_str).fl_fz) (sa_cons ((se_binL od_sub fl_sub ((se_callN [2] [0] sim_law_next nofun (by decide) rfl (hdp_of (by decide)) (by decide) (sa_cons ((se_int).fl_fz) (sa_nil))).fz_bor) ((se_int).fl_bor)).fl_fz) (sa_nil))) nofun).fz_fr0) (sa_cons ((se_tup (sa_cons ((se_str).fl_fz) (sa_nil)) nofun).fz_fr0) (sa_nil))))).fr_fz).fz_fr0) (by decide))
    (ss_ret (io := [0]) (pd_of (by decide)) (se_callN [2] [0] sim_law_of nofun (by decide) rfl (hdp_of (by decide)) (by decide) (sa_cons (se_bin od_add (se_var 2 rfl) ((se_lstO (k := 0) (sa_cons ((se_tup (sa_cons ((se_str).fl_fz) (sa_cons (se_callN [2] [0] sim_law_next nofun (by decide) rfl (hdp_of (by decide)) (by decide) (sa_cons (se_var 1 rfl) (sa_nil))) (sa_cons (se_callN [2] [0] sim_law_next nofun (by decide) rfl (hdp_of (by decide)) (by decide) (sa_cons (se_var 1 rfl) (sa_nil))) (sa_nil)))) nofun).fz_fr0) (sa_nil))).fr_fz)) (sa_nil))) nofun)) (pd_of (by decide)) nofun
/-! _law_read(_law_reference, _law_telling_here, _law_row_here, _law_dot, _law_begun_here, _law_mode, _law_done_here, _law_k, _law_piece) : fz -/
def X_law_read_1 : VE := vBin uMul (vBin uIx (vC (.str ".#")) (vBin uMod (vOp uInt (vCons (vVar 7) (vNil))) (vC (.int 2)))) (vVar 8)
def L_law_read_2 : VS := vSeq (vIfS (vTst (vBin uGe (vOp uLen (vCons (vVar 2) (vNil))) (vOp uLen (vCons (vVar 0) (vNil))))) (vRet (vC .non)) (vSkip))
    (vSeq (vAsg (vCall0 v_law_done (vCons (vVar 0) (vCons (vVar 5) (vCons (vOp uLen (vCons (vVar 2) (vNil))) (vCons (vVar 3) (vCons (vVar 4) (vNil))))))) 6)
    (vSeq (vIfS (vTst (vBin uIs (vVar 6) (vC .non))) (vRet (vC .non)) (vSkip))
    (vParN [2, 3, 4] (vCons (vBin uAdd (vVar 2) (vBin uIx (vVar 6) (vC (.int 0)))) (vCons (vBin uIx (vVar 6) (vC (.int 1))) (vCons (vC (.bl true)) (vNil)))))))
def w_law_read : VS := vSeq (vIfS (vAnd (vTst (vBin uNe (vVar 1) (vTup (vNil)))) (vTst (vBin uEq (vBin uIx (vBin uIx (vVar 1) (vC (.int 0))) (vC (.int 0))) (vC (.str "full"))))) (vSeq (vAsg (vMeth "str" uJoin (vC (.str "")) (vCons (vLc (vEn (vBin uIx (vBin uIx (vVar 1) (vC (.int 0))) (vC (.int 1)))) (tT 2 (tsCons (tN 7) (tsCons (tN 8) (tsNil)))) (vYes) (X_law_read_1) [7, 8]) (vNil))) 2)
    (vRet (vIf (vTst (vBin uEq (vOp uLen (vCons (vVar 2) (vNil))) (vOp uLen (vCons (vVar 0) (vNil))))) (vVar 2) (vC .non)))) (vSkip))
    (vSeq (vParN [2, 3, 4] (vCons (vC (.str "")) (vCons (vC (.str ".")) (vCons (vC (.bl false)) (vNil)))))
    (vSeq (vFor (vIt (vVar 1)) (tN 5) (L_law_read_2))
    (vRet (vIf (vTst (vBin uEq (vOp uLen (vCons (vVar 2) (vNil))) (vOp uLen (vCons (vVar 0) (vNil))))) (vVar 2) (vC .non)))))
def v_law_read : VF := vBody 9 0 w_law_read
theorem sim_law_read : SF [] .fz m_law_read v_law_read := sf_ofL 9 [0, 0, 0, 0, 0, 0, 0, 0, 0] 9 rfl (dp' := dpOf [0, 0, 0, 0, 0, 0, 0, 0, 0]) (show SS [] .fz (dpOf []) (dpOf [0, 0, 0, 0, 0, 0, 0, 0, 0]) (dpOf [0, 0, 0, 0, 0, 0, 0, 0, 0]) b_law_read w_law_read from ss_seq (ss_if (io := []) (pd_of (by decide)) (sb_and (sb_tst ((se_binL od_ne fl_ne ((se_var 1 rfl).fz_bor) (se_tup (sa_nil) nofun)).fl_bor)) (sb_tst ((se_binL od_eq fl_eq (se_binB od_ix (se_binB od_ix ((se_var 1 rfl).fz_bor) ((se_int).fl_bor)) ((se_int).fl_bor)) ((se_str).fl_bor)).fl_bor))) (ss_seq (ss_asgD (l := [0, 0, 0, 0, 0, 0, 0, 0, 0]) (io := []) 2 0 (pd_of (by decide)) (by decide) ((se_methL od_join fl_join ((se_str).fl_bor) (sa_cons ((se_lc (k := 0) (si_enum (se_bin od_ix (se_bin od_ix (se_var 1 rfl) ((se_int).fl_fz)) ((se_int).fl_fz))) (sg_tup (sgs_cons (sg_name 7 rfl) (sgs_cons (sg_name 8 rfl) (sgs_nil)))) (sb_yes) ((se_bin od_mul (se_bin od_ix ((se_str).fl_fz) ((se_binL od_mod fl_mod ((se_callL od_int fl_int (sa_cons ((se_var 7 rfl).fz_bor) (sa_nil))).fl_bor) ((se_int).fl_bor)).fl_fz)) (se_var 8 rfl)).fz_fr0) (by decide) (by decide)).fr_bor) (sa_nil))).fl_fr 0) (by decide))
    (ss_ret (io := []) (pd_of (by decide)) (se_if (sb_tst ((se_binL od_eq fl_eq ((se_callL od_len fl_len (sa_cons ((se_var 2 rfl).fz_bor) (sa_nil))).fl_bor) ((se_callL od_len fl_len (sa_cons ((se_var 0 rfl).fz_bor) (sa_nil))).fl_bor)).fl_bor)) (se_var 2 rfl) ((se_non).fl_fz)) nofun)) (ss_skip))
    (ss_seq (ss_parTD (l := [0, 0, 0, 0, 0, 0, 0, 0, 0]) (io := []) [2, 3, 4] [0, 0, 0] 3 (pd_of (by decide)) (sl_cons ((se_str).fl_fr 0) (sl_cons ((se_str).fl_fr 0) (sl_cons ((se_bl).fl_fr 0) (sl_nil)))) rfl rfl (by decide) (by decide))
    (ss_seq (ss_for (io := []) (pd_of (by decide)) (si_val (se_var 1 rfl)) (sg_name 5 rfl) (ss_seq (ss_if (io := []) (pd_of (by decide)) (sb_tst ((se_binL od_cmp fl_cmp ((se_callL od_len fl_len (sa_cons ((se_var 2 rfl).fz_bor) (sa_nil))).fl_bor) ((se_callL od_len fl_len (sa_cons ((se_var 0 rfl).fz_bor) (sa_nil))).fl_bor)).fl_bor)) (ss_ret (io := []) (pd_of (by decide)) ((se_non).fl_fz) nofun) (ss_skip))
    (ss_seq (ss_asgD (l := [0, 0, 0, 0, 0, 0, 0, 0, 0]) (io := []) 6 0 (pd_of (by decide)) (by decide) ((se_call0 sim_law_done nofun (sa_cons (se_var 0 rfl) (sa_cons (se_var 5 rfl) (sa_cons ((se_callL od_len fl_len (sa_cons ((se_var 2 rfl).fz_bor) (sa_nil))).fl_fz) (sa_cons (se_var 3 rfl) (sa_cons (se_var 4 rfl) (sa_nil))))))).fz_fr0) (by decide))
    (ss_seq (ss_if (io := []) (pd_of (by decide)) (sb_tst ((se_binL od_is fl_is ((se_var 6 rfl).fz_bor) ((se_non).fl_bor)).fl_bor)) (ss_ret (io := []) (pd_of (by decide)) ((se_non).fl_fz) nofun) (ss_skip))
    (ss_par3D (l := [0, 0, 0, 0, 0, 0, 0, 0, 0]) (io := []) 2 3 4 0 0 0 (pd_of (by decide)) (sl_cons ((se_bin od_add (se_var 2 rfl) (se_bin od_ix (se_var 6 rfl) ((se_int).fl_fz))).fz_fr0) (sl_cons ((se_bin od_ix (se_var 6 rfl) ((se_int).fl_fz)).fz_fr0) (sl_cons ((se_bl).fl_fr 0) (sl_nil)))) (by decide))))) (by decide))
    (ss_ret (io := []) (pd_of (by decide)) (se_if (sb_tst ((se_binL od_eq fl_eq ((se_callL od_len fl_len (sa_cons ((se_var 2 rfl).fz_bor) (sa_nil))).fl_bor) ((se_callL od_len fl_len (sa_cons ((se_var 0 rfl).fz_bor) (sa_nil))).fl_bor)).fl_bor)) (se_var 2 rfl) ((se_non).fl_fz)) nofun)))) (pd_of (by decide)) nofun
/-! _law_runs(_law_row_here, _law_found, _law_dot, _law_size, _law_one) : fz -/
def L_law_runs_1 : VS := vSeq (vIfS (vTst (vBin uNe (vVar 4) (vVar 2))) (vParN [1, 2, 3] (vCons (vBin uAdd (vVar 1) (vLst (vCons (vVar 3) (vNil)))) (vCons (vVar 4) (vCons (vC (.int 0)) (vNil))))) (vSkip))
    (vAsg (vBin uAdd (vVar 3) (vC (.int 1))) 3)
def w_law_runs : VS := vSeq (vParN [1, 2, 3] (vCons (vLst (vNil)) (vCons (vC (.str ".")) (vCons (vC (.int 0)) (vNil)))))
    (vSeq (vFor (vIt (vVar 0)) (tN 4) (L_law_runs_1))
    (vRet (vOp uTuple (vCons (vBin uAdd (vVar 1) (vLst (vCons (vVar 3) (vNil)))) (vNil)))))
def v_law_runs : VF := vBody 5 0 w_law_runs
theorem sim_law_runs : SF [] .fz m_law_runs v_law_runs := sf_ofL 5 [0, 0, 0, 0, 0] 5 rfl (dp' := dpOf [0, 0, 0, 0, 0]) (show SS [] .fz (dpOf []) (dpOf [0, 0, 0, 0, 0]) (dpOf [0, 0, 0, 0, 0]) b_law_runs w_law_runs from ss_seq (ss_par3D (l := [0, 0, 0, 0, 0]) (io := []) 1 2 3 0 0 0 (pd_of (by decide)) (sl_cons (((se_lstO (k := 0) (sa_nil)).fr_fz).fz_fr0) (sl_cons ((se_str).fl_fr 0) (sl_cons ((se_int).fl_fr 0) (sl_nil)))) (by decide))
    (ss_seq (ss_for (io := []) (pd_of (by decide)) (si_val (se_var 0 rfl)) (sg_name 4 rfl) (ss_seq (ss_if (io := []) (pd_of (by decide)) (sb_tst ((se_binL od_ne fl_ne ((se_var 4 rfl).fz_bor) ((se_var 2 rfl).fz_bor)).fl_bor)) (ss_par3D (l := [0, 0, 0, 0, 0]) (io := []) 1 2 3 0 0 0 (pd_of (by decide)) (sl_cons ((se_bin od_add (se_var 1 rfl) ((se_lstO (k := 0) (sa_cons ((se_var 3 rfl).fz_fr0) (sa_nil))).fr_fz)).fz_fr0) (sl_cons ((se_var 4 rfl).fz_fr0) (sl_cons ((se_int).fl_fr 0) (sl_nil)))) (by decide)) (ss_skip))
    (ss_asgD (l := [0, 0, 0, 0, 0]) (io := []) 3 0 (pd_of (by decide)) (by decide) ((se_bin od_add (se_var 3 rfl) ((se_int).fl_fz)).fz_fr0) (by decide))) (by decide))
    (ss_ret (io := []) (pd_of (by decide)) (se_call od_tuple (sa_cons (se_bin od_add (se_var 1 rfl) ((se_lstO (k := 0) (sa_cons ((se_var 3 rfl).fz_fr0) (sa_nil))).fr_fz)) (sa_nil))) nofun))) (pd_of (by decide)) nofun
/-! is_right(reference, telling) : fz -/
def w_is_right : VS := vRet (vBin uIsNot (vCall0 v_read_line (vCons (vVar 0) (vCons (vVar 1) (vNil)))) (vC .non))
def v_is_right : VF := vBody 2 0 w_is_right
theorem sim_is_right : SF [] .fz m_is_right v_is_right := sf_ofL 2 [0, 0] 2 rfl (dp' := dpOf [0, 0]) (show SS [] .fz (dpOf []) (dpOf [0, 0]) (dpOf [0, 0]) b_is_right w_is_right from ss_ret (io := []) (pd_of (by decide)) ((se_binL od_isNot fl_isNot ((se_call0 sim_read_line nofun (sa_cons (se_var 0 rfl) (sa_cons (se_var 1 rfl) (sa_nil)))).fz_bor) ((se_non).fl_bor)).fl_fz) nofun) (pd_of (by decide)) nofun
/-! law(_law_script, _law_m, _law_turn, _law_wide, _law_row_here, _law_beside, _law_telling_here, _law_far, _law_one, _law_reference, _law_due, _law_told, _law_k) : fz -/
def X_law_1 : VE := vCallN v_law_any_mode [1] (vCons (vVar 3) (vNil))
def L_law_2 : VS := vSeq (vAsg (vCall0 v_law_read (vCons (vVar 9) (vCons (vVar 8) (vNil)))) 10)
    (vSeq (vAsg (vLst (vCons (vCall0 v_read_line (vCons (vVar 9) (vCons (vVar 8) (vNil)))) (vCons (vCall0 v_is_right (vCons (vVar 9) (vCons (vVar 8) (vNil)))) (vNil)))) 11)
    (vIfS (vTst (vBin uNe (vOp uReprA (vCons (vVar 11) (vNil))) (vOp uReprA (vCons (vLst (vCons (vVar 10) (vCons (vBin uIsNot (vVar 10) (vC .non)) (vNil)))) (vNil))))) (vRet (vC (.bl false))) (vSkip)))
def L_law_3 : VS := vFor (vIt (vCall0 v_law_all_rows (vCons (vIf (vTst (vBin uLt (vVar 3) (vC (.int 8)))) (vVar 3) (vC (.int 5))) (vNil)))) (tN 9) (L_law_2)
def L_law_4 : VS := vSeq (vAsg (vBin uAdd (vC (.int 1)) (vCallN v_law_next [1] (vCons (vC (.int 8)) (vNil)))) 3)
    (vSeq (vAsg (vCallN v_law_row [1] (vCons (vVar 3) (vNil))) 4)
    (vSeq (vAsg (vCallN v_law_near_row [1] (vCons (vVar 4) (vNil))) 5)
    (vSeq (vAsg (vCallN v_law_telling [1] (vCons (vVar 5) (vCons (vVar 4) (vNil)))) 6)
    (vSeq (vIfS (vTst (vBin uNe (vOp uReprA (vCons (vCall0 v_read_line (vCons (vVar 5) (vCons (vVar 6) (vNil)))) (vNil))) (vOp uReprA (vCons (vVar 4) (vNil))))) (vRet (vC (.bl false))) (vSkip))
    (vSeq (vAsg (vOp uTuple (vCons (vLc (vRng1 (vCallN v_law_next [1] (vCons (vC (.int 5)) (vNil)))) (tN 12) (vYes) (X_law_1) [12]) (vNil))) 7)
    (vFor (vIt (vTup (vCons (vVar 6) (vCons (vVar 7) (vCons (vSl (vVar 6) (voN) (voS (vUn uNeg (vC (.int 1))))) (vCons (vTup (vCons (vTup (vCons (vC (.str "full")) (vCons (vCall0 v_law_runs (vCons (vVar 4) (vNil))) (vNil)))) (vNil))) (vCons (vTup (vNil)) (vNil)))))))) (tN 8) (L_law_3)))))))
def w_law : VS := vSeq (vAsg (vCall0 v_law_begun (vCons (vVar 0) (vNil))) 1)
    (vSeq (vFor (vRng1 (vBin uAdd (vC (.int 4)) (vOp uMin (vCons (vOp uLen (vCons (vVar 0) (vNil))) (vCons (vC (.int 6)) (vNil)))))) (tN 2) (L_law_4))
    (vRet (vC (.bl true))))
def v_law : VF := vBody 13 0 w_law
theorem sim_law : SF [] .fz m_law v_law := sf_ofL 13 [0, 0, 0, 0, 0, 0, 0, 0, 0, 0, 0, 0, 0] 13 rfl (dp' := dpOf [0, 0, 0, 0, 0, 0, 0, 0, 0, 0, 0, 0, 0]) (show SS [] .fz (dpOf []) (dpOf [0, 0, 0, 0, 0, 0, 0, 0, 0, 0, 0, 0, 0]) (dpOf [0, 0, 0, 0, 0, 0, 0, 0, 0, 0, 0, 0, 0]) b_law w_law from ss_seq (ss_asgD (l := [0, 0, 0, 0, 0, 0, 0, 0, 0, 0, 0, 0, 0]) (io := []) 1 2 (pd_of (by decide)) (by decide) (se_call0 sim_law_begun nofun (sa_cons (se_var 0 rfl) (sa_nil))) (by decide))
    (ss_seq (ss_for (io := []) (pd_of (by decide)) (si_range1 (se_binB od_add ((se_int).fl_bor) ((se_callL od_min fl_min (sa_cons ((se_callL od_len fl_len (sa_cons ((se_var 0 rfl).fz_bor) (sa_nil))).fl_bor) (sa_cons ((se_int).fl_bor) (sa_nil)))).fl_bor))) (sg_name 2 rfl) (ss_seq (ss_asgD (l := [0, 2, 0, 0, 0, 0, 0, 0, 0, 0, 0, 0, 0]) (io := [1]) 3 0 (pd_of (by decide)) (by decide) ((se_bin od_add ((se_int).fl_fz) (se_callN [2] [1] sim_law_next nofun (by decide) rfl (hdp_of (by decide)) (by decide) (sa_cons ((se_int).fl_fz) (sa_nil)))).fz_fr0) (by decide))
    (ss_seq (ss_asgD (l := [0, 2, 0, 0, 0, 0, 0, 0, 0, 0, 0, 0, 0]) (io := [1]) 4 0 (pd_of (by decide)) (by decide) ((se_callN [2] [1] sim_law_row nofun (by decide) rfl (hdp_of (by decide)) (by decide) (sa_cons (se_var 3 rfl) (sa_nil))).fz_fr0) (by decide))
    (ss_seq (ss_asgD (l := [0, 2, 0, 0, 0, 0, 0, 0, 0, 0, 0, 0, 0]) (io := [1]) 5 0 (pd_of (by decide)) (by decide) ((se_callN [2] [1] sim_law_near_row nofun (by decide) rfl (hdp_of (by decide)) (by decide) (sa_cons (se_var 4 rfl) (sa_nil))).fz_fr0) (by decide))
    (ss_seq (ss_asgD (l := [0, 2, 0, 0, 0, 0, 0, 0, 0, 0, 0, 0, 0]) (io := [1]) 6 0 (pd_of (by decide)) (by decide) ((se_callN [2] [1] sim_law_telling nofun (by decide) rfl (hdp_of (by decide)) (by decide) (sa_cons (se_var 5 rfl) (sa_cons (se_var 4 rfl) (sa_nil)))).fz_fr0) (by decide))
    (ss_seq (ss_if (io := []) (pd_of (by decide)) (sb_tst ((se_binL od_ne fl_ne ((se_callL od_reprA fl_reprA (sa_cons ((se_call0 sim_read_line nofun (sa_cons (se_var 5 rfl) (sa_cons (se_var 6 rfl) (sa_nil)))).fz_bor) (sa_nil))).fl_bor) ((se_callL od_reprA fl_reprA (sa_cons ((se_var 4 rfl).fz_bor) (sa_nil))).fl_bor)).fl_bor)) (ss_ret (io := []) (pd_of (by decide)) ((se_bl).fl_fz) nofun) (ss_skip))
    (ss_seq (ss_asgD (l := [0, 2, 0, 0, 0, 0, 0, 0, 0, 0, 0, 0, 0]) (io := [1]) 7 0 (pd_of (by decide)) (by decide) ((se_call od_tuple (sa_cons ((se_lc (k := 0) (si_range1 ((se_callN [2] [1] sim_law_next nofun (by decide) rfl (hdp_of (by decide)) (by decide) (sa_cons ((se_int).fl_fz) (sa_nil))).fz_bor)) (sg_name 12 rfl) (sb_yes) ((se_callN [2] [1] sim_law_any_mode nofun (by decide) rfl (hdp_of (by decide)) (by decide) (sa_cons (se_var 3 rfl) (sa_nil))).fz_fr0) (by decide) (by decide)).fr_fz) (sa_nil))).fz_fr0) (by decide))
    (ss_for (io := []) (pd_of (by decide)) (si_val (se_tup (sa_cons (se_var 6 rfl) (sa_cons (se_var 7 rfl) (sa_cons (se_slice (se_var 6 rfl) (so_none) (so_some ((se_un_fl od_neg fl_neg ((se_int).fl_bor)).fl_bor))) (sa_cons (se_tup (sa_cons (se_tup (sa_cons ((se_str).fl_fz) (sa_cons (se_call0 sim_law_runs nofun (sa_cons (se_var 4 rfl) (sa_nil))) (sa_nil))) nofun) (sa_nil)) nofun) (sa_cons (se_tup (sa_nil) nofun) (sa_nil)))))) nofun)) (sg_name 8 rfl) (ss_for (io := []) (pd_of (by decide)) (si_val (se_call0 sim_law_all_rows nofun (sa_cons (se_if (sb_tst ((se_binL od_cmp fl_cmp ((se_var 3 rfl).fz_bor) ((se_int).fl_bor)).fl_bor)) (se_var 3 rfl) ((se_int).fl_fz)) (sa_nil)))) (sg_name 9 rfl) (ss_seq (ss_asgD (l := [0, 2, 0, 0, 0, 0, 0, 0, 0, 0, 0, 0, 0]) (io := []) 10 0 (pd_of (by decide)) (by decide) ((se_call0 sim_law_read nofun (sa_cons (se_var 9 rfl) (sa_cons (se_var 8 rfl) (sa_nil)))).fz_fr0) (by decide))
    (ss_seq (ss_asgD (l := [0, 2, 0, 0, 0, 0, 0, 0, 0, 0, 0, 0, 0]) (io := []) 11 0 (pd_of (by decide)) (by decide) (((se_lstO (k := 0) (sa_cons ((se_call0 sim_read_line nofun (sa_cons (se_var 9 rfl) (sa_cons (se_var 8 rfl) (sa_nil)))).fz_fr0) (sa_cons ((se_call0 sim_is_right nofun (sa_cons (se_var 9 rfl) (sa_cons (se_var 8 rfl) (sa_nil)))).fz_fr0) (sa_nil)))).fr_fz).fz_fr0) (by decide))
    (ss_if (io := []) (pd_of (by decide)) (sb_tst ((se_binL od_ne fl_ne ((se_callL od_reprA fl_reprA (sa_cons ((se_var 11 rfl).fz_bor) (sa_nil))).fl_bor) ((se_callL od_reprA fl_reprA (sa_cons (se_lstB (sa_cons ((se_var 10 rfl).fz_bor) (sa_cons ((se_binL od_isNot fl_isNot ((se_var 10 rfl).fz_bor) ((se_non).fl_bor)).fl_bor) (sa_nil)))) (sa_nil))).fl_bor)).fl_bor)) (ss_ret (io := []) (pd_of (by decide)) ((se_bl).fl_fz) nofun) (ss_skip)))) (by decide)) (by decide)))))))) (by decide))
    (ss_ret (io := []) (pd_of (by decide)) ((se_bl).fl_fz) nofun))) (pd_of (by decide)) nofun
end LW
set_option Elab.async false
set_option linter.all false
/-! rows of dots as lists of Bool: false '.', true '#' -/
namespace VV
open PySem L2 DD
def cp (b : Bool) : Nat := if b then 35 else 46
theorem cp_inj {a b : Bool} (h : cp a = cp b) : a = b := by cases a <;> cases b <;> simp [cp] at h ⊢
def rS (l : List Bool) : Str := ⟨(l.map cp).toArray⟩
abbrev rU (l : List Bool) : U := .str (rS l)
theorem rS_e : Str.ofString "" = rS [] := by decide +kernel
theorem rS_w : Str.ofString "." = rS [false] := by decide +kernel
theorem rS_b : Str.ofString "#" = rS [true] := by decide +kernel
theorem rS_wb : Str.ofString ".#" = rS [false, true] := by decide +kernel
theorem rS_app (a b : List Bool) : rS a ++ rS b = rS (a ++ b) := by
  show Str.append _ _ = _
  simp only [Str.append, rS, List.map_append, List.append_toArray]
theorem rS_len (a : List Bool) : (rS a).length = a.length := by simp only [Str.length, rS, List.size_toArray, List.length_map]
theorem map_cp_inj : ∀ {a b : List Bool}, a.map cp = b.map cp → a = b
  | [], [], _ => rfl
  | [], _ :: _, h => by simp at h
  | _ :: _, [], h => by simp at h
  | x :: a, y :: b, h => by
    rw [List.map_cons, List.map_cons] at h
    injection h with h1 h2
    rw [cp_inj h1, map_cp_inj h2]
theorem rS_inj (a b : List Bool) : (rS a = rS b) = (a = b) := by
  apply propext
  refine ⟨fun h => ?_, fun h => by rw [h]⟩
  injection h with h
  have := congrArg Array.toList h
  simp only [List.toList_toArray] at this
  exact map_cp_inj this
theorem rS_at (l : List Bool) (i : Int) : atI (rS l).cps.toList i = (atI l i).map cp := by
  show atI (l.map cp) i = _
  rw [atI_map]
theorem rS_one (b : Bool) : (⟨#[cp b]⟩ : Str) = rS [b] := rfl
theorem rS_cut (l : List Bool) (lo hi : Option Int) : cutS (rS l) lo hi = rS (cutA l lo hi) := by
  unfold cutS cutA
  rw [rS_len]
  unfold rS
  simp [List.map_take, List.map_drop]
theorem rS_signs (l : List Bool) : signsU (rS l) = l.map fun b => rU [b] := by
  unfold signsU rS
  simp only [List.toList_toArray, List.map_map]
  rfl
theorem foldl_rep (c : Nat) : ∀ (n : Nat) (acc : Array Nat), (List.replicate n #[c]).foldl (· ++ ·) acc = acc ++ (List.replicate n c).toArray
  | 0, acc => by simp
  | n + 1, acc => by
    rw [List.replicate_succ, List.foldl_cons, foldl_rep c n, List.replicate_succ]
    apply Array.ext'
    simp
theorem rS_mul (b : Bool) (k : Int) : Txt.mul (rS [b]) k = rS (List.replicate k.toNat b) := by
  unfold Txt.mul
  by_cases h : k < 1
  · rw [if_pos h, show k.toNat = 0 by omega]
    rfl
  · rw [if_neg h]
    by_cases h2 : k = 1
    · subst h2
      rfl
    · have : (k == 1 || (rS [b]).length == 0) = false := by
        rw [rS_len]
        simp [h2]
      rw [this, if_neg Bool.false_ne_true]
      have e := foldl_rep (cp b) k.toNat #[]
      unfold rS
      rw [List.map_replicate]
      show Str.mk _ = _
      congr 1
      rw [show ([b].map cp).toArray = #[cp b] from rfl, e]
      simp
theorem uMul_r (b : Bool) (k : Int) (h1 : -1000000 ≤ k) (h2 : k ≤ 1000000) : uMul (rU [b]) (.int k) = some (rU (List.replicate k.toNat b)) := by
  have h3 : (rS [b]).length * k.toNat ≤ sizeLine := by
    rw [rS_len, szl, List.length_singleton]
    omega
  have h4 : (rS [b]).length ≤ 1000000 := by
    rw [rS_len, List.length_singleton]
    omega
  simp only [uMul, h1, h2, h3, h4, and_self, if_true, rS_mul]
theorem not_in_r (b : Bool) : uNotIn (rU [b]) (rU [false, true]) = some (.bl false) := by cases b <;> kernel_rfl
theorem one_eq (a b : Bool) : ([a] = [b]) = (a = b) := by simp
end VV
set_option Elab.async false
set_option linter.all false
/-! `in` a plain tuple -/
namespace VV
open PySem L2 DD
theorem any_eq {x : U} {n : Nat} (hx : plain n x = true) : ∀ {us : List U} {k : Nat}, us.all (plain k) = true → (us.map pyOf).any (fun z => PyData.eqv z (pyOf x)) = us.any fun z => eqB z x
  | [], _, _ => rfl
  | u :: us, k, h => by
    rw [List.all_cons, Bool.and_eq_true] at h
    rw [List.map_cons, List.any_cons, List.any_cons, any_eq hx h.2, eqv_eqB h.1 hx]
theorem inTU_tup {x : U} {us : List U} (hx : plain 11 x = true) (hu : us.all (plain 10) = true) : inTU x (.tup us) = some (us.any fun z => eqB z x) := by
  have h1 : plain 11 (.tup us) = true := by rw [plain]; exact hu
  have h2 : plain 11 (.lst us) = true := by rw [plain]; exact hu
  unfold inTU
  rw [plain_py hx, plain_py h1]
  have s2 := plain_shaped h2
  rw [pyOf, pyOfs_map] at s2
  simp only [plain_shaped hx, pyOf, pyOfs_map, s2, Bool.and_self, if_true, any_eq hx hu]
theorem inTU_lst {x : U} {us : List U} (hx : plain 11 x = true) (hu : us.all (plain 10) = true) : inTU x (.lst us) = some (us.any fun z => eqB z x) := by
  have h2 : plain 11 (.lst us) = true := by rw [plain]; exact hu
  unfold inTU
  rw [plain_py hx, plain_py h2]
  have s2 := plain_shaped h2
  rw [pyOf, pyOfs_map] at s2
  simp only [plain_shaped hx, pyOf, pyOfs_map, s2, Bool.and_self, if_true, any_eq hx hu]
theorem uIn_int (i : Int) {us : List U} (hu : us.all (plain 10) = true) : uIn (.int i) (.tup us) = some (.bl (us.any fun z => eqB z (.int i))) := by
  show (inTU (.int i) (.tup us)).map _ = _
  rw [inTU_tup rfl hu]
  rfl
theorem uNotIn_int (i : Int) {us : List U} (hu : us.all (plain 10) = true) : uNotIn (.int i) (.tup us) = some (.bl !(us.any fun z => eqB z (.int i))) := by
  show (inTU (.int i) (.tup us)).map _ = _
  rw [inTU_tup rfl hu]
  rfl
end VV
set_option Elab.async false
set_option linter.all false
/-! repr of what is plain -/
namespace VV
open PySem L2 DD
theorem strOk_r (l : List Bool) : PyData.strOk (rS l) = true := by
  unfold PyData.strOk rS
  simp only [List.all_toArray, List.all_map, List.all_eq_true]
  intro b _
  cases b <;> rfl
theorem ok_row {l : List Bool} {w : Nat} (h : l.length ≤ w) : Ok 0 w (VV.rU l) := ok_str (strOk_r l) (by rw [rS_len]; exact h)
theorem repr_ex {u : U} (h : Ok 11 1048576 u) (hs : ∀ us, u ≠ .fl us) : ∃ s, uReprA [u] = some (.str s) := by
  have hp := h.p
  unfold uReprA reprLU
  cases u with
  | non => exact ⟨_, rfl⟩
  | bl b => exact ⟨_, rfl⟩
  | int i =>
    have : i.natAbs.log2 < 1920 := by
      have := h.s
      rw [pyOf, PyData.showable, decide_eq_true_eq] at this
      omega
    simp only [this, if_true]
    exact ⟨_, rfl⟩
  | str x =>
    have : (reprText x).length ≤ sizeLine := by
      have := shown_le h
      exact this
    simp only [this, if_true]
    exact ⟨_, rfl⟩
  | tup us =>
    simp only [uRepr_tup h]
    exact ⟨_, rfl⟩
  | lst us =>
    simp only [uRepr_lst h]
    exact ⟨_, rfl⟩
  | fl us => exact absurd rfl (hs us)
  | dic us => simp [plain] at hp
  | op v => simp [plain] at hp
end VV
set_option Elab.async false
set_option linter.all false
/-! rows, tellings: plain mathematics -/
namespace Row
open DD
def firstFrom (q : Nat → Bool) (a n : Nat) : Nat := (((List.range (n - a)).find? fun i => q (a + i)).map (a + ·)).getD n
theorem firstFrom_le (q : Nat → Bool) (a n : Nat) : firstFrom q a n ≤ n := by
  unfold firstFrom
  cases h : (List.range (n - a)).find? fun i => q (a + i) with
  | none => exact Nat.le_refl _
  | some i =>
    have := List.mem_of_find?_eq_some h
    rw [List.mem_range] at this
    simp only [Option.map_some, Option.getD_some]
    omega
theorem firstFrom_ge (q : Nat → Bool) (a n : Nat) : firstFrom q a n = n ∨ a ≤ firstFrom q a n := by
  unfold firstFrom
  cases h : (List.range (n - a)).find? fun i => q (a + i) with
  | none => exact .inl rfl
  | some i =>
    simp only [Option.map_some, Option.getD_some]
    exact .inr (by omega)
theorem findSome_ite {α β : Type} (q : α → Bool) (f : α → β) : ∀ xs : List α, xs.findSome? (fun x => if q x = true then some (f x) else none) = (xs.find? q).map f
  | [] => rfl
  | x :: xs => by
    rw [List.findSome?_cons, List.find?_cons]
    cases h : q x with
    | true => simp
    | false => simp [findSome_ite q f xs]
theorem firstFrom_congr {q r : Nat → Bool} {a n : Nat} (h : ∀ i, a ≤ i → i < n → q i = r i) : firstFrom q a n = firstFrom r a n := by
  unfold firstFrom
  have : ∀ xs : List Nat, (∀ x ∈ xs, x < n - a) → xs.find? (fun i => q (a + i)) = xs.find? fun i => r (a + i) := by
    intro xs hx
    induction xs with
    | nil => rfl
    | cons x xs ih =>
      rw [List.find?_cons, List.find?_cons, h (a + x) (by omega) (by have := hx x List.mem_cons_self; omega), ih fun y hy => hx y (List.mem_cons_of_mem _ hy)]
  rw [this _ fun x hx => List.mem_range.mp hx]
theorem head_filter {α : Type} (q : α → Bool) (xs : List α) (w : α) : (xs.filter q ++ [w])[0]? = some ((xs.find? q).getD w) := by
  induction xs with
  | nil => rfl
  | cons x xs ih =>
    rw [List.find?_cons]
    cases h : q x with
    | true => simp [h]
    | false => rw [List.filter_cons_of_neg (by rw [h]; exact Bool.false_ne_true)]; exact ih
def ahead (l : List Bool) (h : Nat) : Bool := if h = 0 then false else l.getD (h - 1) false
def turnAt (l : List Bool) (c : Bool) (h : Nat) : Bool := decide (ahead l h = c) && !decide (l.getD h false = c)
def chg (l : List Bool) (p : Nat) (c t : Bool) : Nat := firstFrom (turnAt l c) (if t = true then p + 1 else p) l.length
def bck (l : List Bool) (p : Nat) (c : Bool) : Nat := firstFrom (fun h => decide (l.getD h false = c)) (p + 1) l.length
inductive Mode where
  | stay (k : Int) | pass | runs (a b : Nat)
def Mode.ok : Mode → Prop
  | .stay k => -3 ≤ k ∧ k ≤ 3
  | .pass => True
  | .runs a b => a ≤ 40 ∧ b ≤ 40
/-- where a mode ends -/
def after (l : List Bool) (m : Mode) (p : Nat) (c t : Bool) : Option (Nat × Bool) := match m with
  | .runs a b => if l.length < p + a + b ∨ (a = 0 ∧ t = true) ∨ (b = 0 ∧ p + a < l.length) then none else some (p + a + b, c)
  | .pass => if chg l p c t < l.length then some (bck l (chg l p c t) c, c) else none
  | .stay k => if (l.length : Int) < chg l p c t + k ∨ (chg l p c t : Int) + k < 0 ∨ ((chg l p c t : Int) + k ≤ p ∧ t = true) then none else some (((chg l p c t : Int) + k).toNat, !c)
def dots (m : Mode) (p e : Nat) (c : Bool) : List Bool := match m with
  | .runs a b => List.replicate a c ++ List.replicate b (!c)
  | _ => List.replicate (e - p) c
/-- a mode done: the dots, the next colour -/
def done (l : List Bool) (m : Mode) (p : Nat) (c t : Bool) : Option (List Bool × Bool) := (after l m p c t).map fun x => (dots m p x.1 c, x.2)
theorem after_end {l : List Bool} {m : Mode} {p : Nat} {c t : Bool} {e : Nat} {c' : Bool} (hp : p < l.length) (ht : t = false → p = 0) (h : after l m p c t = some (e, c')) : e = p + (dots m p e c).length ∧ e ≤ l.length ∧ (t = true → p < e) := by
  have g1 := firstFrom_ge (turnAt l c) (if t = true then p + 1 else p) l.length
  have g2 := firstFrom_le (turnAt l c) (if t = true then p + 1 else p) l.length
  cases m with
  | runs a b =>
    unfold after at h
    simp only at h
    split at h
    · cases h
    · injection h with h
      injection h with h1 h2
      subst h1
      rename_i hn
      refine ⟨by simp only [dots, List.length_append, List.length_replicate]; omega, by omega, fun ht => ?_⟩
      simp only [not_or, not_and] at hn
      rcases Nat.eq_zero_or_pos a with z | z
      · exact absurd ht (hn.2.1 z)
      · omega
  | pass =>
    unfold after at h
    simp only at h
    split at h
    · injection h with h
      injection h with h1 h2
      rename_i hl
      have g3 := firstFrom_ge (fun h => decide (l.getD h false = c)) (chg l p c t + 1) l.length
      have g4 := firstFrom_le (fun h => decide (l.getD h false = c)) (chg l p c t + 1) l.length
      change bck l (chg l p c t) c = l.length ∨ _ at g3
      change bck l (chg l p c t) c ≤ _ at g4
      change chg l p c t = l.length ∨ _ at g1
      have g5 : p ≤ chg l p c t := by
        rcases g1 with g | g
        · omega
        · change _ ≤ chg l p c t at g
          split at g <;> omega
      have g6 : chg l p c t < e := by
        rw [← h1]
        rcases g3 with g | g
        · omega
        · change _ ≤ bck l (chg l p c t) c at g
          omega
      rw [h1] at g4
      refine ⟨by simp only [dots, List.length_replicate]; omega, g4, fun _ => by omega⟩
    · cases h
  | stay k =>
    unfold after at h
    simp only at h
    split at h
    · cases h
    · injection h with h
      injection h with h1 h2
      rename_i hn
      simp only [not_or, not_and] at hn
      obtain ⟨n1, n2, n3⟩ := hn
      have n4 : t = true → (p : Int) < (chg l p c t : Int) + k := fun ht => by
        rcases Int.lt_or_le (p : Int) ((chg l p c t : Int) + k) with z | z
        · exact z
        · exact absurd ht (n3 z)
      refine ⟨?_, by omega, fun ht => by have := n4 ht; omega⟩
      simp only [dots, List.length_replicate]
      cases t with
      | true => have := n4 rfl; omega
      | false => have := ht rfl; omega
/-- a telling read -/
def reads (l : List Bool) : List Mode → Nat → Bool → Bool → List Bool → Option (List Bool)
  | [], p, _, _, f => if p = l.length then some f else none
  | m :: ms, p, c, t, f => if p < l.length then match after l m p c t with
    | none => none
    | some x => reads l ms x.1 x.2 true (f ++ dots m p x.1 c)
    else none
def read (l : List Bool) (ms : List Mode) : Option (List Bool) := reads l ms 0 false false []
def lineIn : List Nat → Bool → List Bool
  | [], _ => []
  | n :: ns, c => List.replicate n c ++ lineIn ns !c
end Row
set_option Elab.async false
set_option linter.all false
/-! modes that fit: plain mathematics -/
namespace Row
open DD
theorem cut_mid {α : Type} (xs : List α) (p n : Nat) (h : p ≤ xs.length) : cutA xs (some (p : Int)) (some ((p : Int) + (n : Int))) = (xs.drop p).take n := by
  have e1 : HT.sIx xs.length 0 (some (p : Int)) = p := by
    simp only [HT.sIx]
    split <;> omega
  have e2 : HT.sIx xs.length xs.length (some ((p : Int) + (n : Int))) = min (p + n) xs.length := by
    simp only [HT.sIx]
    split <;> omega
  unfold cutA
  rw [e1, e2]
  by_cases q : p + n ≤ xs.length
  · rw [Nat.min_eq_left q, show p + n - p = n by omega]
  · rw [Nat.min_eq_right (by omega), List.take_of_length_le (by rw [List.length_drop]; omega), List.take_of_length_le (by rw [List.length_drop]; omega)]
def stays : List Mode := (List.range 7).map fun i : Nat => Mode.stay (-3 + (i : Int))
def runsOf (n a : Nat) : List Mode := (List.range (n - a + 1)).map fun b => Mode.runs a b
def cands (n : Nat) : List Mode := (List.range (n + 1)).foldl (fun s a => s ++ runsOf n a) (stays ++ [.pass])
theorem foldl_app {α β : Type} (f : α → List β) : ∀ (xs : List α) (s : List β), xs.foldl (fun s a => s ++ f a) s = s ++ xs.flatMap f
  | [], s => by simp
  | x :: xs, s => by rw [List.foldl_cons, foldl_app f xs, List.flatMap_cons, List.append_assoc]
theorem cands_ok {n : Nat} (hn : n ≤ 40) : ∀ m ∈ cands n, m.ok := by
  intro m hm
  unfold cands at hm
  rw [foldl_app, List.mem_append, List.mem_append] at hm
  rcases hm with (hm | hm) | hm
  · obtain ⟨i, hi, rfl⟩ := List.mem_map.mp hm
    rw [List.mem_range] at hi
    unfold Mode.ok
    omega
  · rw [List.mem_singleton] at hm
    subst hm
    exact trivial
  · obtain ⟨a, ha, hm⟩ := List.mem_flatMap.mp hm
    obtain ⟨b, hb, rfl⟩ := List.mem_map.mp hm
    rw [List.mem_range] at ha hb
    unfold Mode.ok
    omega
theorem runs_cand {n a b : Nat} (h : a + b ≤ n) : Mode.runs a b ∈ cands n := by
  unfold cands
  rw [foldl_app, List.mem_append]
  refine .inr (List.mem_flatMap.mpr ⟨a, List.mem_range.mpr (by omega), List.mem_map.mpr ⟨b, List.mem_range.mpr (by omega), rfl⟩⟩)
theorem foldl_len {n : Nat} : ∀ (xs : List Nat) (s : List Mode), (xs.foldl (fun s a => s ++ runsOf n a) s).length ≤ s.length + xs.length * (n + 1)
  | [], s => by simp
  | x :: xs, s => by
    rw [List.foldl_cons]
    refine Nat.le_trans (foldl_len xs _) ?_
    have h : (runsOf n x).length ≤ n + 1 := by simp only [runsOf, List.length_map, List.length_range]; omega
    rw [List.length_append, List.length_cons, Nat.add_mul]
    omega
/-- a mode fits the row at p -/
def fitB (l r : List Bool) (p : Nat) (c t : Bool) (m : Mode) : Bool := match done l m p c t with
  | none => false
  | some x => decide ((r.drop p).take x.1.length = x.1)
def goB (l r : List Bool) (p : Nat) (c t : Bool) (m : Mode) : Bool := match done l m p c t with
  | none => false
  | some x => decide ((r ++ [x.2]).getD (p + x.1.length) false = x.2)
theorem split_run (c : Bool) : ∀ r : List Bool, ∃ n s, r = List.replicate n c ++ s ∧ (s = [] ∨ ∃ s', s = (!c) :: s')
  | [] => ⟨0, [], rfl, .inl rfl⟩
  | b :: r => by
    by_cases h : b = c
    · obtain ⟨n, s, e, hs⟩ := split_run c r
      exact ⟨n + 1, s, by rw [List.replicate_succ, List.cons_append, ← e, h], hs⟩
    · exact ⟨0, b :: r, rfl, .inr ⟨r, by cases b <;> cases c <;> simp_all⟩⟩
/-- one of them always fits and goes on -/
theorem fit_ex {l r : List Bool} (hlr : l.length = r.length) {p : Nat} {c t : Bool} (hp : p < r.length) (hc : t = true → r.getD p false = c) : ∃ m ∈ cands (r.length - p), fitB l r p c t m = true ∧ goB l r p c t m = true := by
  obtain ⟨a, s, e1, h1⟩ := split_run c (r.drop p)
  obtain ⟨b, w, e2, h2⟩ := split_run (!c) s
  have hlen : r.length - p = a + s.length := by
    have := congrArg List.length e1
    rw [List.length_drop, List.length_append, List.length_replicate] at this
    exact this
  have hs : s.length = b + w.length := by
    have := congrArg List.length e2
    rw [List.length_append, List.length_replicate] at this
    exact this
  have ha : t = true → a ≠ 0 := by
    intro ht h0
    subst h0
    rw [List.replicate_zero, List.nil_append] at e1
    have h3 := hc ht
    rw [List.getD_eq_getElem?_getD] at h3
    have h4 : (r.drop p)[0]? = r[p]? := by rw [List.getElem?_drop, Nat.add_zero]
    rw [e1] at h4
    rcases h1 with rfl | ⟨s', rfl⟩
    · simp only [List.length_nil] at hlen
      omega
    · rw [List.getElem?_cons_zero] at h4
      rw [← h4, Option.getD_some] at h3
      cases c <;> simp at h3
  have hb : b = 0 → s = [] := by
    intro h0
    subst h0
    rw [List.replicate_zero, List.nil_append] at e2
    rcases h1 with rfl | ⟨s', rfl⟩
    · rfl
    · subst e2
      rcases h2 with h2 | ⟨w', h2⟩
      · cases h2
      · injection h2 with h2
        cases c <;> simp at h2
  have hd : done l (.runs a b) p c t = some (List.replicate a c ++ List.replicate b (!c), c) := by
    unfold done after
    simp only
    rw [if_neg (by
      rintro (h | ⟨h, ht⟩ | ⟨h, h'⟩)
      · omega
      · exact ha ht h
      · have := hb h
        subst this
        simp only [List.length_nil] at hlen
        omega)]
    rfl
  refine ⟨.runs a b, runs_cand (by omega), ?_, ?_⟩
  · unfold fitB
    rw [hd]
    simp only [List.length_append, List.length_replicate, decide_eq_true_eq]
    rw [e1, e2, ← List.append_assoc, List.take_left' (by simp)]
  · unfold goB
    rw [hd]
    simp only [List.length_append, List.length_replicate, decide_eq_true_eq]
    rw [List.getD_eq_getElem?_getD]
    have h5 : (r ++ [c])[p + (a + b)]? = (r.drop p ++ [c])[a + b]? := by
      rw [← List.drop_append_of_le_length (by omega), List.getElem?_drop]
    rw [h5, e1, e2, ← List.append_assoc, List.append_assoc, List.getElem?_append_right (by simp)]
    simp only [List.length_append, List.length_replicate, Nat.sub_self]
    rcases h2 with rfl | ⟨w', rfl⟩
    · rfl
    · simp
/-- what the choice leads to -/
theorem fit_step {l r : List Bool} {p : Nat} {c t : Bool} {m : Mode} (hp : p < r.length) (h1 : fitB l r p c t m = true) (h2 : goB l r p c t m = true) : ∃ x, done l m p c t = some x ∧ r.take (p + x.1.length) = r.take p ++ x.1 ∧ p + x.1.length ≤ r.length ∧ (p + x.1.length < r.length → r.getD (p + x.1.length) false = x.2) := by
  unfold fitB at h1
  unfold goB at h2
  cases hd : done l m p c t with
  | none =>
    rw [hd] at h1
    cases h1
  | some x =>
    rw [hd] at h1 h2
    simp only [decide_eq_true_eq] at h1 h2
    have hle : p + x.1.length ≤ r.length := by
      have := congrArg List.length h1
      rw [List.length_take, List.length_drop] at this
      omega
    refine ⟨x, rfl, ?_, hle, fun hlt => ?_⟩
    · rw [List.take_add, h1]
    · rw [List.getD_eq_getElem?_getD, List.getElem?_append_left hlt, ← List.getD_eq_getElem?_getD] at h2
      exact h2
theorem reads_append {l : List Bool} : ∀ (ms : List Mode) (p : Nat) (c t : Bool) (f : List Bool) (ns : List Mode) (m : Mode), True := fun _ _ _ _ _ _ _ => trivial
/-- a chain of modes that were done -/
inductive Chain (l : List Bool) : List Mode → Nat → Bool → Bool → List Bool → Prop
  | nil : Chain l [] 0 false false []
  | snoc {ms p c t f m e c'} : Chain l ms p c t f → p < l.length → after l m p c t = some (e, c') → Chain l (ms ++ [m]) e c' true (f ++ dots m p e c)
theorem reads_snoc {l : List Bool} : ∀ {ms : List Mode} {p c t f}, Chain l ms p c t f → ∀ ns, reads l (ms ++ ns) 0 false false [] = reads l ns p c t f
  | _, _, _, _, _, .nil, ns => rfl
  | _, _, _, _, _, .snoc h hp ha, ns => by
    rw [List.append_assoc, reads_snoc h, List.singleton_append, reads, if_pos hp, ha]
theorem Chain.read {l : List Bool} {ms : List Mode} {c t f} (h : Chain l ms l.length c t f) : read l ms = some f := by
  have := reads_snoc h []
  rw [List.append_nil] at this
  rw [Row.read, this, reads, if_pos rfl]
end Row
set_option Elab.async false
set_option linter.all false
set_option maxRecDepth 100000
set_option maxHeartbeats 4000000
namespace LW
open PySem L2 DD VV
local macro_rules | `(tactic| walk_at "vv") => `(tactic| simp only [vBody, vRetD, vSkip, vSeq, vIfS, vRet, vRetN, vRetT, vAsg, vAsgT, vExpr, vParN, setAll, vAug, vSetI, vHere, vStep, vMut, slot, getP, setP, uPut, uAppend, toUO, tN, tT, tsCons, tsNil, vOr, vAnd, vNot, vTru, vTst, vBin, vUn, vOp, vCall0, vCallN, putO, mapO, vCons, vNil, vVar, vC, vTup, vLst, vIf, vChain, vOrV, vAndV, vNotV, vSl, vSlL, vSlF, voN, voS, vDic, vpCons, vpNil, keysU, keyU, vFor, vEn, vIt, vRng1, vRng2, itU, vLc, vYes, vSolid, flat, flats, ofO, ER.bind, ER.bindS, UO.then, uIsi, tyU, knownT, isiB, uCmp, uIs, uIsNot, isNonU, truU, uAdd, uSub, uMul, uDiv, uMod, uPow, uNeg, uIAdd, uCat, uRep, uLen, lenU, uInt, uSlice, uSliceL, uSum, uAll, uAny, uTuple, uMin, uMax, uList, uIx, seqTU, seqU, uEq_int, uNe_int, uEq_str, uNe_str, wipeU, backU, List.getD_cons_zero, List.getD_cons_succ, vNever, List.map_cons, List.map_nil, List.length_cons, List.length_nil, List.length_map, List.length_range, List.replicate, List.append_nil, List.nil_append, List.cons_append, List.set_cons_zero, List.set_cons_succ, List.set_nil, List.getElem?_cons_zero, List.getElem?_cons_succ, List.getElem?_nil, List.take_succ_cons, List.take_zero, Option.map_some, Option.map_none, Option.isSome_some, Option.bind_some, Nat.reduceAdd, Nat.reduceSub, Nat.zero_add, if_true, if_false, Bool.false_eq_true, Bool.not_true, Bool.not_false, decide_true, decide_false, reduceIte, String.reduceBEq, Bool.or_true, Bool.true_or, Bool.or_false, Bool.false_or, Bool.and_true, Bool.and_false, Bool.true_and, Bool.false_and, Bool.and_self, String.reduceBNe, decide_eq_true_eq, reduceCtorEq, and_self, Int.reducePow, Int.reduceNeg, Int.reduceSub, Int.reduceAdd, Int.reduceMul, Int.reduceLT, Int.reduceLE, Int.reduceToNat, Nat.reducePow, Nat.reduceLT, Nat.reduceLeDiff, true_and, and_true, or_true, true_or, false_or, or_false, ne_eq, not_true_eq_false, not_false_eq_true, na10, na2, Sum.inr.injEq, ofS_inj, String.reduceEq, szl, Nat.zero_le, *])
/-! ### the drawing machine -/
abbrev kC : Key := .inr "cells"
abbrev kL : Key := .inr "great"
abbrev kS : Key := .inr "spot"
abbrev dM (cs ls : List Int) (s : Int) : U := .dic [(kC, .lst (cs.map U.int)), (kL, .lst (ls.map U.int)), (kS, .int s)]
theorem nCS : ¬ kC = kS := by decide
theorem nLS : ¬ kL = kS := by decide
theorem nCL : ¬ kC = kL := by decide
theorem nSC : ¬ kS = kC := by decide
theorem nSL : ¬ kS = kL := by decide
theorem nLC : ¬ kL = kC := by decide
structure Dw (B : Int) (m : U) : Prop where
  ex : ∃ cs ls s, m = dM cs ls s ∧ 0 ≤ s ∧ s ≤ B ∧ ls.length ≤ 1000
theorem Dw.mono {B B' : Int} {m : U} (d : Dw B m) (h : B ≤ B') : Dw B' m := by
  obtain ⟨cs, ls, s, e, h0, h1, h2⟩ := d.ex
  exact ⟨cs, ls, s, e, h0, by omega, h2⟩
theorem vlC (cs ls : List Int) (s : Int) : valU [(kC, .lst (cs.map U.int)), (kL, .lst (ls.map U.int)), (kS, .int s)] kC = some (.lst (cs.map U.int)) := by simp only [valU, if_true]
theorem vlL (cs ls : List Int) (s : Int) : valU [(kC, .lst (cs.map U.int)), (kL, .lst (ls.map U.int)), (kS, .int s)] kL = some (.lst (ls.map U.int)) := by simp only [valU, if_true, nCL, if_false]
theorem vlS (cs ls : List Int) (s : Int) : valU [(kC, .lst (cs.map U.int)), (kL, .lst (ls.map U.int)), (kS, .int s)] kS = some (.int s) := by simp only [valU, if_true, nCS, nLS, if_false]
theorem puL (cs ls ls' : List Int) (s : Int) : putU [(kC, .lst (cs.map U.int)), (kL, .lst (ls.map U.int)), (kS, .int s)] kL (.lst (ls'.map U.int)) = [(kC, .lst (cs.map U.int)), (kL, .lst (ls'.map U.int)), (kS, .int s)] := by simp only [putU, vlL, Option.isSome_some, if_true, setU, nCL, nSL, if_false]
theorem stL (cs ls ls' : List Int) (s : Int) : setU [(kC, .lst (cs.map U.int)), (kL, .lst (ls.map U.int)), (kS, .int s)] kL (.lst (ls'.map U.int)) = [(kC, .lst (cs.map U.int)), (kL, .lst (ls'.map U.int)), (kS, .int s)] := by simp only [if_true, setU, nCL, nSL, if_false]
theorem puS (cs ls : List Int) (s t : Int) : putU [(kC, .lst (cs.map U.int)), (kL, .lst (ls.map U.int)), (kS, .int s)] kS (.int t) = [(kC, .lst (cs.map U.int)), (kL, .lst (ls.map U.int)), (kS, .int t)] := by simp only [putU, vlS, Option.isSome_some, if_true, setU, nCS, nLS, if_false]
theorem neNil (ls : List Int) : uNe (.lst (ls.map U.int)) (.lst []) = some (.bl !ls.isEmpty) := by
  rw [uNe_ok (by rw [VV.plain]; exact plain_ints _ _) rfl, eqB, eqBs_nil, isEmpty_map]
theorem cut1 (x : Int) (ls : List Int) : cutA ((x :: ls).map U.int) (some 1) none = ls.map U.int := by
  rw [cut_drop _ _ (by decide)]
  rfl
theorem drop_ok (lim : Int) (cs : List Int) (s : Int) : ∀ (ls : List Int) (fuel : Nat), ls.length < fuel →
    ∃ ls', vWhile fuel W_law_next_1 L_law_next_1 [some (dM cs ls s), some (.int lim), none, none, none, none] = .nx [some (dM cs ls' s), some (.int lim), none, none, none, none] ∧ ls'.length ≤ ls.length
  | [], fuel + 1, hf => by
    refine ⟨[], ?_, Nat.le_refl _⟩
    have f1 := neNil []
    have f2 := vlL cs [] s
    unfold vWhile W_law_next_1
    clear hf
    simp only [List.map_nil, List.isEmpty_nil, Bool.not_true] at f1 f2
    walk_at "vv"
  | x :: ls, fuel + 1, hf => by
    have f1 := neNil (x :: ls)
    have f2 := vlL cs (x :: ls) s
    have f3 := at0 U.int x ls
    have f5 : (x :: ls).isEmpty = false := rfl
    rw [f5, Bool.not_false] at f1
    by_cases hx : x = 0
    · obtain ⟨ls', z, hl⟩ := drop_ok lim cs s ls fuel (by rw [List.length_cons] at hf; omega)
      refine ⟨ls', ?_, by rw [List.length_cons]; omega⟩
      have f4 := cut1 x ls
      have f6 := puL cs (x :: ls) ls s
      have f7 := flats_ints ls
      have f9 : decide (x = 0) = true := decide_eq_true hx
      unfold vWhile W_law_next_1 L_law_next_1
      clear hf hx hl
      generalize hX : (x :: ls).map U.int = X at f1 f2 f3 f4 f6
      have f10 : dM cs (x :: ls) s = .dic [(kC, .lst (cs.map U.int)), (kL, .lst X), (kS, .int s)] := by rw [← hX]
      rw [f10]
      clear hX f10
      unfold W_law_next_1 L_law_next_1 at z
      walk_at "vv"
    · refine ⟨x :: ls, ?_, Nat.le_refl _⟩
      have f9 : decide (x = 0) = false := decide_eq_false hx
      unfold vWhile W_law_next_1
      clear hf hx
      generalize hX : (x :: ls).map U.int = X at f1 f2 f3
      have f10 : dM cs (x :: ls) s = .dic [(kC, .lst (cs.map U.int)), (kL, .lst X), (kS, .int s)] := by rw [← hX]
      rw [f10]
      clear hX f10
      walk_at "vv"
/-- THE DRAW -/
theorem next_ok {B : Int} {m : U} (D : Dw B m) (hB : B ≤ 4000000000000000000) {n : Int} (h0 : 0 < n) (h1 : n < 10 ^ 40) : ∃ k m', v_law_next [m, .int n] = .val (.int k) [some m'] ∧ 0 ≤ k ∧ k < n ∧ Dw (B + 1) m' := by
  obtain ⟨cs, ls, s, rfl, s0, s1, hl⟩ := D.ex
  obtain ⟨ls', z, hl'⟩ := drop_ok n cs s ls 100000 (by omega)
  have hlog : n.natAbs.log2 < 9000 := by
    have hz : n.natAbs ≠ 0 := by omega
    refine (Nat.log2_lt hz).mpr ?_
    have : n.natAbs < 10 ^ 40 := by omega
    exact Nat.lt_of_lt_of_le this (by decide +kernel)
  have hdiv : 0 < n ∧ (n < 1073741824 ∨ n.natAbs.log2 < 9000) := ⟨h0, .inr hlog⟩
  cases ls' with
  | cons x ls' =>
    refine ⟨x % n, dM cs (x / n :: ls') s, ?_, Int.emod_nonneg _ (by omega), Int.emod_lt_of_pos _ h0, ⟨cs, _, s, rfl, s0, by omega, by rw [List.length_cons] at hl' ⊢; omega⟩⟩
    have f1 := neNil (x :: ls')
    have f5 : (x :: ls').isEmpty = false := rfl
    rw [f5, Bool.not_false] at f1
    have f2 := vlL cs (x :: ls') s
    have f3 := at0 U.int x ls'
    have f6 : setU [(kC, .lst (cs.map U.int)), (kL, .lst ((x :: ls').map U.int)), (kS, .int s)] kL (.lst (.int (x / n) :: ls'.map U.int)) = [(kC, .lst (cs.map U.int)), (kL, .lst ((x / n :: ls').map U.int)), (kS, .int s)] := stL cs (x :: ls') (x / n :: ls') s
    have f7 : ixN ((x :: ls').map U.int).length 0 = some 0 := by
      unfold ixN
      rw [if_pos (by decide), List.length_map, List.length_cons, if_pos (by omega)]
      rfl
    have f8 : ((x :: ls').map U.int).set 0 (.int (x / n)) = (x / n :: ls').map U.int := rfl
    unfold v_law_next w_law_next
    clear hl hl' s0 s1 hB hlog h1 f5
    generalize hX : (x :: ls').map U.int = X at f1 f2 f3 f6 f7 f8
    have f10 : dM cs (x :: ls') s = .dic [(kC, .lst (cs.map U.int)), (kL, .lst X), (kS, .int s)] := by rw [← hX]
    rw [f10] at z
    clear hX f10
    walk_at "vv"
    rfl
  | nil =>
    have hk : -18446744073709551616 < s + 1 ∧ s + 1 < 18446744073709551616 := by omega
    have f1 := neNil []
    rw [show ([] : List Int).isEmpty = true from rfl, Bool.not_true] at f1
    simp only [List.map_nil] at f1
    have f2 := vlL cs [] s
    have f3 := vlS cs [] s
    have f4 := puS cs [] s (s + 1)
    have f5 := vlC cs [] (s + 1)
    have f6 := neNil cs
    simp only [List.map_nil] at f2 f3 f4 f5
    have hdr : ∀ c : Int, Dw (B + 1) (dM cs [] (s + 1)) := fun c => ⟨cs, [], s + 1, rfl, by omega, by omega, Nat.zero_le _⟩
    cases hcs : cs with
    | nil =>
      have key : ∃ k, v_law_next [dM [] ls s, .int n] = .val (.int (k % n)) [some (dM [] [] (s + 1))] := by
        subst hcs
        simp only [List.isEmpty_nil, Bool.not_true, List.map_nil] at f6 f2 f3 f4 f5
        unfold v_law_next w_law_next
        clear hl hl' s0 s1 hB hlog h1 hdr hdiv f6
        refine ⟨?k, ?g⟩
        case g =>
          walk_at "vv"
          rfl
      obtain ⟨k, key⟩ := key
      exact ⟨k % n, dM [] [] (s + 1), key, Int.emod_nonneg _ (by omega), Int.emod_lt_of_pos _ h0, ⟨[], [], s + 1, rfl, by omega, by omega, Nat.zero_le _⟩⟩
    | cons c0 cs0 =>
      have hne : cs.isEmpty = false := by rw [hcs]; rfl
      rw [hne, Bool.not_false] at f6
      have hlen : (0 : Int) < (cs.length : Int) := by rw [hcs, List.length_cons]; omega
      have hm0 := Int.emod_nonneg (s + 1) (Int.ne_of_gt hlen)
      have hm1 := Int.emod_lt_of_pos (s + 1) hlen
      obtain ⟨c, hc⟩ : ∃ c, atI (cs.map U.int) ((s + 1) % (cs.length : Int)) = some (.int c) := by
        rw [atI_map]
        obtain ⟨j, hj⟩ : ∃ j : Nat, (s + 1) % (cs.length : Int) = (j : Int) := ⟨((s + 1) % (cs.length : Int)).toNat, by omega⟩
        rw [hj, VV.atI_nat, List.getElem?_eq_getElem (by omega)]
        exact ⟨_, rfl⟩
      rw [← hcs]
      have key : ∃ k, v_law_next [dM cs ls s, .int n] = .val (.int (k % n)) [some (dM cs [] (s + 1))] := by
        unfold v_law_next w_law_next
        clear hl hl' s0 s1 hB hlog h1 hdr hdiv hm0 hm1 hne hcs
        refine ⟨?k2, ?g2⟩
        case g2 =>
          walk_at "vv"
          rfl
      obtain ⟨k, key⟩ := key
      exact ⟨k % n, dM cs [] (s + 1), key, Int.emod_nonneg _ (by omega), Int.emod_lt_of_pos _ h0, hdr 0⟩
/-! the beginning -/
theorem big_lc (ns : List Int) (e0 : UE) (j : Nat) (he : wipeU e0 [j] = e0) (hj : ∀ u, (e0.set j (some u))[j]? = some (some u)) (hw : ∀ u, wipeU (e0.set j (some u)) [j] = e0) (hl : ns.length ≤ 1000) :
    lcV (tN j) (vTst (vBin uGe (vVar j) (vBin uPow (vC (.int 10)) (vC (.int 18))))) (vVar j) [j] (ns.map U.int) [] e0 = .val ((ns.filter fun x => decide ((10 : Int) ^ 18 ≤ x)).map U.int) e0 := by
  have := lcV_filter (t := tN j) (c := vTst (vBin uGe (vVar j) (vBin uPow (vC (.int 10)) (vC (.int 18))))) (x := vVar j) (own := [j]) (e0 := e0) U.int (fun x => decide ((10 : Int) ^ 18 ≤ x)) U.int ns []
    (fun a _ => by
      have h1 := hj (.int a)
      have h2 := hw (.int a)
      refine ⟨e0.set j (some (.int a)), e0.set j (some (.int a)), rfl, ?_, fun _ => ⟨e0.set j (some (.int a)), ?_, h2⟩, fun _ => h2⟩
      · have hp : (0 : Int) ≤ 18 ∧ (18 : Int) ≤ 1000000 ∧ (10 : Int).natAbs < 2 ^ 64 := by decide
        simp only [vTst, vBin, vVar, h1, vC, ER.bind, uPow, if_pos hp, ofO, uCmp]
        rfl
      · simp only [vVar, h1]) (by rw [List.length_nil, szl]; omega)
  rw [List.nil_append] at this
  exact this
theorem begun_ok (ns : List Int) (hl : ns.length ≤ 63) : ∃ m, v_law_begun [.fl (ns.map U.int)] = .val m [] ∧ Dw 0 m := by
  refine ⟨dM ns (ns.filter fun x => decide ((10 : Int) ^ 18 ≤ x)) 0, ?_, ⟨ns, _, 0, rfl, by omega, by omega, Nat.le_trans (List.length_filter_le _ _) (by omega)⟩⟩
  have hnd : ([kC, kL, kS] : List Key).Nodup := by decide
  have h15 : (3 : Nat) ≤ 15 := by decide
  unfold v_law_begun w_law_begun
  have f1 := big_lc ns [some (.fl (ns.map U.int)), none, none] 2 rfl (fun _ => rfl) (fun _ => rfl) (by omega)
  unfold X_law_begun_1 C_law_begun_1
  clear hl
  walk_at "vv"
end LW
set_option Elab.async false
set_option linter.all false
set_option maxRecDepth 100000
set_option maxHeartbeats 4000000
namespace LW
open PySem L2 DD VV Row
local macro_rules | `(tactic| walk_at "vr") => `(tactic| simp only [rS_e, rS_w, rS_b, rS_wb, rS_app, rS_len, rS_inj, rS_at, rS_one, rS_cut, rS_signs, rS_mul, one_eq, vBody, vRetD, vSkip, vSeq, vIfS, vRet, vRetN, vRetT, vAsg, vAsgT, vExpr, vParN, setAll, vAug, vSetI, vHere, vStep, vMut, slot, getP, setP, uPut, uAppend, toUO, tN, tT, tsCons, tsNil, vOr, vAnd, vNot, vTru, vTst, vBin, vUn, vOp, vCall0, vCallN, putO, mapO, vCons, vNil, vVar, vC, vTup, vLst, vIf, vChain, vOrV, vAndV, vNotV, vSl, vSlL, vSlF, voN, voS, vDic, vpCons, vpNil, keysU, keyU, vFor, vEn, vIt, vRng1, vRng2, itU, vLc, vYes, vSolid, flat, flats, ofO, ER.bind, ER.bindS, UO.then, uIsi, tyU, knownT, isiB, uCmp, uIs, uIsNot, isNonU, truU, uAdd, uSub, uMul, uDiv, uMod, uPow, uNeg, uIAdd, uCat, uRep, uLen, lenU, uInt, uSlice, uSliceL, uSum, uAll, uAny, uTuple, uMin, uMax, uList, uIx, seqTU, seqU, uEq_int, uNe_int, uEq_str, uNe_str, wipeU, backU, List.getD_cons_zero, List.getD_cons_succ, vNever, List.map_cons, List.map_nil, List.length_cons, List.length_nil, List.length_map, List.length_range, List.replicate, List.append_nil, List.nil_append, List.cons_append, List.set_cons_zero, List.set_cons_succ, List.set_nil, List.getElem?_cons_zero, List.getElem?_cons_succ, List.getElem?_nil, List.take_succ_cons, List.take_zero, Option.map_some, Option.map_none, Option.isSome_some, Option.bind_some, Nat.reduceAdd, Nat.reduceSub, Nat.zero_add, if_true, if_false, Bool.false_eq_true, Bool.not_true, Bool.not_false, decide_true, decide_false, reduceIte, String.reduceBEq, Bool.or_true, Bool.true_or, Bool.or_false, Bool.false_or, Bool.and_true, Bool.and_false, Bool.true_and, Bool.false_and, Bool.and_self, String.reduceBNe, decide_eq_true_eq, reduceCtorEq, and_self, Int.reducePow, Int.reduceNeg, Int.reduceSub, Int.reduceAdd, Int.reduceMul, Int.reduceLT, Int.reduceLE, Int.reduceToNat, Nat.reducePow, Nat.reduceLT, Nat.reduceLeDiff, true_and, and_true, or_true, true_or, false_or, or_false, ne_eq, not_true_eq_false, not_false_eq_true, na10, na2, Sum.inr.injEq, ofS_inj, String.reduceEq, szl, Nat.zero_le, *])
def uM : Mode → U
  | .stay k => .tup [.str "stay", .int k]
  | .pass => .tup [.str "pass"]
  | .runs a b => .tup [.str "runs", .int a, .int b]
theorem is_whole_yes {i lo hi : Int} (h1 : lo ≤ i) (h2 : i ≤ hi) : v_is_whole [.int i, .int lo, .int hi] = .val (.bl true) [] := by
  unfold v_is_whole w_is_whole
  walk_at "vr"
theorem need_line_ok {l : List Bool} (h1 : 1 ≤ l.length) (h2 : l.length ≤ 40) : v_need_line [rU l] = .val (rU l) [] := by
  have c1 : (1 : Int) ≤ (l.length : Int) := by omega
  have c2 : (l.length : Int) ≤ 40 := by omega
  have c3 : l.length ≤ 16777216 := by omega
  obtain ⟨j, z⟩ := forV_fold (t := tT 2 (tsCons (tN 1) (tsCons (tN 2) tsNil))) (b := L_need_line_1) (fun p : Bool × Nat => U.tup [.int (p.2 : Nat), rU [p.1]]) (fun (_ : Unit) (j : Option U × Option U) => [some (rU l), j.1, j.2]) (fun s _ => s) (l.zipIdx 0) () (none, none) fun pre p post e j => by
    refine ⟨[some (rU l), some (.int (p.2 : Nat)), some (rU [p.1])], (some (.int (p.2 : Nat)), some (rU [p.1])), rfl, .inl ?_⟩
    unfold L_need_line_1
    have e1 := not_in_r p.1
    have e2 : (1 : Nat) + 1 ≤ 16777216 := by decide
    clear e
    walk_at "vr"
  have e2 := enumU_map (fun b => rU [b]) l 0
  rw [← e2] at z
  unfold v_need_line w_need_line
  clear e2
  walk_at "vr"
theorem rangeU_nat (a n : Nat) : rangeU (a : Int) n = (List.range n).map fun i : Nat => U.int ((a + i : Nat) : Int) := rfl
theorem at_nat {l : List Bool} {h : Nat} (hh : h < l.length) : atI l (h : Int) = some (l.getD h false) := by
  rw [VV.atI_nat, List.getElem?_eq_getElem hh, List.getD_eq_getElem?_getD, List.getElem?_eq_getElem hh]
  rfl
theorem from_turn {l : List Bool} (hl : l.length ≤ 40) (p : Nat) (c t : Bool) (h : Nat) (hh : h < l.length) (j : Option U) : ∃ j', L_change_from_1 [some (rU l), some (.int (p : Int)), some (rU [c]), some (.bl t), some (.int (h : Int)), j] = if turnAt l c h = true then .rt (.int (h : Int)) [some (rU l), some (.int (p : Int)), some (rU [c]), some (.bl t), some (.int (h : Int)), j'] else .nx [some (rU l), some (.int (p : Int)), some (rU [c]), some (.bl t), some (.int (h : Int)), j'] := by
  have e1 := at_nat hh
  have c3 : l.length ≤ 16777216 := by omega
  refine ⟨some (rU [ahead l h]), ?_⟩
  unfold L_change_from_1 turnAt
  by_cases h0 : 0 < h
  · have e2 : decide (0 < (h : Int)) = true := decide_eq_true (by omega)
    have e3 : atI l ((h : Int) - 1) = some (ahead l h) := by
      unfold ahead
      rw [if_neg (by omega), show (h : Int) - 1 = ((h - 1 : Nat) : Int) by omega]
      exact at_nat (by omega)
    generalize ahead l h = x at *
    generalize l.getD h false = y at *
    clear hl hh h0
    cases x <;> cases y <;> cases c <;> walk_at "vr"
  · have e2 : decide (0 < (h : Int)) = false := decide_eq_false (by omega)
    have e3 : ahead l h = false := by
      unfold ahead
      rw [if_pos (by omega)]
    rw [e3]
    generalize l.getD h false = y at *
    clear hl hh h0 e3
    cases y <;> cases c <;> walk_at "vr"
theorem from_loop {l : List Bool} (hl : l.length ≤ 40) (p : Nat) (c t : Bool) (a : Nat) : ∃ j : Option U × Option U, forV (tN 4) L_change_from_1 (rangeU (a : Int) (l.length - a)) [some (rU l), some (.int (p : Int)), some (rU [c]), some (.bl t), none, none] = match (List.range (l.length - a)).find? fun i => turnAt l c (a + i) with
    | none => .nx [some (rU l), some (.int (p : Int)), some (rU [c]), some (.bl t), j.1, j.2]
    | some i => .rt (.int ((a + i : Nat) : Int)) [some (rU l), some (.int (p : Int)), some (rU [c]), some (.bl t), j.1, j.2] := by
  obtain ⟨j, z⟩ := forV_find (t := tN 4) (b := L_change_from_1) (fun i : Nat => U.int ((a + i : Nat) : Int)) (fun j : Option U × Option U => [some (rU l), some (.int (p : Int)), some (rU [c]), some (.bl t), j.1, j.2]) (fun i => if turnAt l c (a + i) = true then some (.int ((a + i : Nat) : Int)) else none) (List.range (l.length - a)) (none, none) (fun x hx j => by
    rw [List.mem_range] at hx
    obtain ⟨j', z⟩ := from_turn hl p c t (a + x) (by omega) j.2
    refine ⟨[some (rU l), some (.int (p : Int)), some (rU [c]), some (.bl t), some (.int ((a + x : Nat) : Int)), j.2], (some (.int ((a + x : Nat) : Int)), j'), rfl, ?_⟩
    rw [z]
    cases turnAt l c (a + x)
    · exact .inl rfl
    · rfl)
  refine ⟨j, ?_⟩
  rw [rangeU_nat, z, findSome_ite]
  cases (List.range (l.length - a)).find? fun i => turnAt l c (a + i) <;> rfl
theorem change_from_ok {l : List Bool} (hl : l.length ≤ 40) (p : Nat) (c t : Bool) : v_change_from [rU l, .int (p : Int), rU [c], .bl t] = .val (.int ((chg l p c t : Nat) : Int)) [] := by
  have e1 : (p : Int) + 1 = ((p + 1 : Nat) : Int) := by omega
  have e2 : ∀ a : Nat, ((l.length : Int) - (a : Int)).toNat = l.length - a := fun a => by omega
  have c3 : l.length ≤ 16777216 := by omega
  unfold v_change_from w_change_from chg firstFrom
  cases t with
  | true =>
    obtain ⟨j, z⟩ := from_loop hl p c true (p + 1)
    rw [if_pos rfl]
    cases h : (List.range (l.length - (p + 1))).find? fun i => turnAt l c (p + 1 + i) with
    | none =>
      rw [h] at z
      clear h hl
      simp only [Option.map_none, Option.getD_none]
      walk_at "vr"
    | some i =>
      rw [h] at z
      clear h hl
      simp only [Option.map_some, Option.getD_some]
      walk_at "vr"
  | false =>
    obtain ⟨j, z⟩ := from_loop hl p c false p
    rw [if_neg Bool.false_ne_true]
    cases h : (List.range (l.length - p)).find? fun i => turnAt l c (p + i) with
    | none =>
      rw [h] at z
      clear h hl
      simp only [Option.map_none, Option.getD_none]
      walk_at "vr"
    | some i =>
      rw [h] at z
      clear h hl
      simp only [Option.map_some, Option.getD_some]
      walk_at "vr"
theorem change_back_ok {l : List Bool} (hl : l.length ≤ 40) (p : Nat) (c : Bool) : v_change_back [rU l, .int (p : Int), rU [c]] = .val (.int ((bck l p c : Nat) : Int)) [] := by
  have e1 : (p : Int) + 1 = ((p + 1 : Nat) : Int) := by omega
  have e2 : ((l.length : Int) - ((p + 1 : Nat) : Int)).toNat = l.length - (p + 1) := by omega
  have c3 : l.length ≤ 16777216 := by omega
  obtain ⟨j, z⟩ := forV_find (t := tN 3) (b := L_change_back_1) (fun i : Nat => U.int ((p + 1 + i : Nat) : Int)) (fun j : Option U => [some (rU l), some (.int (p : Int)), some (rU [c]), j]) (fun i => if decide (l.getD (p + 1 + i) false = c) = true then some (.int ((p + 1 + i : Nat) : Int)) else none) (List.range (l.length - (p + 1))) none (fun x hx j => by
    rw [List.mem_range] at hx
    have e1 := at_nat (l := l) (h := p + 1 + x) (by omega)
    refine ⟨[some (rU l), some (.int (p : Int)), some (rU [c]), some (.int ((p + 1 + x : Nat) : Int))], some (.int ((p + 1 + x : Nat) : Int)), rfl, ?_⟩
    unfold L_change_back_1
    generalize l.getD (p + 1 + x) false = y at *
    generalize p + 1 + x = h at *
    clear hl hx e2
    cases y <;> cases c <;> walk_at "vr")
  rw [← rangeU_nat, findSome_ite] at z
  unfold v_change_back w_change_back bck firstFrom
  cases h : (List.range (l.length - (p + 1))).find? fun i => decide (l.getD (p + 1 + i) false = c) with
  | none =>
    rw [h] at z
    clear h hl
    simp only [Option.map_none, Option.getD_none] at z ⊢
    walk_at "vr"
  | some i =>
    rw [h] at z
    clear h hl
    simp only [Option.map_some, Option.getD_some] at z ⊢
    walk_at "vr"
theorem other_colour_ok (c : Bool) : v_other_colour [rU [c]] = .val (rU [!c]) [] := by cases c <;> kernel_rfl
def uA : Option (Nat × Bool) → U
  | none => .non
  | some x => .tup [.int (x.1 : Nat), rU [x.2]]
theorem at_0 (a : U) (r : List U) : atI (a :: r) 0 = some a := VV.atI_nat (a :: r) 0
theorem at_1 (a b : U) (r : List U) : atI (a :: b :: r) 1 = some b := VV.atI_nat (a :: b :: r) 1
theorem at_2 (a b c : U) (r : List U) : atI (a :: b :: c :: r) 2 = some c := VV.atI_nat (a :: b :: c :: r) 2
theorem after_runs {l : List Bool} (hl : l.length ≤ 40) (a b p : Nat) (c t : Bool) : v_after_mode [rU l, uM (.runs a b), .int (p : Int), rU [c], .bl t] = .val (uA (after l (.runs a b) p c t)) [] := by
  have c3 : l.length ≤ 16777216 := by omega
  have a0 := at_0 (.str "runs") [.int (a : Int), .int (b : Int)]
  have a1 := at_1 (.str "runs") (.int (a : Int)) [.int (b : Int)]
  have a2 := at_2 (.str "runs") (.int (a : Int)) (.int (b : Int)) []
  unfold v_after_mode w_after_mode uM
  by_cases q1 : (l.length : Int) < (p : Int) + (a : Int) + (b : Int)
  · have ha : after l (.runs a b) p c t = none := if_pos (.inl (by omega))
    rw [ha]
    have d1 := decide_eq_true q1
    clear hl q1 ha
    unfold uA
    walk_at "vr"
  · have d1 := decide_eq_false q1
    by_cases q2 : a = 0 ∧ t = true
    · have ha : after l (.runs a b) p c t = none := if_pos (.inr (.inl q2))
      rw [ha]
      obtain ⟨q2, rfl⟩ := q2
      subst q2
      clear hl q1 ha
      unfold uA
      have d2 : decide (((0 : Nat) : Int) = 0) = true := rfl
      walk_at "vr"
    · by_cases q3 : b = 0 ∧ p + a < l.length
      · have ha : after l (.runs a b) p c t = none := if_pos (.inr (.inr q3))
        rw [ha]
        have d3 : decide ((b : Int) = 0) = true := decide_eq_true (by omega)
        have d4 : decide ((p : Int) + (a : Int) < (l.length : Int)) = true := decide_eq_true (by omega)
        cases t with
        | false =>
          by_cases q5 : (a : Int) = 0
          · have d5 := decide_eq_true q5
            clear hl q1 ha q2 q3 q5
            unfold uA
            walk_at "vr"
          · have d5 := decide_eq_false q5
            clear hl q1 ha q2 q3 q5
            unfold uA
            walk_at "vr"
        | true =>
          have d5 : decide ((a : Int) = 0) = false := decide_eq_false (fun z => q2 ⟨by omega, rfl⟩)
          clear hl q1 ha q2 q3
          unfold uA
          walk_at "vr"
      · have ha : after l (.runs a b) p c t = some (p + a + b, c) := if_neg (by
          rintro (h | h | h)
          · omega
          · exact q2 h
          · exact q3 h)
        rw [ha]
        have e6 : (p : Int) + (a : Int) + (b : Int) = ((p + a + b : Nat) : Int) := by omega
        have d6 : (decide ((a : Int) = 0) && t) = false := by
          cases t with
          | false => simp
          | true =>
            rw [Bool.and_true]
            exact decide_eq_false (fun z => q2 ⟨by omega, rfl⟩)
        have d7 : (decide ((b : Int) = 0) && decide ((p : Int) + (a : Int) < (l.length : Int))) = false := by
          rw [← Bool.decide_and]
          exact decide_eq_false (fun z => q3 ⟨by omega, by omega⟩)
        clear hl q1 ha q2 q3
        unfold uA
        rw [e6] at d1
        generalize hx : decide ((a : Int) = 0) = x at *
        generalize hy : decide ((b : Int) = 0) = y at *
        generalize hz : decide ((p : Int) + (a : Int) < (l.length : Int)) = z at *
        cases x <;> cases t <;> (try cases d6) <;> cases y <;> cases z <;> (try cases d7) <;> walk_at "vr"
theorem after_pass {l : List Bool} (hl : l.length ≤ 40) (p : Nat) (c t : Bool) : v_after_mode [rU l, uM .pass, .int (p : Int), rU [c], .bl t] = .val (uA (after l .pass p c t)) [] := by
  have c3 : l.length ≤ 16777216 := by omega
  have a0 := at_0 (.str "pass") []
  have e1 := change_from_ok hl p c t
  have e2 := change_back_ok hl (chg l p c t) c
  unfold v_after_mode w_after_mode uM
  by_cases q : chg l p c t < l.length
  · have ha : after l .pass p c t = some (bck l (chg l p c t) c, c) := if_pos q
    rw [ha]
    have d : decide (((chg l p c t : Nat) : Int) < (l.length : Int)) = true := decide_eq_true (by omega)
    clear hl q ha
    unfold uA
    walk_at "vr"
  · have ha : after l .pass p c t = none := if_neg q
    rw [ha]
    have d : decide (((chg l p c t : Nat) : Int) < (l.length : Int)) = false := decide_eq_false (by omega)
    clear hl q ha
    unfold uA
    walk_at "vr"
theorem after_stay {l : List Bool} (hl : l.length ≤ 40) (k : Int) (p : Nat) (c t : Bool) : v_after_mode [rU l, uM (.stay k), .int (p : Int), rU [c], .bl t] = .val (uA (after l (.stay k) p c t)) [] := by
  have c3 : l.length ≤ 16777216 := by omega
  have a0 := at_0 (.str "stay") [.int k]
  have a1 := at_1 (.str "stay") (.int k) []
  have e1 := change_from_ok hl p c t
  have e2 := other_colour_ok c
  unfold v_after_mode w_after_mode uM after
  simp only
  generalize chg l p c t = h at *
  generalize hg : (h : Int) + k = g at *
  by_cases q1 : (l.length : Int) < g
  · rw [if_pos (.inl q1)]
    have d1 := decide_eq_true q1
    clear hl q1
    unfold uA
    walk_at "vr"
  · have d1 := decide_eq_false q1
    by_cases q2 : g < 0
    · rw [if_pos (.inr (.inl q2))]
      have d2 := decide_eq_true q2
      clear hl q1 q2
      unfold uA
      walk_at "vr"
    · have d2 := decide_eq_false q2
      by_cases q3 : g ≤ (p : Int) ∧ t = true
      · rw [if_pos (.inr (.inr q3))]
        obtain ⟨q3, rfl⟩ := q3
        have d3 := decide_eq_true q3
        clear hl q1 q2 q3
        unfold uA
        walk_at "vr"
      · rw [if_neg (by
          rintro (h | h | h)
          · exact q1 h
          · exact q2 h
          · exact q3 h)]
        have e6 : ((g.toNat : Nat) : Int) = g := by omega
        have d6 : (decide (g ≤ (p : Int)) && t) = false := by
          cases t with
          | false => simp
          | true =>
            rw [Bool.and_true]
            exact decide_eq_false (fun z => q3 ⟨z, rfl⟩)
        clear hl q1 q2 q3
        unfold uA
        generalize hx : decide (g ≤ (p : Int)) = x at *
        cases x <;> cases t <;> (try cases d6) <;> walk_at "vr"
theorem after_ok {l : List Bool} (hl : l.length ≤ 40) (m : Mode) (p : Nat) (c t : Bool) : v_after_mode [rU l, uM m, .int (p : Int), rU [c], .bl t] = .val (uA (after l m p c t)) [] := by
  cases m with
  | stay k => exact after_stay hl k p c t
  | pass => exact after_pass hl p c t
  | runs a b => exact after_runs hl a b p c t
theorem dots_ok {m : Mode} (hm : m.ok) {p e : Nat} (c : Bool) (hp : p ≤ 100) (he : e ≤ 100) : v_dots_of [uM m, .int (p : Int), .int (e : Int), rU [c]] = .val (rU (dots m p e c)) [] := by
  have e2 := other_colour_ok c
  unfold v_dots_of w_dots_of
  cases m with
  | stay k =>
    have a0 := at_0 (.str "stay") [.int k]
    have e1 := uMul_r c ((e : Int) - (p : Int)) (by omega) (by omega)
    rw [show ((e : Int) - (p : Int)).toNat = e - p by omega] at e1
    unfold uM dots
    have e3 : vBin uMul (vVar 3) (vBin uSub (vVar 2) (vVar 1)) [some (.tup [.str "stay", .int k]), some (.int (p : Int)), some (.int (e : Int)), some (rU [c])] = .val (rU (List.replicate (e - p) c)) [some (.tup [.str "stay", .int k]), some (.int (p : Int)), some (.int (e : Int)), some (rU [c])] := by
      simp only [vBin, vVar, List.getElem?_cons_zero, List.getElem?_cons_succ, ER.bind, uSub, ofO, e1]
    generalize vBin uMul (vVar 3) (vBin uSub (vVar 2) (vVar 1)) = G at *
    clear hp he hm e1
    walk_at "vr"
  | pass =>
    have a0 := at_0 (.str "pass") []
    have e1 := uMul_r c ((e : Int) - (p : Int)) (by omega) (by omega)
    rw [show ((e : Int) - (p : Int)).toNat = e - p by omega] at e1
    unfold uM dots
    have e3 : vBin uMul (vVar 3) (vBin uSub (vVar 2) (vVar 1)) [some (.tup [.str "pass"]), some (.int (p : Int)), some (.int (e : Int)), some (rU [c])] = .val (rU (List.replicate (e - p) c)) [some (.tup [.str "pass"]), some (.int (p : Int)), some (.int (e : Int)), some (rU [c])] := by
      simp only [vBin, vVar, List.getElem?_cons_zero, List.getElem?_cons_succ, ER.bind, uSub, ofO, e1]
    generalize vBin uMul (vVar 3) (vBin uSub (vVar 2) (vVar 1)) = G at *
    clear hp he hm e1
    walk_at "vr"
  | runs a b =>
    have a0 := at_0 (.str "runs") [.int (a : Int), .int (b : Int)]
    have a1 := at_1 (.str "runs") (.int (a : Int)) [.int (b : Int)]
    have a2 := at_2 (.str "runs") (.int (a : Int)) (.int (b : Int)) []
    have ha : (a : Int) ≤ 1000000 ∧ -1000000 ≤ (a : Int) ∧ a ≤ 16777216 ∧ (b : Int) ≤ 1000000 ∧ -1000000 ≤ (b : Int) ∧ b ≤ 16777216 ∧ a + b ≤ 16777216 := by
      have h1 := hm.1
      have h2 := hm.2
      omega
    have h1 : ((a : Nat) : Int).toNat = a := rfl
    have h2 : ((b : Nat) : Int).toNat = b := rfl
    unfold uM dots
    clear hp he hm
    have h3 := Nat.one_mul a
    have h4 := Nat.one_mul b
    have h5 : (1 : Nat) ≤ 1000000 := by decide
    have h6 : (List.replicate a c).length = a := List.length_replicate
    have h7 : (List.replicate b !c).length = b := List.length_replicate
    walk_at "vr"
end LW
set_option Elab.async false
set_option linter.all false
set_option maxRecDepth 100000
set_option maxHeartbeats 4000000
namespace LW
open PySem L2 DD VV Row
local macro_rules | `(tactic| walk_at "vr") => `(tactic| simp only [rS_e, rS_w, rS_b, rS_wb, rS_app, rS_len, rS_inj, rS_at, rS_one, rS_cut, rS_signs, rS_mul, one_eq, vBody, vRetD, vSkip, vSeq, vIfS, vRet, vRetN, vRetT, vAsg, vAsgT, vExpr, vParN, setAll, vAug, vSetI, vHere, vStep, vMut, slot, getP, setP, uPut, uAppend, toUO, tN, tT, tsCons, tsNil, vOr, vAnd, vNot, vTru, vTst, vBin, vUn, vOp, vCall0, vCallN, putO, mapO, vCons, vNil, vVar, vC, vTup, vLst, vIf, vChain, vOrV, vAndV, vNotV, vSl, vSlL, vSlF, voN, voS, vDic, vpCons, vpNil, keysU, keyU, vFor, vEn, vIt, vRng1, vRng2, itU, vLc, vYes, vSolid, flat, flats, ofO, ER.bind, ER.bindS, UO.then, uIsi, tyU, knownT, isiB, uCmp, uIs, uIsNot, isNonU, truU, uAdd, uSub, uMul, uDiv, uMod, uPow, uNeg, uIAdd, uCat, uRep, uLen, lenU, uInt, uSlice, uSliceL, uSum, uAll, uAny, uTuple, uMin, uMax, uList, uIx, seqTU, seqU, uEq_int, uNe_int, uEq_str, uNe_str, wipeU, backU, List.getD_cons_zero, List.getD_cons_succ, vNever, List.map_cons, List.map_nil, List.length_cons, List.length_nil, List.length_map, List.length_range, List.replicate, List.append_nil, List.nil_append, List.cons_append, List.set_cons_zero, List.set_cons_succ, List.set_nil, List.getElem?_cons_zero, List.getElem?_cons_succ, List.getElem?_nil, List.take_succ_cons, List.take_zero, Option.map_some, Option.map_none, Option.isSome_some, Option.bind_some, Nat.reduceAdd, Nat.reduceSub, Nat.zero_add, if_true, if_false, Bool.false_eq_true, Bool.not_true, Bool.not_false, decide_true, decide_false, reduceIte, String.reduceBEq, Bool.or_true, Bool.true_or, Bool.or_false, Bool.false_or, Bool.and_true, Bool.and_false, Bool.true_and, Bool.false_and, Bool.and_self, String.reduceBNe, decide_eq_true_eq, reduceCtorEq, and_self, Int.reducePow, Int.reduceNeg, Int.reduceSub, Int.reduceAdd, Int.reduceMul, Int.reduceLT, Int.reduceLE, Int.reduceToNat, Nat.reducePow, Nat.reduceLT, Nat.reduceLeDiff, true_and, and_true, or_true, true_or, false_or, or_false, ne_eq, not_true_eq_false, not_false_eq_true, na10, na2, Sum.inr.injEq, ofS_inj, String.reduceEq, szl, Nat.zero_le, *])
def uO : Option (List Bool) → U
  | none => .non
  | some f => rU f
theorem dots_len {m : Mode} (hm : m.ok) {p e : Nat} (c : Bool) (he : e ≤ 40) : (dots m p e c).length ≤ 80 := by
  cases m with
  | runs a b =>
    have h1 := hm.1
    have h2 := hm.2
    simp only [dots, List.length_append, List.length_replicate]
    omega
  | _ =>
    simp only [dots, List.length_replicate]
    omega
theorem read_loop {l : List Bool} (hl : l.length ≤ 40) (T L : Option U) : ∀ (ms : List Mode) (p : Nat) (c t : Bool) (f : List Bool) (j1 j2 : Option U), (∀ m ∈ ms, m.ok) → p ≤ l.length → (t = false → p = 0) → f.length = p →
    (∃ (p' : Nat) (c' t' : Bool) (f' : List Bool) (j1' j2' : Option U), forV (tN 7) L_read_beside_1 (ms.map uM) [some (rU l), T, L, some (.int (p : Int)), some (rU [c]), some (rU f), some (.bl t), j1, j2] = .nx [some (rU l), T, L, some (.int (p' : Int)), some (rU [c']), some (rU f'), some (.bl t'), j1', j2'] ∧ reads l ms p c t f = if p' = l.length then some f' else none) ∨
    (∃ e, forV (tN 7) L_read_beside_1 (ms.map uM) [some (rU l), T, L, some (.int (p : Int)), some (rU [c]), some (rU f), some (.bl t), j1, j2] = .rt .non e ∧ reads l ms p c t f = none)
  | [], p, c, t, f, j1, j2, _, hp, ht, hf => .inl ⟨p, c, t, f, j1, j2, rfl, rfl⟩
  | m :: ms, p, c, t, f, j1, j2, hm, hp, ht, hf => by
    have hm0 := hm m List.mem_cons_self
    have c3 : l.length ≤ 16777216 := by omega
    by_cases hlt : p < l.length
    · have d := decide_eq_true (show (p : Int) < (l.length : Int) by omega)
      have e1 := after_ok hl m p c t
      cases ha : after l m p c t with
      | none =>
        right
        refine ⟨[some (rU l), T, L, some (.int (p : Int)), some (rU [c]), some (rU f), some (.bl t), some (uM m), some .non], ?_, ?_⟩
        · have hL : L_read_beside_1 [some (rU l), T, L, some (.int (p : Int)), some (rU [c]), some (rU f), some (.bl t), some (uM m), j2] = .rt .non [some (rU l), T, L, some (.int (p : Int)), some (rU [c]), some (rU f), some (.bl t), some (uM m), some .non] := by
            rw [ha, uA] at e1
            unfold L_read_beside_1
            generalize uM m = M at *
            clear ha hl hm hp ht hf hm0 hlt
            walk_at "vr"
          rw [List.map_cons]
          simp only [forV, tN, List.set_cons_zero, List.set_cons_succ, hL]
        · unfold reads
          rw [if_pos hlt, ha]
      | some x =>
        obtain ⟨e, c'⟩ := x
        obtain ⟨h1, h2, h3⟩ := after_end hlt ht ha
        have e2 := dots_ok hm0 (p := p) (e := e) c (by omega) (by omega)
        have e3 := dots_len hm0 (p := p) (e := e) c (by omega)
        have e4 : f.length + (dots m p e c).length ≤ 16777216 := by omega
        have hL : L_read_beside_1 [some (rU l), T, L, some (.int (p : Int)), some (rU [c]), some (rU f), some (.bl t), some (uM m), j2] = .nx [some (rU l), T, L, some (.int (e : Int)), some (rU [c']), some (rU (f ++ dots m p e c)), some (.bl true), some (uM m), some (.tup [.int (e : Int), rU [c']])] := by
          rw [ha, uA] at e1
          have a0 := at_0 (.int (e : Int)) [rU [c']]
          unfold L_read_beside_1
          generalize uM m = M at *
          generalize dots m p e c = D at *
          clear ha hl hm hp ht hf hm0 hlt h1 h2 h3 e3
          walk_at "vr"
        have ih := read_loop hl T L ms e c' true (f ++ dots m p e c) (some (uM m)) (some (.tup [.int (e : Int), rU [c']])) (fun a h => hm a (List.mem_cons_of_mem _ h)) h2 nofun (by rw [List.length_append]; omega)
        have e5 : reads l (m :: ms) p c t f = reads l ms e c' true (f ++ dots m p e c) := by
          rw [reads, if_pos hlt, ha]
        rw [e5, List.map_cons]
        simp only [forV, tN, List.set_cons_zero, List.set_cons_succ, hL]
        exact ih
    · right
      have d := decide_eq_false (show ¬ (p : Int) < (l.length : Int) by omega)
      refine ⟨[some (rU l), T, L, some (.int (p : Int)), some (rU [c]), some (rU f), some (.bl t), some (uM m), some .non], ?_, ?_⟩
      · have hL : L_read_beside_1 [some (rU l), T, L, some (.int (p : Int)), some (rU [c]), some (rU f), some (.bl t), some (uM m), j2] = .rt .non [some (rU l), T, L, some (.int (p : Int)), some (rU [c]), some (rU f), some (.bl t), some (uM m), some .non] := by
          unfold L_read_beside_1
          generalize uM m = M at *
          clear hl hm hp ht hf hm0 hlt
          walk_at "vr"
        rw [List.map_cons]
        simp only [forV, tN, List.set_cons_zero, List.set_cons_succ, hL]
      · unfold reads
        rw [if_neg hlt]
abbrev uT (ms : List Mode) : U := .tup (ms.map uM)
def tagS : Mode → Str
  | .stay _ => Str.ofString "stay"
  | .pass => Str.ofString "pass"
  | .runs _ _ => Str.ofString "runs"
def argS : Mode → List U
  | .stay k => [.int k]
  | .pass => []
  | .runs a b => [.int (a : Int), .int (b : Int)]
theorem uM_eq (m : Mode) : uM m = .tup (.str (tagS m) :: argS m) := by cases m <;> rfl
theorem tagS_ne (m : Mode) : (tagS m = Str.ofString "full") = False := by cases m <;> simp only [tagS, ofS_inj, String.reduceEq]
theorem is_full_ok (ms : List Mode) : v_is_full [uT ms] = .val (.bl false) [] := by
  unfold v_is_full w_is_full
  cases ms with
  | nil => kernel_rfl
  | cons m ms =>
    have c1 : ((0 : Int) < ((ms.length + 1 : Nat) : Int)) := by omega
    have a0 := at_0 (uM m) (ms.map uM)
    have a1 := at_0 (.str (tagS m)) (argS m)
    have a2 := tagS_ne m
    unfold uT
    rw [List.map_cons]
    rw [uM_eq] at a0 ⊢
    generalize argS m = M at *
    generalize tagS m = g at *
    walk_at "vr"
theorem is_mode_ok {m : Mode} (h : m.ok) : v_is_mode [uM m] = .val (.bl true) [] := by
  have n1 : ((1 : Nat) : Int) = 1 := rfl
  have n2 : ((2 : Nat) : Int) = 2 := rfl
  have n3 : ((3 : Nat) : Int) = 3 := rfl
  unfold v_is_mode w_is_mode
  cases m with
  | stay k =>
    have e1 := is_whole_yes h.1 h.2
    have a0 := at_0 (.str "stay") [.int k]
    have a1 := at_1 (.str "stay") (.int k) []
    have a2 : uEq (.tup [.str "stay", .int k]) (.tup []) = some (.bl false) := by kernel_rfl
    unfold uM
    clear h
    walk_at "vr"
  | pass =>
    have a0 := at_0 (.str "pass") []
    have a2 : uEq (.tup [.str "pass"]) (.tup []) = some (.bl false) := by kernel_rfl
    unfold uM
    clear h
    walk_at "vr"
  | runs a b =>
    have h1 := h.1
    have h2 := h.2
    have e1 := is_whole_yes (i := (a : Int)) (lo := 0) (hi := 40) (by omega) (by omega)
    have e2 := is_whole_yes (i := (b : Int)) (lo := 0) (hi := 40) (by omega) (by omega)
    have a0 := at_0 (.str "runs") [.int (a : Int), .int (b : Int)]
    have a1 := at_1 (.str "runs") (.int (a : Int)) [.int (b : Int)]
    have a2 := at_2 (.str "runs") (.int (a : Int)) (.int (b : Int)) []
    have a3 : uEq (.tup [.str "runs", .int (a : Int), .int (b : Int)]) (.tup []) = some (.bl false) := by kernel_rfl
    unfold uM
    clear h h1 h2
    walk_at "vr"
theorem in_tags (a b : Mode) : uIn (.str "full") (.tup [.str (tagS a), .str (tagS b)]) = some (.bl false) := by cases a <;> cases b <;> kernel_rfl
theorem need_telling_ok {ms : List Mode} (h : ∀ m ∈ ms, m.ok) (hl : ms.length ≤ 80) : v_need_telling [uT ms] = .val (uT ms) [] := by
  have c2 : ¬ (80 : Int) < (ms.length : Int) := by omega
  obtain ⟨j, z⟩ := forV_fold (t := tT 2 (tsCons (tN 1) (tsCons (tN 2) tsNil))) (b := L_need_telling_1) (fun p : Mode × Nat => U.tup [.int (p.2 : Nat), uM p.1]) (fun (_ : Unit) (j : Option U × Option U) => [some (uT ms), j.1, j.2]) (fun s _ => s) (ms.zipIdx 0) () (none, none) fun pre p post e j => by
    have hp : p ∈ ms.zipIdx 0 := by rw [e]; exact List.mem_append_right _ List.mem_cons_self
    have px := is_mode_ok (h p.1 (List.fst_mem_of_mem_zipIdx hp))
    refine ⟨[some (uT ms), some (.int (p.2 : Nat)), some (uM p.1)], (some (.int (p.2 : Nat)), some (uM p.1)), rfl, .inl ?_⟩
    unfold L_need_telling_1
    cases ms with
    | nil => cases hp
    | cons m0 ms =>
      have a0 := at_0 (uM m0) (ms.map uM)
      have a1 := at_0 (.str (tagS m0)) (argS m0)
      have a2 := at_0 (.str (tagS p.1)) (argS p.1)
      have a3 := in_tags p.1 m0
      clear e hp h hl c2
      unfold uT
      rw [List.map_cons]
      rw [uM_eq m0] at a0 ⊢
      rw [uM_eq p.1] at px ⊢
      generalize argS m0 = M at *
      generalize argS p.1 = N at *
      generalize tagS m0 = g at *
      generalize tagS p.1 = k at *
      by_cases q : (0 : Int) < (p.2 : Int)
      · have d := decide_eq_true q
        clear q
        walk_at "vr"
      · have d := decide_eq_false q
        clear q
        walk_at "vr"
  have e2 := enumU_map uM ms 0
  rw [← e2] at z
  unfold v_need_telling w_need_telling
  have d := decide_eq_false c2
  clear e2 hl h c2
  walk_at "vr"
theorem beside_ok {l : List Bool} (hl : l.length ≤ 40) {ms : List Mode} (h : ∀ m ∈ ms, m.ok) : v_read_beside [rU l, uT ms] = .val (uO (read l ms)) [] := by
  have e1 := is_full_ok ms
  have c3 : l.length ≤ 16777216 := by omega
  unfold v_read_beside w_read_beside Row.read
  rcases read_loop hl (some (uT ms)) none ms 0 false false [] none none h (Nat.zero_le _) (fun _ => rfl) rfl with ⟨p', c', t', f', j1, j2, z, r⟩ | ⟨e, z, r⟩
  · rw [r]
    have z0 : (((0 : Nat) : Int)) = 0 := rfl
    rw [z0] at z
    by_cases q : p' = l.length
    · have d := decide_eq_true (show (p' : Int) = (l.length : Int) by omega)
      rw [if_pos q, uO]
      clear r q hl h z0
      walk_at "vr"
    · have d := decide_eq_false (show ¬ (p' : Int) = (l.length : Int) by omega)
      rw [if_neg q, uO]
      clear r q hl h z0
      walk_at "vr"
  · rw [r, uO]
    have z0 : (((0 : Nat) : Int)) = 0 := rfl
    rw [z0] at z
    clear r hl h z0
    walk_at "vr"
theorem read_line_ok {l : List Bool} (h1 : 1 ≤ l.length) (hl : l.length ≤ 40) {ms : List Mode} (h : ∀ m ∈ ms, m.ok) (hm : ms.length ≤ 80) : v_read_line [rU l, uT ms] = .val (uO (read l ms)) [] := by
  have e1 := need_line_ok h1 hl
  have e2 := need_telling_ok h hm
  have e3 := beside_ok hl h
  unfold v_read_line w_read_line
  generalize uO (Row.read l ms) = R at *
  clear h1 hl h hm
  unfold uT at *
  walk_at "vr"
end LW
set_option Elab.async false
set_option linter.all false
set_option maxRecDepth 100000
set_option maxHeartbeats 4000000
namespace LW
open PySem L2 DD VV Row
local macro_rules | `(tactic| walk_at "vr") => `(tactic| simp only [rS_e, rS_w, rS_b, rS_wb, rS_app, rS_len, rS_inj, rS_at, rS_one, rS_cut, rS_signs, rS_mul, one_eq, vBody, vRetD, vSkip, vSeq, vIfS, vRet, vRetN, vRetT, vAsg, vAsgT, vExpr, vParN, setAll, vAug, vSetI, vHere, vStep, vMut, slot, getP, setP, uPut, uAppend, toUO, tN, tT, tsCons, tsNil, vOr, vAnd, vNot, vTru, vTst, vBin, vUn, vOp, vCall0, vCallN, putO, mapO, vCons, vNil, vVar, vC, vTup, vLst, vIf, vChain, vOrV, vAndV, vNotV, vSl, vSlL, vSlF, voN, voS, vDic, vpCons, vpNil, keysU, keyU, vFor, vEn, vIt, vRng1, vRng2, itU, vLc, vYes, vSolid, flat, flats, ofO, ER.bind, ER.bindS, UO.then, uIsi, tyU, knownT, isiB, uCmp, uIs, uIsNot, isNonU, truU, uAdd, uSub, uMul, uDiv, uMod, uPow, uNeg, uIAdd, uCat, uRep, uLen, lenU, uInt, uSlice, uSliceL, uSum, uAll, uAny, uTuple, uMin, uMax, uList, uIx, seqTU, seqU, uEq_int, uNe_int, uEq_str, uNe_str, wipeU, backU, List.getD_cons_zero, List.getD_cons_succ, vNever, List.map_cons, List.map_nil, List.length_cons, List.length_nil, List.length_map, List.length_range, List.replicate, List.append_nil, List.nil_append, List.cons_append, List.set_cons_zero, List.set_cons_succ, List.set_nil, List.getElem?_cons_zero, List.getElem?_cons_succ, List.getElem?_nil, List.take_succ_cons, List.take_zero, Option.map_some, Option.map_none, Option.isSome_some, Option.bind_some, Nat.reduceAdd, Nat.reduceSub, Nat.zero_add, if_true, if_false, Bool.false_eq_true, Bool.not_true, Bool.not_false, decide_true, decide_false, reduceIte, String.reduceBEq, Bool.or_true, Bool.true_or, Bool.or_false, Bool.false_or, Bool.and_true, Bool.and_false, Bool.true_and, Bool.false_and, Bool.and_self, String.reduceBNe, decide_eq_true_eq, reduceCtorEq, and_self, Int.reducePow, Int.reduceNeg, Int.reduceSub, Int.reduceAdd, Int.reduceMul, Int.reduceLT, Int.reduceLE, Int.reduceToNat, Nat.reducePow, Nat.reduceLT, Nat.reduceLeDiff, true_and, and_true, or_true, true_or, false_or, or_false, ne_eq, not_true_eq_false, not_false_eq_true, na10, na2, Sum.inr.injEq, ofS_inj, String.reduceEq, szl, Nat.zero_le, *])
theorem at_ahead {l : List Bool} {h : Nat} (hh : h < l.length) : atI (false :: l) (h : Int) = some (ahead l h) := by
  rw [VV.atI_nat]
  cases h with
  | zero => rfl
  | succ h =>
    rw [List.getElem?_cons_succ, List.getElem?_eq_getElem (by omega)]
    unfold ahead
    rw [if_neg (by omega), Nat.add_sub_cancel, List.getD_eq_getElem?_getD, List.getElem?_eq_getElem (by omega)]
    rfl
theorem comp1 {l : List Bool} (hl : l.length ≤ 40) (a : Nat) (c : Bool) (p t : Option U) : lcV (tN 10) C_law_changes_1 X_law_changes_1 [10] (rangeU (a : Int) (l.length - a)) [] [some (rU l), p, some (rU [c]), t, some (.int (a : Int)), some (.int (l.length : Int)), some (rU (false :: l)), none, none, none, none] = .val (((List.range (l.length - a)).filter fun i => decide (ahead l (a + i) = c)).map fun i : Nat => U.int ((a + i : Nat) : Int)) [some (rU l), p, some (rU [c]), t, some (.int (a : Int)), some (.int (l.length : Int)), some (rU (false :: l)), none, none, none, none] := by
  rw [rangeU_nat, ← List.nil_append (List.map _ (List.filter _ _))]
  refine lcV_filter _ _ _ _ _ (fun x hx => ?_) (by rw [List.length_nil, List.length_range, szl]; omega)
  rw [List.mem_range] at hx
  have e1 := at_ahead (l := l) (h := a + x) (by omega)
  refine ⟨[some (rU l), p, some (rU [c]), t, some (.int (a : Int)), some (.int (l.length : Int)), some (rU (false :: l)), none, none, none, some (.int ((a + x : Nat) : Int))], [some (rU l), p, some (rU [c]), t, some (.int (a : Int)), some (.int (l.length : Int)), some (rU (false :: l)), none, none, none, some (.int ((a + x : Nat) : Int))], rfl, ?_, fun _ => ⟨_, rfl, rfl⟩, fun _ => rfl⟩
  have c3 : l.length + 1 ≤ 16777216 := by omega
  unfold C_law_changes_1
  generalize ahead l (a + x) = y at *
  generalize a + x = h at *
  clear hl hx
  cases y <;> cases c <;> walk_at "vr"
theorem comp2 {l : List Bool} (hl : l.length ≤ 40) (a : Nat) (c : Bool) (p t f s : Option U) (xs : List Nat) (hx : ∀ x ∈ xs, x < l.length - a) (hxl : xs.length ≤ 40) : lcV (tN 10) C_law_changes_2 X_law_changes_2 [10] (xs.map fun i : Nat => U.int ((a + i : Nat) : Int)) [] [some (rU l), p, some (rU [c]), t, f, some (.int (l.length : Int)), some (rU (false :: l)), s, none, none, none] = .val ((xs.filter fun i => !decide (l.getD (a + i) false = c)).map fun i : Nat => U.int ((a + i : Nat) : Int)) [some (rU l), p, some (rU [c]), t, f, some (.int (l.length : Int)), some (rU (false :: l)), s, none, none, none] := by
  rw [← List.nil_append (List.map _ (List.filter _ _))]
  refine lcV_filter _ _ _ _ _ (fun x h => ?_) (by rw [List.length_nil, szl]; omega)
  have hx := hx x h
  have e1 := at_nat (l := l) (h := a + x) (by omega)
  refine ⟨[some (rU l), p, some (rU [c]), t, f, some (.int (l.length : Int)), some (rU (false :: l)), s, none, none, some (.int ((a + x : Nat) : Int))], [some (rU l), p, some (rU [c]), t, f, some (.int (l.length : Int)), some (rU (false :: l)), s, none, none, some (.int ((a + x : Nat) : Int))], rfl, ?_, fun _ => ⟨_, rfl, rfl⟩, fun _ => rfl⟩
  have c3 : l.length ≤ 16777216 := by omega
  unfold C_law_changes_2
  generalize l.getD (a + x) false = y at *
  generalize a + x = h at *
  clear hl hx
  cases y <;> cases c <;> walk_at "vr"
theorem comp3 {l : List Bool} (hl : l.length ≤ 40) (a : Nat) (c : Bool) (p t f s g : Option U) : lcV (tN 10) C_law_changes_3 X_law_changes_3 [10] (rangeU (a : Int) (l.length - a)) [] [some (rU l), p, some (rU [c]), t, f, some (.int (l.length : Int)), some (rU (false :: l)), s, g, none, none] = .val (((List.range (l.length - a)).filter fun i => decide (l.getD (a + i) false = c)).map fun i : Nat => U.int ((a + i : Nat) : Int)) [some (rU l), p, some (rU [c]), t, f, some (.int (l.length : Int)), some (rU (false :: l)), s, g, none, none] := by
  rw [rangeU_nat, ← List.nil_append (List.map _ (List.filter _ _))]
  refine lcV_filter _ _ _ _ _ (fun x hx => ?_) (by rw [List.length_nil, List.length_range, szl]; omega)
  rw [List.mem_range] at hx
  have e1 := at_nat (l := l) (h := a + x) (by omega)
  refine ⟨[some (rU l), p, some (rU [c]), t, f, some (.int (l.length : Int)), some (rU (false :: l)), s, g, none, some (.int ((a + x : Nat) : Int))], [some (rU l), p, some (rU [c]), t, f, some (.int (l.length : Int)), some (rU (false :: l)), s, g, none, some (.int ((a + x : Nat) : Int))], rfl, ?_, fun _ => ⟨_, rfl, rfl⟩, fun _ => rfl⟩
  have c3 : l.length ≤ 16777216 := by omega
  unfold C_law_changes_3
  generalize l.getD (a + x) false = y at *
  generalize a + x = h at *
  clear hl hx
  cases y <;> cases c <;> walk_at "vr"
theorem first_at {α : Type} (q : α → Bool) (g : α → U) (u : U) : ∀ xs : List α, atI ((xs.filter q).map g ++ [u]) 0 = some (((xs.find? q).map g).getD u)
  | [] => at_0 _ _
  | x :: xs => by
    rw [List.find?_cons]
    cases h : q x with
    | true =>
      rw [List.filter_cons_of_pos h, List.map_cons, List.cons_append]
      exact at_0 _ _
    | false =>
      rw [List.filter_cons_of_neg (by rw [h]; exact Bool.false_ne_true)]
      exact first_at q g u xs
theorem first_int (q : Nat → Bool) (a n : Nat) : atI ((((List.range (n - a)).filter fun i => q (a + i)).map fun i : Nat => U.int ((a + i : Nat) : Int)) ++ [.int (n : Int)]) 0 = some (.int ((firstFrom q a n : Nat) : Int)) := by
  rw [first_at]
  unfold firstFrom
  cases (List.range (n - a)).find? fun i => q (a + i) <;> rfl
theorem law_changes_ok {l : List Bool} (hl : l.length ≤ 40) (p : Nat) (c t : Bool) (ht : t = false → p = 0) : v_law_changes [rU l, .int (p : Int), rU [c], .bl t] = .val (.tup [.int ((chg l p c t : Nat) : Int), .int ((bck l (chg l p c t) c : Nat) : Int)]) [] := by
  have hch : chg l p c t = firstFrom (turnAt l c) (if t = true then p + 1 else 0) l.length := by
    unfold chg
    cases t with
    | true => rfl
    | false => rw [ht rfl]
  generalize hc : chg l p c t = ch at *
  generalize ha : (if t = true then p + 1 else 0) = a at *
  have e1 := comp1 hl a c (some (.int (p : Int))) (some (.bl t))
  have e2 := comp2 hl a c (some (.int (p : Int))) (some (.bl t)) (some (.int (a : Int))) (some (.lst (((List.range (l.length - a)).filter fun i => decide (ahead l (a + i) = c)).map fun i : Nat => U.int ((a + i : Nat) : Int)))) ((List.range (l.length - a)).filter fun i => decide (ahead l (a + i) = c)) (fun x hx => List.mem_range.mp (List.mem_filter.mp hx).1) (Nat.le_trans (List.length_filter_le _ _) (by rw [List.length_range]; omega))
  have e3 : (((List.range (l.length - a)).filter fun i => decide (ahead l (a + i) = c)).filter fun i => !decide (l.getD (a + i) false = c)) = (List.range (l.length - a)).filter fun i => turnAt l c (a + i) := by
    rw [List.filter_filter]
    congr 1
    funext i
    unfold turnAt
    rw [Bool.and_comm]
  rw [e3] at e2
  have e4 := first_int (turnAt l c) a l.length
  rw [← hch] at e4
  have e5 := comp3 hl (ch + 1) c (some (.int (p : Int))) (some (.bl t)) (some (.int (a : Int))) (some (.lst (((List.range (l.length - a)).filter fun i => turnAt l c (a + i)).map fun i : Nat => U.int ((a + i : Nat) : Int)))) (some (.int (ch : Int)))
  have e6 := first_int (fun h => decide (l.getD h false = c)) (ch + 1) l.length
  change _ = some (U.int ((bck l ch c : Nat) : Int)) at e6
  have n1 : (ch : Int) + 1 = ((ch + 1 : Nat) : Int) := by omega
  have n2 : ∀ b : Nat, ((l.length : Int) - (b : Int)).toNat = l.length - b := fun b => by omega
  have n3 : vIf (vTru (vVar 3)) (vBin uAdd (vVar 1) (vC (.int 1))) (vC (.int 0)) [some (rU l), some (.int (p : Int)), some (rU [c]), some (.bl t), none, none, none, none, none, none, none] = .val (.int (a : Int)) [some (rU l), some (.int (p : Int)), some (rU [c]), some (.bl t), none, none, none, none, none, none, none] := by
    cases t with
    | true =>
      rw [if_pos rfl] at ha
      have : (p : Int) + 1 = (a : Int) := by omega
      clear e1 e2 e3 e4 e5 e6 n1 n2 ha hc hch ht
      walk_at "vr"
    | false =>
      rw [if_neg Bool.false_ne_true] at ha
      subst ha
      have n0 : ((0 : Nat) : Int) = 0 := rfl
      rw [n0]
      clear e1 e2 e3 e4 e5 e6 n1 n2 hc hch ht n0
      walk_at "vr"
  generalize hX1 : (((List.range (l.length - a)).filter fun i => decide (ahead l (a + i) = c)).map fun i : Nat => U.int ((a + i : Nat) : Int)) = X1 at *
  generalize hX2 : (((List.range (l.length - a)).filter fun i => turnAt l c (a + i)).map fun i : Nat => U.int ((a + i : Nat) : Int)) = X2 at *
  generalize hX3 : (((List.range (l.length - (ch + 1))).filter fun i => decide (l.getD (ch + 1 + i) false = c)).map fun i : Nat => U.int ((ch + 1 + i : Nat) : Int)) = X3 at *
  have m2 : X2.length + 1 ≤ 16777216 := by
    rw [← hX2, List.length_map]
    have := List.length_filter_le (fun i => turnAt l c (a + i)) (List.range (l.length - a))
    rw [List.length_range] at this
    omega
  have m3 : X3.length + 1 ≤ 16777216 := by
    rw [← hX3, List.length_map]
    have := List.length_filter_le (fun i => decide (l.getD (ch + 1 + i) false = c)) (List.range (l.length - (ch + 1)))
    rw [List.length_range] at this
    omega
  have c3 : 1 + l.length ≤ 16777216 := by omega
  have c4 : l.length ≤ 16777216 := by omega
  clear hX1 hX2 hX3 hch hc ha e3 hl ht
  unfold v_law_changes w_law_changes
  generalize vIf (vTru (vVar 3)) (vBin uAdd (vVar 1) (vC (.int 1))) (vC (.int 0)) = G at *
  walk_at "vr"
end LW
set_option Elab.async false
set_option linter.all false
set_option maxRecDepth 100000
set_option maxHeartbeats 4000000
namespace LW
open PySem L2 DD VV Row
local macro_rules | `(tactic| walk_at "vr") => `(tactic| simp only [rS_e, rS_w, rS_b, rS_wb, rS_app, rS_len, rS_inj, rS_at, rS_one, rS_cut, rS_signs, rS_mul, one_eq, vBody, vRetD, vSkip, vSeq, vIfS, vRet, vRetN, vRetT, vAsg, vAsgT, vExpr, vParN, setAll, vAug, vSetI, vHere, vStep, vMut, slot, getP, setP, uPut, uAppend, toUO, tN, tT, tsCons, tsNil, vOr, vAnd, vNot, vTru, vTst, vBin, vUn, vOp, vCall0, vCallN, putO, mapO, vCons, vNil, vVar, vC, vTup, vLst, vIf, vChain, vOrV, vAndV, vNotV, vSl, vSlL, vSlF, voN, voS, vDic, vpCons, vpNil, keysU, keyU, vFor, vEn, vIt, vRng1, vRng2, itU, vLc, vYes, vSolid, flat, flats, ofO, ER.bind, ER.bindS, UO.then, uIsi, tyU, knownT, isiB, uCmp, uIs, uIsNot, isNonU, truU, uAdd, uSub, uMul, uDiv, uMod, uPow, uNeg, uIAdd, uCat, uRep, uLen, lenU, uInt, uSlice, uSliceL, uSum, uAll, uAny, uTuple, uMin, uMax, uList, uIx, seqTU, seqU, uEq_int, uNe_int, uEq_str, uNe_str, wipeU, backU, List.getD_cons_zero, List.getD_cons_succ, vNever, List.map_cons, List.map_nil, List.length_cons, List.length_nil, List.length_map, List.length_range, List.replicate, List.append_nil, List.nil_append, List.cons_append, List.set_cons_zero, List.set_cons_succ, List.set_nil, List.getElem?_cons_zero, List.getElem?_cons_succ, List.getElem?_nil, List.take_succ_cons, List.take_zero, Option.map_some, Option.map_none, Option.isSome_some, Option.bind_some, Nat.reduceAdd, Nat.reduceSub, Nat.zero_add, if_true, if_false, Bool.false_eq_true, Bool.not_true, Bool.not_false, decide_true, decide_false, reduceIte, String.reduceBEq, Bool.or_true, Bool.true_or, Bool.or_false, Bool.false_or, Bool.and_true, Bool.and_false, Bool.true_and, Bool.false_and, Bool.and_self, String.reduceBNe, decide_eq_true_eq, reduceCtorEq, and_self, Int.reducePow, Int.reduceNeg, Int.reduceSub, Int.reduceAdd, Int.reduceMul, Int.reduceLT, Int.reduceLE, Int.reduceToNat, Nat.reducePow, Nat.reduceLT, Nat.reduceLeDiff, true_and, and_true, or_true, true_or, false_or, or_false, ne_eq, not_true_eq_false, not_false_eq_true, na10, na2, Sum.inr.injEq, ofS_inj, String.reduceEq, szl, Nat.zero_le, *])
def uD : Option (List Bool × Bool) → U
  | none => .non
  | some x => .tup [rU x.1, rU [x.2]]
theorem law_other_ok (c : Bool) : v_law_other [rU [c]] = .val (rU [!c]) [] := by cases c <;> kernel_rfl
theorem done_stay {l : List Bool} (hl : l.length ≤ 40) (k : Int) (hk : -3 ≤ k ∧ k ≤ 3) (p : Nat) (hp : p ≤ 40) (c t : Bool) (ht : t = false → p = 0) : v_law_done [rU l, uM (.stay k), .int (p : Int), rU [c], .bl t] = .val (uD (done l (.stay k) p c t)) [] := by
  have c3 : l.length ≤ 16777216 := by omega
  have a0 := at_0 (.str "stay") [.int k]
  have a1 := at_1 (.str "stay") (.int k) []
  have e1 := law_changes_ok hl p c t ht
  have e2 := law_other_ok c
  have hc : chg l p c t ≤ l.length := firstFrom_le _ _ _
  unfold v_law_done w_law_done uM done after dots
  simp only
  generalize chg l p c t = h at *
  generalize bck l h c = w at *
  generalize hg : (h : Int) + k = g at *
  by_cases q1 : (l.length : Int) < g
  · rw [if_pos (.inl q1), Option.map_none, uD]
    have d1 := decide_eq_true q1
    clear hl q1 hk hp ht hc
    walk_at "vr"
  · have d1 := decide_eq_false q1
    by_cases q2 : g < 0
    · rw [if_pos (.inr (.inl q2)), Option.map_none, uD]
      have d2 := decide_eq_true q2
      clear hl q1 q2 hk hp ht hc
      walk_at "vr"
    · have d2 := decide_eq_false q2
      by_cases q3 : g ≤ (p : Int) ∧ t = true
      · rw [if_pos (.inr (.inr q3)), Option.map_none, uD]
        obtain ⟨q3, rfl⟩ := q3
        have d3 := decide_eq_true q3
        clear hl q1 q2 q3 hk hp ht hc
        walk_at "vr"
      · rw [if_neg (by
          rintro (h | h | h)
          · exact q1 h
          · exact q2 h
          · exact q3 h), Option.map_some, uD]
        have d6 : (t && decide (g ≤ (p : Int))) = false := by
          cases t with
          | false => simp
          | true =>
            rw [Bool.true_and]
            exact decide_eq_false (fun z => q3 ⟨z, rfl⟩)
        have e5 := uMul_r c (g - (p : Int)) (by omega) (by omega)
        rw [show (g - (p : Int)).toNat = g.toNat - p by omega] at e5
        have b1 : g - (p : Int) ≤ 1000000 := by omega
        have b2 : -1000000 ≤ g - (p : Int) := by omega
        have b3 : (g - (p : Int)).toNat = g.toNat - p := by omega
        have b4 : (1 : Nat) ≤ 1000000 := by decide
        have b5 : 1 * (g.toNat - p) ≤ 16777216 := by omega
        clear hl q1 q2 q3 hk hp ht hc e5
        generalize hx : decide (g ≤ (p : Int)) = x at *
        generalize hy : g - (p : Int) = y at *
        generalize g.toNat - p = z at *
        cases x <;> cases t <;> (try cases d6) <;> walk_at "vr"
theorem done_pass {l : List Bool} (hl : l.length ≤ 40) (p : Nat) (hp : p ≤ 40) (c t : Bool) (ht : t = false → p = 0) : v_law_done [rU l, uM .pass, .int (p : Int), rU [c], .bl t] = .val (uD (done l .pass p c t)) [] := by
  have c3 : l.length ≤ 16777216 := by omega
  have a0 := at_0 (.str "pass") []
  have e1 := law_changes_ok hl p c t ht
  have hc : bck l (chg l p c t) c ≤ l.length := firstFrom_le _ _ _
  unfold v_law_done w_law_done uM done after dots
  simp only
  generalize chg l p c t = h at *
  generalize bck l h c = w at *
  by_cases q : h < l.length
  · rw [if_pos q, Option.map_some, uD]
    have d := decide_eq_true (show (h : Int) < (l.length : Int) by omega)
    have b1 : (w : Int) - (p : Int) ≤ 1000000 := by omega
    have b2 : -1000000 ≤ (w : Int) - (p : Int) := by omega
    have b3 : ((w : Int) - (p : Int)).toNat = w - p := by omega
    have b4 : (1 : Nat) ≤ 1000000 := by decide
    have b5 : 1 * (w - p) ≤ 16777216 := by omega
    clear hl q hp ht hc
    generalize hy : (w : Int) - (p : Int) = y at *
    generalize w - p = z at *
    walk_at "vr"
  · rw [if_neg q, Option.map_none, uD]
    have d := decide_eq_false (show ¬ (h : Int) < (l.length : Int) by omega)
    clear hl q hp ht hc
    walk_at "vr"
theorem cut_1 (a b c : U) : cutA [a, b, c] (some 1) none = [b, c] := by
  rw [cut_drop _ _ (by decide)]
  rfl
theorem done_runs {l : List Bool} (hl : l.length ≤ 40) (a b : Nat) (hk : a ≤ 40 ∧ b ≤ 40) (p : Nat) (hp : p ≤ 40) (c t : Bool) (ht : t = false → p = 0) : v_law_done [rU l, uM (.runs a b), .int (p : Int), rU [c], .bl t] = .val (uD (done l (.runs a b) p c t)) [] := by
  have c3 : l.length ≤ 16777216 := by omega
  have a0 := at_0 (.str "runs") [.int (a : Int), .int (b : Int)]
  have a1 := cut_1 (.str "runs") (.int (a : Int)) (.int (b : Int))
  have e1 := law_changes_ok hl p c t ht
  have e2 := law_other_ok c
  unfold v_law_done w_law_done uM done after dots
  simp only
  generalize chg l p c t = h at *
  generalize bck l h c = w at *
  by_cases q2 : a = 0 ∧ t = true
  · rw [if_pos (.inr (.inl q2)), Option.map_none, uD]
    obtain ⟨q2, rfl⟩ := q2
    have d2 := decide_eq_true (show (a : Int) = 0 by omega)
    clear hl hk hp ht q2
    walk_at "vr"
  · have d6 : (decide ((a : Int) = 0) && t) = false := by
      cases t with
      | false => simp
      | true =>
        rw [Bool.and_true]
        exact decide_eq_false (fun z => q2 ⟨by omega, rfl⟩)
    by_cases q1 : (l.length : Int) < (p : Int) + (a : Int) + (b : Int)
    · rw [if_pos (.inl (by omega)), Option.map_none, uD]
      have d1 := decide_eq_true q1
      clear hl hk hp ht q1 q2
      generalize hx : decide ((a : Int) = 0) = x at *
      cases x <;> cases t <;> (try cases d6) <;> walk_at "vr"
    · have d1 := decide_eq_false q1
      by_cases q3 : b = 0 ∧ p + a < l.length
      · rw [if_pos (.inr (.inr q3)), Option.map_none, uD]
        have d3 : decide ((b : Int) = 0) = true := decide_eq_true (by omega)
        have d4 : decide ((p : Int) + (a : Int) = (l.length : Int)) = false := decide_eq_false (by omega)
        clear hl hk hp ht q1 q2 q3
        generalize hx : decide ((a : Int) = 0) = x at *
        cases x <;> cases t <;> (try cases d6) <;> walk_at "vr"
      · rw [if_neg (by
          rintro (h | h | h)
          · omega
          · exact q2 h
          · exact q3 h), Option.map_some, uD]
        have d7 : (decide ((b : Int) = 0) && !decide ((p : Int) + (a : Int) = (l.length : Int))) = false := by
          by_cases z : b = 0
          · have : (p : Int) + (a : Int) = (l.length : Int) := by
              have : ¬ p + a < l.length := fun y => q3 ⟨z, y⟩
              omega
            rw [decide_eq_true this]
            simp
          · rw [decide_eq_false (show ¬ (b : Int) = 0 by omega)]
            rfl
        have b1 : (a : Int) ≤ 1000000 ∧ -1000000 ≤ (a : Int) ∧ (b : Int) ≤ 1000000 ∧ -1000000 ≤ (b : Int) ∧ a + b ≤ 16777216 ∧ 1 * a ≤ 16777216 ∧ 1 * b ≤ 16777216 := by omega
        have h1 : ((a : Nat) : Int).toNat = a := rfl
        have h2 : ((b : Nat) : Int).toNat = b := rfl
        have h5 : (1 : Nat) ≤ 1000000 := by decide
        have h6 : (List.replicate a c).length = a := List.length_replicate
        have h7 : (List.replicate b !c).length = b := List.length_replicate
        clear hl hk hp ht q1 q2 q3
        generalize hx : decide ((a : Int) = 0) = x at *
        generalize hy : decide ((b : Int) = 0) = y at *
        generalize hz : decide ((p : Int) + (a : Int) = (l.length : Int)) = z at *
        cases x <;> cases t <;> (try cases d6) <;> cases y <;> cases z <;> (try cases d7) <;> walk_at "vr"
theorem law_done_ok {l : List Bool} (hl : l.length ≤ 40) {m : Mode} (hm : m.ok) (p : Nat) (hp : p ≤ 40) (c t : Bool) (ht : t = false → p = 0) : v_law_done [rU l, uM m, .int (p : Int), rU [c], .bl t] = .val (uD (done l m p c t)) [] := by
  cases m with
  | stay k => exact done_stay hl k hm p hp c t ht
  | pass => exact done_pass hl p hp c t ht
  | runs a b => exact done_runs hl a b hm p hp c t ht
end LW
set_option Elab.async false
set_option linter.all false
set_option maxRecDepth 100000
set_option maxHeartbeats 4000000
namespace LW
open PySem L2 DD VV Row
local macro_rules | `(tactic| walk_at "vr") => `(tactic| simp only [rS_e, rS_w, rS_b, rS_wb, rS_app, rS_len, rS_inj, rS_at, rS_one, rS_cut, rS_signs, rS_mul, one_eq, vBody, vRetD, vSkip, vSeq, vIfS, vRet, vRetN, vRetT, vAsg, vAsgT, vExpr, vParN, setAll, vAug, vSetI, vHere, vStep, vMut, slot, getP, setP, uPut, uAppend, toUO, tN, tT, tsCons, tsNil, vOr, vAnd, vNot, vTru, vTst, vBin, vUn, vOp, vCall0, vCallN, putO, mapO, vCons, vNil, vVar, vC, vTup, vLst, vIf, vChain, vOrV, vAndV, vNotV, vSl, vSlL, vSlF, voN, voS, vDic, vpCons, vpNil, keysU, keyU, vFor, vEn, vIt, vRng1, vRng2, itU, vLc, vYes, vSolid, flat, flats, ofO, ER.bind, ER.bindS, UO.then, uIsi, tyU, knownT, isiB, uCmp, uIs, uIsNot, isNonU, truU, uAdd, uSub, uMul, uDiv, uMod, uPow, uNeg, uIAdd, uCat, uRep, uLen, lenU, uInt, uSlice, uSliceL, uSum, uAll, uAny, uTuple, uMin, uMax, uList, uIx, seqTU, seqU, uEq_int, uNe_int, uEq_str, uNe_str, wipeU, backU, List.getD_cons_zero, List.getD_cons_succ, vNever, List.map_cons, List.map_nil, List.length_cons, List.length_nil, List.length_map, List.length_range, List.replicate, List.append_nil, List.nil_append, List.cons_append, List.set_cons_zero, List.set_cons_succ, List.set_nil, List.getElem?_cons_zero, List.getElem?_cons_succ, List.getElem?_nil, List.take_succ_cons, List.take_zero, Option.map_some, Option.map_none, Option.isSome_some, Option.bind_some, Nat.reduceAdd, Nat.reduceSub, Nat.zero_add, if_true, if_false, Bool.false_eq_true, Bool.not_true, Bool.not_false, decide_true, decide_false, reduceIte, String.reduceBEq, Bool.or_true, Bool.true_or, Bool.or_false, Bool.false_or, Bool.and_true, Bool.and_false, Bool.true_and, Bool.false_and, Bool.and_self, String.reduceBNe, decide_eq_true_eq, reduceCtorEq, and_self, Int.reducePow, Int.reduceNeg, Int.reduceSub, Int.reduceAdd, Int.reduceMul, Int.reduceLT, Int.reduceLE, Int.reduceToNat, Nat.reducePow, Nat.reduceLT, Nat.reduceLeDiff, true_and, and_true, or_true, true_or, false_or, or_false, ne_eq, not_true_eq_false, not_false_eq_true, na10, na2, Sum.inr.injEq, ofS_inj, String.reduceEq, szl, Nat.zero_le, *])
theorem lread_loop {l : List Bool} (hl : l.length ≤ 40) (T : Option U) : ∀ (ms : List Mode) (p : Nat) (c t : Bool) (f : List Bool) (j1 j2 : Option U), (∀ m ∈ ms, m.ok) → p ≤ l.length → (t = false → p = 0) → f.length = p →
    (∃ (c' t' : Bool) (f' : List Bool) (j1' j2' : Option U), f'.length ≤ l.length ∧ forV (tN 5) L_law_read_2 (ms.map uM) [some (rU l), T, some (rU f), some (rU [c]), some (.bl t), j1, j2, none, none] = .nx [some (rU l), T, some (rU f'), some (rU [c']), some (.bl t'), j1', j2', none, none] ∧ reads l ms p c t f = if f'.length = l.length then some f' else none) ∨
    (∃ e, forV (tN 5) L_law_read_2 (ms.map uM) [some (rU l), T, some (rU f), some (rU [c]), some (.bl t), j1, j2, none, none] = .rt .non e ∧ reads l ms p c t f = none)
  | [], p, c, t, f, j1, j2, _, hp, ht, hf => .inl ⟨c, t, f, j1, j2, by omega, rfl, by rw [reads, hf]⟩
  | m :: ms, p, c, t, f, j1, j2, hm, hp, ht, hf => by
    have hm0 := hm m List.mem_cons_self
    have c3 : l.length ≤ 16777216 := by omega
    have c4 : f.length ≤ 16777216 := by omega
    by_cases hlt : p < l.length
    · have d := decide_eq_false (show ¬ (l.length : Int) ≤ (f.length : Int) by omega)
      have e1 := law_done_ok hl hm0 p (by omega) c t ht
      rw [← hf] at e1
      cases ha : after l m p c t with
      | none =>
        right
        refine ⟨[some (rU l), T, some (rU f), some (rU [c]), some (.bl t), some (uM m), some .non, none, none], ?_, ?_⟩
        · have hL : L_law_read_2 [some (rU l), T, some (rU f), some (rU [c]), some (.bl t), some (uM m), j2, none, none] = .rt .non [some (rU l), T, some (rU f), some (rU [c]), some (.bl t), some (uM m), some .non, none, none] := by
            rw [hf, done, ha, Option.map_none, uD] at e1
            rw [← hf] at e1
            unfold L_law_read_2
            generalize uM m = M at *
            clear ha hl hm hp ht hf hm0 hlt
            walk_at "vr"
          rw [List.map_cons]
          simp only [forV, tN, List.set_cons_zero, List.set_cons_succ, hL]
        · unfold reads
          rw [if_pos hlt, ha]
      | some x =>
        obtain ⟨e, c'⟩ := x
        obtain ⟨h1, h2, h3⟩ := after_end hlt ht ha
        have e4 : f.length + (dots m p e c).length ≤ 16777216 := by omega
        have hL : L_law_read_2 [some (rU l), T, some (rU f), some (rU [c]), some (.bl t), some (uM m), j2, none, none] = .nx [some (rU l), T, some (rU (f ++ dots m p e c)), some (rU [c']), some (.bl true), some (uM m), some (.tup [rU (dots m p e c), rU [c']]), none, none] := by
          rw [hf, done, ha, Option.map_some, uD] at e1
          rw [← hf] at e1
          have a0 := at_0 (rU (dots m p e c)) [rU [c']]
          have a1 := at_1 (rU (dots m p e c)) (rU [c']) []
          unfold L_law_read_2
          rw [← hf] at a0 a1 e4 ⊢
          generalize uM m = M at *
          generalize dots m f.length e c = D at *
          clear ha hl hm hp ht hf hm0 hlt h1 h2 h3
          walk_at "vr"
        have ih := lread_loop hl T ms e c' true (f ++ dots m p e c) (some (uM m)) (some (.tup [rU (dots m p e c), rU [c']])) (fun a h => hm a (List.mem_cons_of_mem _ h)) h2 nofun (by rw [List.length_append]; omega)
        have e5 : reads l (m :: ms) p c t f = reads l ms e c' true (f ++ dots m p e c) := by
          rw [reads, if_pos hlt, ha]
        rw [e5, List.map_cons]
        simp only [forV, tN, List.set_cons_zero, List.set_cons_succ, hL]
        exact ih
    · right
      have d := decide_eq_true (show (l.length : Int) ≤ (f.length : Int) by omega)
      refine ⟨[some (rU l), T, some (rU f), some (rU [c]), some (.bl t), some (uM m), j2, none, none], ?_, ?_⟩
      · have hL : L_law_read_2 [some (rU l), T, some (rU f), some (rU [c]), some (.bl t), some (uM m), j2, none, none] = .rt .non [some (rU l), T, some (rU f), some (rU [c]), some (.bl t), some (uM m), j2, none, none] := by
          unfold L_law_read_2
          generalize uM m = M at *
          clear hl hm hp ht hf hm0 hlt
          walk_at "vr"
        rw [List.map_cons]
        simp only [forV, tN, List.set_cons_zero, List.set_cons_succ, hL]
      · unfold reads
        rw [if_neg hlt]
theorem plain_uM (m : Mode) : VV.plain 1 (uM m) = true := by cases m <;> kernel_rfl
theorem plain_uT (ms : List Mode) : VV.plain 2 (uT ms) = true := by
  rw [VV.plain, List.all_eq_true]
  intro u hu
  obtain ⟨x, hx, rfl⟩ := List.mem_map.mp hu
  exact plain_uM x
theorem ne_nil (ms : List Mode) : uNe (uT ms) (.tup []) = some (.bl !ms.isEmpty) := by
  rw [uNe_ok (plain_le (plain_uT ms) (by decide)) rfl, eqB, eqBs_nil]
  cases ms <;> rfl
theorem law_read_ok {l : List Bool} (hl : l.length ≤ 40) {ms : List Mode} (h : ∀ m ∈ ms, m.ok) : v_law_read [rU l, uT ms] = .val (uO (read l ms)) [] := by
  have e0 := ne_nil ms
  have c3 : l.length ≤ 16777216 := by omega
  have hT : (vAnd (vTst (vBin uNe (vVar 1) (vTup (vNil)))) (vTst (vBin uEq (vBin uIx (vBin uIx (vVar 1) (vC (.int 0))) (vC (.int 0))) (vC (.str "full"))))) [some (rU l), some (uT ms), none, none, none, none, none, none, none] = .val false [some (rU l), some (uT ms), none, none, none, none, none, none, none] := by
    cases ms with
    | nil =>
      have e0 : uNe (.tup []) (.tup []) = some (.bl false) := by kernel_rfl
      clear hl h
      unfold uT
      rw [List.map_nil]
      walk_at "vr"
    | cons m ms =>
      have a0 := at_0 (uM m) (ms.map uM)
      have a1 := at_0 (.str (tagS m)) (argS m)
      have a2 := tagS_ne m
      unfold uT at *
      rw [List.map_cons] at *
      rw [uM_eq] at a0 e0 ⊢
      rw [List.isEmpty_cons, Bool.not_false] at e0
      generalize argS m = M at *
      generalize tagS m = g at *
      clear hl h
      walk_at "vr"
  unfold v_law_read w_law_read Row.read
  generalize (vAnd (vTst (vBin uNe (vVar 1) (vTup (vNil)))) (vTst (vBin uEq (vBin uIx (vBin uIx (vVar 1) (vC (.int 0))) (vC (.int 0))) (vC (.str "full"))))) = G at *
  rcases lread_loop hl (some (uT ms)) ms 0 false false [] none none h (Nat.zero_le _) (fun _ => rfl) rfl with ⟨c', t', f', j1, j2, hf, z, r⟩ | ⟨e, z, r⟩
  · rw [r]
    have c4 : f'.length ≤ 16777216 := by omega
    by_cases q : f'.length = l.length
    · have d := decide_eq_true (show (f'.length : Int) = (l.length : Int) by omega)
      rw [if_pos q, uO]
      clear r hl h hf e0
      rw [q] at d c4
      walk_at "vr"
    · have d := decide_eq_false (show ¬ (f'.length : Int) = (l.length : Int) by omega)
      rw [if_neg q, uO]
      clear r q hl h hf e0
      walk_at "vr"
  · rw [r, uO]
    clear r hl h e0
    walk_at "vr"
end LW
set_option Elab.async false
set_option linter.all false
set_option maxRecDepth 100000
set_option maxHeartbeats 4000000
namespace LW
open PySem L2 DD VV Row
local macro_rules | `(tactic| walk_at "vr") => `(tactic| simp only [rS_e, rS_w, rS_b, rS_wb, rS_app, rS_len, rS_inj, rS_at, rS_one, rS_cut, rS_signs, rS_mul, one_eq, vBody, vRetD, vSkip, vSeq, vIfS, vRet, vRetN, vRetT, vAsg, vAsgT, vExpr, vParN, setAll, vAug, vSetI, vHere, vStep, vMut, slot, getP, setP, uPut, uAppend, toUO, tN, tT, tsCons, tsNil, vOr, vAnd, vNot, vTru, vTst, vBin, vUn, vOp, vCall0, vCallN, putO, mapO, vCons, vNil, vVar, vC, vTup, vLst, vIf, vChain, vOrV, vAndV, vNotV, vSl, vSlL, vSlF, voN, voS, vDic, vpCons, vpNil, keysU, keyU, vFor, vEn, vIt, vRng1, vRng2, itU, vLc, vYes, vSolid, flat, flats, ofO, ER.bind, ER.bindS, UO.then, uIsi, tyU, knownT, isiB, uCmp, uIs, uIsNot, isNonU, truU, uAdd, uSub, uMul, uDiv, uMod, uPow, uNeg, uIAdd, uCat, uRep, uLen, lenU, uInt, uSlice, uSliceL, uSum, uAll, uAny, uTuple, uMin, uMax, uList, uIx, seqTU, seqU, uEq_int, uNe_int, uEq_str, uNe_str, wipeU, backU, List.getD_cons_zero, List.getD_cons_succ, vNever, List.map_cons, List.map_nil, List.length_cons, List.length_nil, List.length_map, List.length_range, List.replicate, List.append_nil, List.nil_append, List.cons_append, List.set_cons_zero, List.set_cons_succ, List.set_nil, List.getElem?_cons_zero, List.getElem?_cons_succ, List.getElem?_nil, List.take_succ_cons, List.take_zero, Option.map_some, Option.map_none, Option.isSome_some, Option.bind_some, Nat.reduceAdd, Nat.reduceSub, Nat.zero_add, if_true, if_false, Bool.false_eq_true, Bool.not_true, Bool.not_false, decide_true, decide_false, reduceIte, String.reduceBEq, Bool.or_true, Bool.true_or, Bool.or_false, Bool.false_or, Bool.and_true, Bool.and_false, Bool.true_and, Bool.false_and, Bool.and_self, String.reduceBNe, decide_eq_true_eq, reduceCtorEq, and_self, Int.reducePow, Int.reduceNeg, Int.reduceSub, Int.reduceAdd, Int.reduceMul, Int.reduceLT, Int.reduceLE, Int.reduceToNat, Nat.reducePow, Nat.reduceLT, Nat.reduceLeDiff, true_and, and_true, or_true, true_or, false_or, or_false, ne_eq, not_true_eq_false, not_false_eq_true, na10, na2, Sum.inr.injEq, ofS_inj, String.reduceEq, szl, Nat.zero_le, *])
abbrev uN (ns : List Nat) : U := .tup (ns.map fun n : Nat => U.int (n : Int))
theorem lineIn_len : ∀ (ns : List Nat) (c : Bool), (lineIn ns c).length = ns.sum
  | [], _ => rfl
  | n :: ns, c => by rw [lineIn, List.length_append, List.length_replicate, lineIn_len ns, List.sum_cons]
theorem line_loop (T : Option U) : ∀ (ns : List Nat) (c : Bool) (f : List Bool) (j : Option U), f.length + ns.sum ≤ 100 → ∃ c' j', forV (tN 3) L_line_in_1 (ns.map fun n : Nat => U.int (n : Int)) [T, some (rU f), some (rU [c]), j] = .nx [T, some (rU (f ++ lineIn ns c)), some (rU [c']), j']
  | [], c, f, j, _ => ⟨c, j, by rw [lineIn, List.append_nil]; rfl⟩
  | n :: ns, c, f, j, h => by
    rw [List.sum_cons] at h
    obtain ⟨c', j', ih⟩ := line_loop T ns (!c) (f ++ List.replicate n c) (some (.int (n : Int))) (by rw [List.length_append, List.length_replicate]; omega)
    refine ⟨c', j', ?_⟩
    have e2 := other_colour_ok c
    have hL : L_line_in_1 [T, some (rU f), some (rU [c]), some (.int (n : Int))] = .nx [T, some (rU (f ++ List.replicate n c)), some (rU [!c]), some (.int (n : Int))] := by
      have b1 : (n : Int) ≤ 1000000 ∧ -1000000 ≤ (n : Int) ∧ 1 * n ≤ 16777216 ∧ f.length + n ≤ 16777216 := by omega
      have h1 : ((n : Nat) : Int).toNat = n := rfl
      have h5 : (1 : Nat) ≤ 1000000 := by decide
      have h6 : (List.replicate n c).length = n := List.length_replicate
      unfold L_line_in_1
      clear h ih
      walk_at "vr"
    rw [List.map_cons]
    simp only [forV, tN, List.set_cons_zero, List.set_cons_succ, hL]
    rw [ih, lineIn, List.append_assoc]
theorem line_in_ok (ns : List Nat) (h : ns.sum ≤ 100) : v_line_in [uN ns] = .val (rU (lineIn ns false)) [] := by
  obtain ⟨c', j', z⟩ := line_loop (some (uN ns)) ns false [] none (by rw [List.length_nil]; omega)
  rw [List.nil_append] at z
  unfold v_line_in w_line_in
  clear h
  walk_at "vr"
end LW
set_option Elab.async false
set_option linter.all false
set_option maxRecDepth 100000
set_option maxHeartbeats 4000000
namespace LW
open PySem L2 DD VV Row
local macro_rules | `(tactic| walk_at "vr") => `(tactic| simp only [rS_e, rS_w, rS_b, rS_wb, rS_app, rS_len, rS_inj, rS_at, rS_one, rS_cut, rS_signs, rS_mul, one_eq, vBody, vRetD, vSkip, vSeq, vIfS, vRet, vRetN, vRetT, vAsg, vAsgT, vExpr, vParN, setAll, vAug, vSetI, vHere, vStep, vMut, slot, getP, setP, uPut, uAppend, toUO, tN, tT, tsCons, tsNil, vOr, vAnd, vNot, vTru, vTst, vBin, vUn, vOp, vCall0, vCallN, putO, mapO, vCons, vNil, vVar, vC, vTup, vLst, vIf, vChain, vOrV, vAndV, vNotV, vSl, vSlL, vSlF, voN, voS, vDic, vpCons, vpNil, keysU, keyU, vFor, vEn, vIt, vRng1, vRng2, itU, vLc, vYes, vSolid, flat, flats, ofO, ER.bind, ER.bindS, UO.then, uIsi, tyU, knownT, isiB, uCmp, uIs, uIsNot, isNonU, truU, uAdd, uSub, uMul, uDiv, uMod, uPow, uNeg, uIAdd, uCat, uRep, uLen, lenU, uInt, uSlice, uSliceL, uSum, uAll, uAny, uTuple, uMin, uMax, uList, uIx, seqTU, seqU, uEq_int, uNe_int, uEq_str, uNe_str, wipeU, backU, List.getD_cons_zero, List.getD_cons_succ, vNever, List.map_cons, List.map_nil, List.length_cons, List.length_nil, List.length_map, List.length_range, List.replicate, List.append_nil, List.nil_append, List.cons_append, List.set_cons_zero, List.set_cons_succ, List.set_nil, List.getElem?_cons_zero, List.getElem?_cons_succ, List.getElem?_nil, List.take_succ_cons, List.take_zero, Option.map_some, Option.map_none, Option.isSome_some, Option.bind_some, Nat.reduceAdd, Nat.reduceSub, Nat.zero_add, if_true, if_false, Bool.false_eq_true, Bool.not_true, Bool.not_false, decide_true, decide_false, reduceIte, String.reduceBEq, Bool.or_true, Bool.true_or, Bool.or_false, Bool.false_or, Bool.and_true, Bool.and_false, Bool.true_and, Bool.false_and, Bool.and_self, String.reduceBNe, decide_eq_true_eq, reduceCtorEq, and_self, Int.reducePow, Int.reduceNeg, Int.reduceSub, Int.reduceAdd, Int.reduceMul, Int.reduceLT, Int.reduceLE, Int.reduceToNat, Nat.reducePow, Nat.reduceLT, Nat.reduceLeDiff, true_and, and_true, or_true, true_or, false_or, or_false, ne_eq, not_true_eq_false, not_false_eq_true, na10, na2, Sum.inr.injEq, ofS_inj, String.reduceEq, szl, Nat.zero_le, *])
/-- the pieces of a full line -/
def pieces : List Nat → Bool → List (List Bool)
  | [], _ => []
  | n :: ns, c => List.replicate n c :: pieces ns !c
theorem pieces_flat : ∀ (ns : List Nat) (c : Bool), (pieces ns c).flatten = lineIn ns c
  | [], _ => rfl
  | n :: ns, c => by rw [pieces, List.flatten_cons, pieces_flat ns, lineIn]
theorem pieces_len : ∀ (ns : List Nat) (c : Bool), (pieces ns c).length = ns.length
  | [], _ => rfl
  | n :: ns, c => by rw [pieces, List.length_cons, pieces_len ns, List.length_cons]
theorem strsU_rows : ∀ ls : List (List Bool), strsU (ls.map rU) = some (ls.map rS)
  | [] => rfl
  | l :: ls => by
    have ih := strsU_rows ls
    unfold strsU at *
    rw [List.map_cons, mapO, ih]
    rfl
theorem join_rows : ∀ ls : List (List Bool), Str.join (rS []) (ls.map rS) = rS ls.flatten
  | [] => rfl
  | [l] => by rw [List.flatten_cons, List.flatten_nil, List.append_nil]; rfl
  | l :: m :: ls => by
    have ih := join_rows (m :: ls)
    rw [List.map_cons] at ih ⊢
    rw [List.map_cons]
    rw [Str.join, ih, rS_app, rS_app, List.append_nil, List.flatten_cons]
    · rfl
    · nofun
theorem txt_join_rows (ls : List (List Bool)) : Txt.join (rS []) (ls.map rS) = rS ls.flatten := by
  unfold Txt.join
  rw [StrLaws.glued_eq_join, join_rows]
theorem sum_flat : ∀ ls : List (List Bool), ((ls.map rS).map (·.length)).sum = ls.flatten.length
  | [] => rfl
  | l :: ls => by
    rw [List.map_cons, List.map_cons, List.sum_cons, sum_flat ls, rS_len, List.flatten_cons, List.length_append]
end LW
set_option Elab.async false
set_option linter.all false
set_option maxRecDepth 100000
set_option maxHeartbeats 4000000
namespace LW
open PySem L2 DD VV Row
local macro_rules | `(tactic| walk_at "vr") => `(tactic| simp only [rS_e, rS_w, rS_b, rS_wb, rS_app, rS_len, rS_inj, rS_at, rS_one, rS_cut, rS_signs, rS_mul, one_eq, vBody, vRetD, vSkip, vSeq, vIfS, vRet, vRetN, vRetT, vAsg, vAsgT, vExpr, vParN, setAll, vAug, vSetI, vHere, vStep, vMut, slot, getP, setP, uPut, uAppend, toUO, tN, tT, tsCons, tsNil, vOr, vAnd, vNot, vTru, vTst, vBin, vUn, vOp, vCall0, vCallN, putO, mapO, vCons, vNil, vVar, vC, vTup, vLst, vIf, vChain, vOrV, vAndV, vNotV, vSl, vSlL, vSlF, voN, voS, vDic, vpCons, vpNil, keysU, keyU, vFor, vEn, vIt, vRng1, vRng2, itU, vLc, vYes, vSolid, flat, flats, ofO, ER.bind, ER.bindS, UO.then, uIsi, tyU, knownT, isiB, uCmp, uIs, uIsNot, isNonU, truU, uAdd, uSub, uMul, uDiv, uMod, uPow, uNeg, uIAdd, uCat, uRep, uLen, lenU, uInt, uSlice, uSliceL, uSum, uAll, uAny, uTuple, uMin, uMax, uList, uIx, seqTU, seqU, uEq_int, uNe_int, uEq_str, uNe_str, wipeU, backU, List.getD_cons_zero, List.getD_cons_succ, vNever, List.map_cons, List.map_nil, List.length_cons, List.length_nil, List.length_map, List.length_range, List.replicate, List.append_nil, List.nil_append, List.cons_append, List.set_cons_zero, List.set_cons_succ, List.set_nil, List.getElem?_cons_zero, List.getElem?_cons_succ, List.getElem?_nil, List.take_succ_cons, List.take_zero, Option.map_some, Option.map_none, Option.isSome_some, Option.bind_some, Nat.reduceAdd, Nat.reduceSub, Nat.zero_add, if_true, if_false, Bool.false_eq_true, Bool.not_true, Bool.not_false, decide_true, decide_false, reduceIte, String.reduceBEq, Bool.or_true, Bool.true_or, Bool.or_false, Bool.false_or, Bool.and_true, Bool.and_false, Bool.true_and, Bool.false_and, Bool.and_self, String.reduceBNe, decide_eq_true_eq, reduceCtorEq, and_self, Int.reducePow, Int.reduceNeg, Int.reduceSub, Int.reduceAdd, Int.reduceMul, Int.reduceLT, Int.reduceLE, Int.reduceToNat, Nat.reducePow, Nat.reduceLT, Nat.reduceLeDiff, true_and, and_true, or_true, true_or, false_or, or_false, ne_eq, not_true_eq_false, not_false_eq_true, na10, na2, Sum.inr.injEq, ofS_inj, String.reduceEq, szl, Nat.zero_le, *])
theorem pieces_zip : ∀ (ns : List Nat) (k : Nat), (ns.zipIdx k).map (fun p : Nat × Nat => List.replicate p.1 (decide (p.2 % 2 = 1))) = pieces ns (decide (k % 2 = 1))
  | [], _ => rfl
  | n :: ns, k => by
    rw [List.zipIdx_cons, List.map_cons, pieces_zip ns (k + 1), pieces]
    congr 2
    by_cases h : k % 2 = 1
    · rw [decide_eq_true h, decide_eq_false (by omega)]
      rfl
    · rw [decide_eq_false h, decide_eq_true (by omega)]
      rfl
theorem at_par (k : Nat) : atI [false, true] ((k : Int) % 2) = some (decide (k % 2 = 1)) := by
  by_cases h : k % 2 = 1
  · rw [decide_eq_true h, show (k : Int) % 2 = ((1 : Nat) : Int) by omega, VV.atI_nat]
    rfl
  · rw [decide_eq_false h, show (k : Int) % 2 = ((0 : Nat) : Int) by omega, VV.atI_nat]
    rfl
theorem full_comp (l T : Option U) (ns : List Nat) (h : ns.length ≤ 100) (hs : ∀ n ∈ ns, n ≤ 100) : lcV (tT 2 (tsCons (tN 7) (tsCons (tN 8) tsNil))) vYes X_law_read_1 [7, 8] (enumU 0 (ns.map fun n : Nat => U.int (n : Int))) [] [l, T, none, none, none, none, none, none, none] = .val ((pieces ns false).map rU) [l, T, none, none, none, none, none, none, none] := by
  rw [enumU_map]
  have e := pieces_zip ns 0
  rw [show decide (0 % 2 = 1) = false from rfl] at e
  rw [← e, List.map_map, ← List.nil_append (List.map _ (ns.zipIdx 0))]
  refine lcV_map (fun p : Nat × Nat => U.tup [.int (p.2 : Nat), U.int (p.1 : Int)]) _ _ _ (fun p hp => ?_) (by rw [List.length_nil, List.length_zipIdx, szl]; omega)
  have hn := hs p.1 (List.fst_mem_of_mem_zipIdx hp)
  have e1 := at_par p.2
  refine ⟨[l, T, none, none, none, none, none, some (.int (p.2 : Int)), some (.int (p.1 : Int))], [l, T, none, none, none, none, none, some (.int (p.2 : Int)), some (.int (p.1 : Int))], [l, T, none, none, none, none, none, some (.int (p.2 : Int)), some (.int (p.1 : Int))], rfl, rfl, ?_, rfl⟩
  have b1 : ((p.1 : Nat) : Int) ≤ 1000000 ∧ -1000000 ≤ ((p.1 : Nat) : Int) ∧ 1 * p.1 ≤ 16777216 := by omega
  have h1 : ((p.1 : Nat) : Int).toNat = p.1 := rfl
  have h5 : (1 : Nat) ≤ 1000000 := by decide
  show X_law_read_1 _ = .val (rU (List.replicate p.1 (decide (p.2 % 2 = 1)))) _
  generalize decide (p.2 % 2 = 1) = y at *
  generalize p.1 = n at *
  generalize p.2 = k at *
  unfold X_law_read_1
  clear hn hp h hs e
  walk_at "vr"
theorem le_sum : ∀ {ns : List Nat} {n : Nat}, n ∈ ns → n ≤ ns.sum
  | m :: ns, n, h => by
    rw [List.sum_cons]
    rcases List.mem_cons.mp h with rfl | h
    · omega
    · have := le_sum h
      omega
theorem plain_uN (ns : List Nat) : VV.plain 1 (uN ns) = true := by
  rw [VV.plain, List.all_eq_true]
  intro u hu
  obtain ⟨x, hx, rfl⟩ := List.mem_map.mp hu
  rfl
abbrev uF (ns : List Nat) : U := .tup [.tup [.str "full", uN ns]]
theorem law_read_full {l : List Bool} (hl : l.length ≤ 40) {ns : List Nat} (h : ns.length ≤ 100) (hs : ns.sum ≤ 100) : v_law_read [rU l, uF ns] = .val (uO (if (lineIn ns false).length = l.length then some (lineIn ns false) else none)) [] := by
  have hn : ∀ n ∈ ns, n ≤ 100 := fun n hn => Nat.le_trans (le_sum hn) hs
  have e1 := full_comp (some (rU l)) (some (uF ns)) ns h hn
  have e2 := strsU_rows (pieces ns false)
  have e3 := txt_join_rows (pieces ns false)
  have e4 := sum_flat (pieces ns false)
  rw [pieces_flat] at e3 e4
  have e5 := lineIn_len ns false
  have a0 := at_0 (.tup [.str "full", uN ns]) []
  have a1 := at_0 (.str "full") [uN ns]
  have a2 := at_1 (.str "full") (uN ns) []
  have e6 : uNe (uF ns) (.tup []) = some (.bl true) := by
    have : VV.plain 11 (uF ns) = true := by
      have h1 := plain_le (plain_uN ns) (show 1 ≤ 9 by decide)
      have h2 : VV.plain 9 (.str "full") = true := by kernel_rfl
      rw [VV.plain, List.all_cons, VV.plain, List.all_cons, List.all_cons, h1, h2]
      rfl
    rw [uNe_ok this rfl]
    rfl
  have c3 : l.length ≤ 16777216 := by omega
  have c4 : ns.sum + 0 ≤ 16777216 := by omega
  have c5 : (lineIn ns false).length ≤ 16777216 := by omega
  rw [e5] at e4
  have hJ : vMeth "str" uJoin (vC (.str "")) (vCons (vLc (vEn (vBin uIx (vBin uIx (vVar 1) (vC (.int 0))) (vC (.int 1)))) (tT 2 (tsCons (tN 7) (tsCons (tN 8) (tsNil)))) (vYes) (X_law_read_1) [7, 8]) (vNil)) [some (rU l), some (uF ns), none, none, none, none, none, none, none] = .val (rU (lineIn ns false)) [some (rU l), some (uF ns), none, none, none, none, none, none, none] := by
    have e7 := pieces_len ns false
    have c6 : ns.sum + ns.length * 0 ≤ 16777216 := by omega
    have e8 : uJoin (.str "") [.lst ((pieces ns false).map rU)] = some (rU (lineIn ns false)) := by
      unfold uJoin seqTU seqU
      simp only [e2]
      rw [e4, rS_e, List.length_map, e7, rS_len, List.length_nil, if_pos c6, e3]
    have e9 : vLc (vEn (vBin uIx (vBin uIx (vVar 1) (vC (.int 0))) (vC (.int 1)))) (tT 2 (tsCons (tN 7) (tsCons (tN 8) (tsNil)))) (vYes) (X_law_read_1) [7, 8] [some (rU l), some (uF ns), none, none, none, none, none, none, none] = .val (.lst ((pieces ns false).map rU)) [some (rU l), some (uF ns), none, none, none, none, none, none, none] := by
      clear e8 e2 e3 e4 e5 e6 e7 c3 c4 c5 c6 hl h hs hn

      walk_at "vr"
    generalize vLc (vEn (vBin uIx (vBin uIx (vVar 1) (vC (.int 0))) (vC (.int 1)))) (tT 2 (tsCons (tN 7) (tsCons (tN 8) (tsNil)))) (vYes) (X_law_read_1) [7, 8] = G at *
    simp only [vMeth, vC, ER.bind, tyU, vCons, vNil, e9, e8, ofO, if_true]
  unfold v_law_read w_law_read
  generalize vMeth "str" uJoin (vC (.str "")) (vCons (vLc (vEn (vBin uIx (vBin uIx (vVar 1) (vC (.int 0))) (vC (.int 1)))) (tT 2 (tsCons (tN 7) (tsCons (tN 8) (tsNil)))) (vYes) (X_law_read_1) [7, 8]) (vNil)) = J at *
  by_cases q : (lineIn ns false).length = l.length
  · rw [if_pos q, uO]
    have d := decide_eq_true (show ((lineIn ns false).length : Int) = (l.length : Int) by omega)
    clear hl h hs hn e5 e1 e2 e3 e4 c4
    generalize lineIn ns false = R at *
    rw [q] at d
    walk_at "vr"
  · rw [if_neg q, uO]
    have d := decide_eq_false (show ¬ ((lineIn ns false).length : Int) = (l.length : Int) by omega)
    clear hl h hs hn e5 e1 e2 e3 e4 c4 q
    generalize lineIn ns false = R at *
    walk_at "vr"
end LW
set_option Elab.async false
set_option linter.all false
set_option maxRecDepth 100000
set_option maxHeartbeats 4000000
namespace LW
open PySem L2 DD VV Row
local macro_rules | `(tactic| walk_at "vr") => `(tactic| simp only [rS_e, rS_w, rS_b, rS_wb, rS_app, rS_len, rS_inj, rS_at, rS_one, rS_cut, rS_signs, rS_mul, one_eq, vBody, vRetD, vSkip, vSeq, vIfS, vRet, vRetN, vRetT, vAsg, vAsgT, vExpr, vParN, setAll, vAug, vSetI, vHere, vStep, vMut, slot, getP, setP, uPut, uAppend, toUO, tN, tT, tsCons, tsNil, vOr, vAnd, vNot, vTru, vTst, vBin, vUn, vOp, vCall0, vCallN, putO, mapO, vCons, vNil, vVar, vC, vTup, vLst, vIf, vChain, vOrV, vAndV, vNotV, vSl, vSlL, vSlF, voN, voS, vDic, vpCons, vpNil, keysU, keyU, vFor, vEn, vIt, vRng1, vRng2, itU, vLc, vYes, vSolid, flat, flats, ofO, ER.bind, ER.bindS, UO.then, uIsi, tyU, knownT, isiB, uCmp, uIs, uIsNot, isNonU, truU, uAdd, uSub, uMul, uDiv, uMod, uPow, uNeg, uIAdd, uCat, uRep, uLen, lenU, uInt, uSlice, uSliceL, uSum, uAll, uAny, uTuple, uMin, uMax, uList, uIx, seqTU, seqU, uEq_int, uNe_int, uEq_str, uNe_str, wipeU, backU, List.getD_cons_zero, List.getD_cons_succ, vNever, List.map_cons, List.map_nil, List.length_cons, List.length_nil, List.length_map, List.length_range, List.replicate, List.append_nil, List.nil_append, List.cons_append, List.set_cons_zero, List.set_cons_succ, List.set_nil, List.getElem?_cons_zero, List.getElem?_cons_succ, List.getElem?_nil, List.take_succ_cons, List.take_zero, Option.map_some, Option.map_none, Option.isSome_some, Option.bind_some, Nat.reduceAdd, Nat.reduceSub, Nat.zero_add, if_true, if_false, Bool.false_eq_true, Bool.not_true, Bool.not_false, decide_true, decide_false, reduceIte, String.reduceBEq, Bool.or_true, Bool.true_or, Bool.or_false, Bool.false_or, Bool.and_true, Bool.and_false, Bool.true_and, Bool.false_and, Bool.and_self, String.reduceBNe, decide_eq_true_eq, reduceCtorEq, and_self, Int.reducePow, Int.reduceNeg, Int.reduceSub, Int.reduceAdd, Int.reduceMul, Int.reduceLT, Int.reduceLE, Int.reduceToNat, Nat.reducePow, Nat.reduceLT, Nat.reduceLeDiff, true_and, and_true, or_true, true_or, false_or, or_false, ne_eq, not_true_eq_false, not_false_eq_true, na10, na2, Sum.inr.injEq, ofS_inj, String.reduceEq, szl, Nat.zero_le, *])
def uTr (l : List Bool) (p : Nat) (c t : Bool) (m : Mode) : U := match done l m p c t with
  | none => .non
  | some x => .tup [uM m, rU x.1, rU [x.2]]
theorem stays_comp (a0 a1 a2 a3 a4 : Option U) : lcV (tN 11) vYes X_law_modes_1 [11] (rangeU (-3) 7) [] [a0, a1, a2, a3, a4, none, none, none, none, none, none, none, none] = .val (stays.map uM) [a0, a1, a2, a3, a4, none, none, none, none, none, none, none, none] := by
  unfold stays
  rw [rangeU_map, List.map_map, ← List.nil_append (List.map _ _)]
  refine lcV_map _ _ _ _ (fun i hi => ?_) (by rw [List.length_nil, List.length_range, szl]; omega)
  exact ⟨_, _, [a0, a1, a2, a3, a4, none, none, none, none, none, none, some (.int (-3 + (i : Int))), none], rfl, rfl, rfl, rfl⟩
theorem runs_comp (a0 a1 a2 a3 a4 a5 a6 : Option U) (n a : Nat) (hn : n ≤ 40) : lcV (tN 12) vYes X_law_modes_2 [12] (rangeU 0 (n - a + 1)) [] [a0, a1, a2, a3, a4, a5, a6, some (.int (a : Int)), none, none, none, none, none] = .val ((runsOf n a).map uM) [a0, a1, a2, a3, a4, a5, a6, some (.int (a : Int)), none, none, none, none, none] := by
  unfold runsOf
  rw [show (0 : Int) = ((0 : Nat) : Int) from rfl, rangeU_nat, List.map_map, ← List.nil_append (List.map _ _)]
  refine lcV_map _ _ _ _ (fun i hi => ?_) (by rw [List.length_nil, List.length_range, szl]; omega)
  refine ⟨_, _, [a0, a1, a2, a3, a4, a5, a6, some (.int (a : Int)), none, none, none, none, some (.int ((0 + i : Nat) : Int))], rfl, rfl, ?_, rfl⟩
  rw [Nat.zero_add]
  rfl
theorem modes_loop1 (a0 a1 a2 a3 a4 : Option U) (n : Nat) (hn : n ≤ 40) : ∃ j, forV (tN 7) L_law_modes_3 (rangeU 0 (n + 1)) [a0, a1, a2, a3, a4, some (.lst ((stays ++ [Mode.pass]).map uM)), some (.int (n : Int)), none, none, none, none, none, none] = .nx [a0, a1, a2, a3, a4, some (.lst ((cands n).map uM)), some (.int (n : Int)), j, none, none, none, none, none] := by
  obtain ⟨j, z⟩ := forV_fold (t := tN 7) (b := L_law_modes_3) (fun i : Nat => U.int ((0 + i : Nat) : Int)) (fun (s : List Mode) (j : Option U) => [a0, a1, a2, a3, a4, some (.lst (s.map uM)), some (.int (n : Int)), j, none, none, none, none, none]) (fun s a => s ++ runsOf n a) (List.range (n + 1)) (stays ++ [Mode.pass]) none fun pre a post e j => by
    have ha : a < n + 1 := by
      have : a ∈ List.range (n + 1) := by rw [e]; simp
      exact List.mem_range.mp this
    generalize hs : pre.foldl (fun s a => s ++ runsOf n a) (stays ++ [Mode.pass]) = s
    have hsl : s.length ≤ 8 + pre.length * (n + 1) := by
      rw [← hs]
      exact foldl_len pre _
    have hpl : pre.length ≤ n + 1 := by
      have := congrArg List.length e
      rw [List.length_range, List.length_append] at this
      omega
    have hsl2 : s.length ≤ 3000 := by
      have h1 : pre.length * (n + 1) ≤ 41 * 41 := Nat.mul_le_mul (by omega) (by omega)
      omega
    refine ⟨[a0, a1, a2, a3, a4, some (.lst (s.map uM)), some (.int (n : Int)), some (.int (a : Int)), none, none, none, none, none], some (.int (a : Int)), by rw [Nat.zero_add]; rfl, .inl ?_⟩
    have e1 := runs_comp a0 a1 a2 a3 a4 (some (.lst (s.map uM))) (some (.int (n : Int))) n a hn
    have e2 : ((n : Int) - (a : Int) + 1 - 0).toNat = n - a + 1 := by omega
    have e2' : ((n : Int) - (a : Int) + 1).toNat = n - a + 1 := by omega
    have e3 : s.map uM ++ (runsOf n a).map uM = (s ++ runsOf n a).map uM := by rw [List.map_append]
    have h1 : s.length + (runsOf n a).length ≤ 16777216 := by
      have : (runsOf n a).length ≤ 41 := by simp only [runsOf, List.length_map, List.length_range]; omega
      omega
    unfold L_law_modes_3
    clear hs hsl hpl e ha hn hsl2
    walk_at "vr"
  exact ⟨j, z⟩
theorem done_len {l : List Bool} {m : Mode} {p : Nat} {c t : Bool} (hm : m.ok) {x : List Bool × Bool} (h : done l m p c t = some x) (hp : p < l.length) (ht : t = false → p = 0) : p + x.1.length ≤ l.length ∧ (t = true → 0 < x.1.length) := by
  unfold done at h
  cases ha : after l m p c t with
  | none => rw [ha] at h; cases h
  | some y =>
    rw [ha, Option.map_some] at h
    injection h with h
    obtain ⟨e, c'⟩ := y
    have := after_end hp ht ha
    subst h
    simp only
    refine ⟨by omega, fun h => ?_⟩
    have := this.2.2 h
    omega
theorem modes_turn {l r : List Bool} (hl : l.length ≤ 40) (hr : r.length = l.length) {m : Mode} (hm : m.ok) {p : Nat} (hp : p < l.length) (c t : Bool) (ht : t = false → p = 0) (s : List Mode) (hs : s.length ≤ 3000) (a5 a6 a7 a10 a11 a12 : Option U) : ∃ j, L_law_modes_4 [some (rU l), some (rU r), some (.int (p : Int)), some (rU [c]), some (.bl t), a5, a6, a7, some (.lst (s.map (uTr l p c t))), some (uM m), a10, a11, a12] = .nx [some (rU l), some (rU r), some (.int (p : Int)), some (rU [c]), some (.bl t), a5, a6, a7, some (.lst ((if fitB l r p c t m = true then s ++ [m] else s).map (uTr l p c t))), some (uM m), j, a11, a12] := by
  have e1 := law_done_ok hl hm p (by omega) c t ht
  have c3 : r.length ≤ 16777216 := by omega
  have c4 : s.length + 1 ≤ 16777216 := by omega
  have c5 : s.length < 16777216 := by omega
  unfold L_law_modes_4 fitB
  cases hd : done l m p c t with
  | none =>
    refine ⟨some .non, ?_⟩
    rw [hd, uD] at e1
    simp only [Bool.false_eq_true, if_false]
    generalize s.map (uTr l p c t) = S at *
    clear hl hr hm hp ht hs hd c4 c3 c5
    walk_at "vr"
  | some x =>
    obtain ⟨d, c'⟩ := x
    refine ⟨some (.tup [rU d, rU [c']]), ?_⟩
    have hx := done_len hm hd hp ht
    simp only at hx
    rw [hd, uD] at e1
    have a0 := at_0 (rU d) [rU [c']]
    have a1 := at_1 (rU d) (rU [c']) []
    have e2 := cut_mid r p d.length (by omega)
    have c6 : d.length ≤ 16777216 := by omega
    have e3 : (s ++ [m]).map (uTr l p c t) = s.map (uTr l p c t) ++ [.tup [uM m, rU d, rU [c']]] := by
      rw [List.map_append, List.map_cons, List.map_nil]
      congr 2
      unfold uTr
      rw [hd]
    have h7 : (s.map (uTr l p c t)).length = s.length := List.length_map _
    by_cases q : (r.drop p).take d.length = d
    · have q1 := decide_eq_true q
      simp only [q1, if_true]
      rw [e3]
      clear e3
      generalize s.map (uTr l p c t) = S at *
      rw [q] at e2
      clear hl hr hm hp ht hs hd q q1 hx
      walk_at "vr"
    · have q1 := decide_eq_false q
      simp only [q1, Bool.false_eq_true, if_false]
      clear e3
      generalize s.map (uTr l p c t) = S at *
      generalize (r.drop p).take d.length = d2 at *
      clear hl hr hm hp ht hs hd hx q
      walk_at "vr"
theorem foldl_filter {α : Type} (q : α → Bool) : ∀ (xs s : List α), xs.foldl (fun s m => if q m = true then s ++ [m] else s) s = s ++ xs.filter q
  | [], s => by simp
  | x :: xs, s => by
    rw [List.foldl_cons, foldl_filter q xs]
    cases h : q x <;> simp [h]
theorem modes_loop2 {l r : List Bool} (hl : l.length ≤ 40) (hr : r.length = l.length) {p : Nat} (hp : p < l.length) (c t : Bool) (ht : t = false → p = 0) (ms : List Mode) (hm : ∀ m ∈ ms, m.ok) (hms : ms.length ≤ 3000) (a5 a6 a7 a11 a12 : Option U) : ∃ j : Option U × Option U, forV (tN 9) L_law_modes_4 (ms.map uM) [some (rU l), some (rU r), some (.int (p : Int)), some (rU [c]), some (.bl t), a5, a6, a7, some (.lst []), none, none, a11, a12] = .nx [some (rU l), some (rU r), some (.int (p : Int)), some (rU [c]), some (.bl t), a5, a6, a7, some (.lst ((ms.filter (fitB l r p c t)).map (uTr l p c t))), j.1, j.2, a11, a12] := by
  obtain ⟨j, z⟩ := forV_fold (t := tN 9) (b := L_law_modes_4) uM (fun (s : List Mode) (j : Option U × Option U) => [some (rU l), some (rU r), some (.int (p : Int)), some (rU [c]), some (.bl t), a5, a6, a7, some (.lst (s.map (uTr l p c t))), j.1, j.2, a11, a12]) (fun s m => if fitB l r p c t m = true then s ++ [m] else s) ms [] (none, none) fun pre m post e j => by
    have hs : (pre.foldl (fun s m => if fitB l r p c t m = true then s ++ [m] else s) []).length ≤ 3000 := by
      rw [foldl_filter, List.nil_append]
      have h1 := List.length_filter_le (fitB l r p c t) pre
      have h2 := congrArg List.length e
      rw [List.length_append] at h2
      omega
    obtain ⟨j', z⟩ := modes_turn hl hr (hm m (by rw [e]; simp)) hp c t ht _ hs a5 a6 a7 j.2 a11 a12
    exact ⟨_, (some (uM m), j'), rfl, .inl z⟩
  refine ⟨j, ?_⟩
  rw [foldl_filter, List.nil_append] at z
  exact z
theorem law_modes_ok {l r : List Bool} (hl : l.length ≤ 40) (hr : r.length = l.length) {p : Nat} (hp : p < l.length) (c t : Bool) (ht : t = false → p = 0) : v_law_modes [rU l, rU r, .int (p : Int), rU [c], .bl t] = .val (.lst (((cands (r.length - p)).filter (fitB l r p c t)).map (uTr l p c t))) [] := by
  have c3 : r.length ≤ 16777216 := by omega
  have hn : r.length - p ≤ 40 := by omega
  have e1 := stays_comp (some (rU l)) (some (rU r)) (some (.int (p : Int))) (some (rU [c])) (some (.bl t))
  obtain ⟨j1, e2⟩ := modes_loop1 (some (rU l)) (some (rU r)) (some (.int (p : Int))) (some (rU [c])) (some (.bl t)) (r.length - p) hn
  have hcl : (cands (r.length - p)).length ≤ 3000 := by
    have h1 := foldl_len (n := r.length - p) (List.range (r.length - p + 1)) (stays ++ [Mode.pass])
    have h2 : (List.range (r.length - p + 1)).length * (r.length - p + 1) ≤ 41 * 41 := by
      rw [List.length_range]
      exact Nat.mul_le_mul (by omega) (by omega)
    have h3 : (stays ++ [Mode.pass]).length = 8 := rfl
    unfold cands
    omega
  obtain ⟨j2, e3⟩ := modes_loop2 hl hr hp c t ht (cands (r.length - p)) (cands_ok hn) hcl (some (.lst ((cands (r.length - p)).map uM))) (some (.int ((r.length - p : Nat) : Int))) j1 none none
  have e4 : (r.length : Int) - (p : Int) = ((r.length - p : Nat) : Int) := by omega
  have e5 : (((r.length - p : Nat) : Int) + 1).toNat = r.length - p + 1 := by omega
  have e6 : stays.map uM ++ [U.tup [.str "pass"]] = (stays ++ [Mode.pass]).map uM := by rw [List.map_append]; rfl
  have e7 : stays.length + 1 ≤ 16777216 := by
    have : stays.length = 7 := rfl
    omega
  have e8 : ((4 : Int) - (-3)).toNat = 7 := rfl
  unfold v_law_modes w_law_modes
  generalize ((cands (r.length - p)).filter (fitB l r p c t)).map (uTr l p c t) = F at *
  generalize (cands (r.length - p)).map uM = M at *
  generalize stays ++ [Mode.pass] = S1 at *
  generalize r.length - p = n at *
  clear hl hr hp ht hn hcl
  walk_at "vr"
end LW
set_option Elab.async false
set_option linter.all false
set_option maxRecDepth 100000
set_option maxHeartbeats 4000000
namespace LW
open PySem L2 DD VV Row
local macro_rules | `(tactic| walk_at "vr") => `(tactic| simp only [rS_e, rS_w, rS_b, rS_wb, rS_app, rS_len, rS_inj, rS_at, rS_one, rS_cut, rS_signs, rS_mul, one_eq, vBody, vRetD, vSkip, vSeq, vIfS, vRet, vRetN, vRetT, vAsg, vAsgT, vExpr, vParN, setAll, vAug, vSetI, vHere, vStep, vMut, slot, getP, setP, uPut, uAppend, toUO, tN, tT, tsCons, tsNil, vOr, vAnd, vNot, vTru, vTst, vBin, vUn, vOp, vCall0, vCallN, putO, mapO, vCons, vNil, vVar, vC, vTup, vLst, vIf, vChain, vOrV, vAndV, vNotV, vSl, vSlL, vSlF, voN, voS, vDic, vpCons, vpNil, keysU, keyU, vFor, vEn, vIt, vRng1, vRng2, itU, vLc, vYes, vSolid, flat, flats, ofO, ER.bind, ER.bindS, UO.then, uIsi, tyU, knownT, isiB, uCmp, uIs, uIsNot, isNonU, truU, uAdd, uSub, uMul, uDiv, uMod, uPow, uNeg, uIAdd, uCat, uRep, uLen, lenU, uInt, uSlice, uSliceL, uSum, uAll, uAny, uTuple, uMin, uMax, uList, uIx, seqTU, seqU, uEq_int, uNe_int, uEq_str, uNe_str, wipeU, backU, List.getD_cons_zero, List.getD_cons_succ, vNever, List.map_cons, List.map_nil, List.length_cons, List.length_nil, List.length_map, List.length_range, List.replicate, List.append_nil, List.nil_append, List.cons_append, List.set_cons_zero, List.set_cons_succ, List.set_nil, List.getElem?_cons_zero, List.getElem?_cons_succ, List.getElem?_nil, List.take_succ_cons, List.take_zero, Option.map_some, Option.map_none, Option.isSome_some, Option.bind_some, Nat.reduceAdd, Nat.reduceSub, Nat.zero_add, if_true, if_false, Bool.false_eq_true, Bool.not_true, Bool.not_false, decide_true, decide_false, reduceIte, String.reduceBEq, Bool.or_true, Bool.true_or, Bool.or_false, Bool.false_or, Bool.and_true, Bool.and_false, Bool.true_and, Bool.false_and, Bool.and_self, String.reduceBNe, decide_eq_true_eq, reduceCtorEq, and_self, Int.reducePow, Int.reduceNeg, Int.reduceSub, Int.reduceAdd, Int.reduceMul, Int.reduceLT, Int.reduceLE, Int.reduceToNat, Nat.reducePow, Nat.reduceLT, Nat.reduceLeDiff, true_and, and_true, or_true, true_or, false_or, or_false, ne_eq, not_true_eq_false, not_false_eq_true, na10, na2, Sum.inr.injEq, ofS_inj, String.reduceEq, szl, Nat.zero_le, *])
theorem of_lst {B : Int} {m : U} (D : Dw B m) (hB : B ≤ 4000000000000000000) {us : List U} (h : us ≠ []) (hl : us.length ≤ 1000000) : ∃ u m', u ∈ us ∧ v_law_of [m, .lst us] = .val u [some m'] ∧ Dw (B + 1) m' := by
  have hlen : 0 < us.length := List.length_pos_iff.mpr h
  obtain ⟨k, m', z, h0, h1, D'⟩ := next_ok D hB (n := (us.length : Int)) (by omega) (by
    have : (1000000 : Int) < 10 ^ 40 := by decide
    omega)
  have hk : k.toNat < us.length := by omega
  refine ⟨us[k.toNat], m', List.getElem_mem hk, ?_, D'⟩
  have e1 : atI us k = some us[k.toNat] := by
    have h2 := VV.atI_nat us k.toNat
    rw [show ((k.toNat : Nat) : Int) = k by omega] at h2
    rw [h2]
    exact List.getElem?_eq_getElem hk
  have c1 : us.length ≤ 16777216 := by omega
  generalize us[k.toNat] = u at *
  unfold v_law_of w_law_of
  clear h0 h1 hB hl hk hlen h
  walk_at "vr"
theorem of_dots {B : Int} {m : U} (D : Dw B m) (hB : B ≤ 4000000000000000000) : ∃ b m', v_law_of [m, .str ".#"] = .val (rU [b]) [some m'] ∧ Dw (B + 1) m' := by
  obtain ⟨k, m', z, h0, h1, D'⟩ := next_ok D hB (n := 2) (by decide) (by decide)
  obtain ⟨b, e1⟩ : ∃ b, atI [false, true] k = some b := by
    have : k = ((k.toNat : Nat) : Int) := by omega
    rw [this, VV.atI_nat]
    exact ⟨_, List.getElem?_eq_getElem (show k.toNat < [false, true].length from (by show k.toNat < 2; omega))⟩
  refine ⟨b, m', ?_, D'⟩
  have c1 : (2 : Nat) ≤ 16777216 := by decide
  have c2 : ((2 : Nat) : Int) = 2 := rfl
  unfold v_law_of w_law_of
  clear h0 h1 hB
  walk_at "vr"
theorem row_turn {B : Int} {m : U} (D : Dw B m) (hB : B ≤ 4000000000000000000 - 2) (w : Option U) (f : List Bool) (hf : f.length ≤ 100) (d : Bool) : ∃ n m' d', 1 ≤ n ∧ n ≤ 6 ∧ L_law_row_1 [some m, w, some (rU f), some (rU [d])] = .nx [some m', w, some (rU (f ++ List.replicate n d)), some (rU [d'])] ∧ Dw (B + 2) m' := by
  obtain ⟨u, m1, hu, z1, D1⟩ := of_lst D (by omega) (us := [.int 1, .int 2, .int 3, .int 6]) (by simp) (by simp)
  obtain ⟨x, rfl, hx⟩ : ∃ x : Int, u = .int x ∧ 1 ≤ x ∧ x ≤ 6 := by
    simp only [List.mem_cons, List.not_mem_nil, or_false] at hu
    rcases hu with rfl | rfl | rfl | rfl
    · exact ⟨1, rfl, by decide⟩
    · exact ⟨2, rfl, by decide⟩
    · exact ⟨3, rfl, by decide⟩
    · exact ⟨6, rfl, by decide⟩
  obtain ⟨k, m2, z2, k0, k1, D2⟩ := next_ok D1 (by omega) (n := x) (by omega) (by
    have : (6 : Int) < 10 ^ 40 := by decide
    omega)
  obtain ⟨n, hn⟩ : ∃ n : Nat, 1 + k = (n : Int) := ⟨(1 + k).toNat, by omega⟩
  refine ⟨n, m2, !d, by omega, by omega, ?_, D2.mono (by omega)⟩
  have c1 : f.length ≤ 16777216 := by omega
  have b1 : (n : Int) ≤ 1000000 := by omega
  have b2 : -1000000 ≤ (n : Int) := by omega
  have b4 : (1 : Nat) ≤ 1000000 := by decide
  have b5 : 1 * n ≤ 16777216 := by omega
  have b3 : ((n : Nat) : Int).toNat = n := rfl
  have b6 : f.length + n ≤ 16777216 := by omega
  have b7 : (List.replicate n d).length = n := List.length_replicate
  unfold L_law_row_1
  clear hu hx k0 k1 hB hf
  cases d <;> walk_at "vr"
theorem row_loop (w : Nat) (hw : w ≤ 40) : ∀ (k fuel : Nat) (B : Int) (m : U) (f : List Bool) (d : Bool), k < fuel → k ≤ 40 → w ≤ f.length + k → f.length ≤ 50 → Dw B m → B + 2 * k ≤ 3000000000000000000 → ∃ m' f' d', vWhile fuel W_law_row_1 L_law_row_1 [some m, some (.int (w : Int)), some (rU f), some (rU [d])] = .nx [some m', some (.int (w : Int)), some (rU f'), some (rU [d'])] ∧ w ≤ f'.length ∧ f'.length ≤ 50 ∧ Dw (B + 2 * k) m'
  | k, 0, _, _, _, _, h, _, _, _, _, _ => absurd h (Nat.not_lt_zero _)
  | k, fuel + 1, B, m, f, d, h1, hk, h2, h3, D, hB => by
    have c1 : f.length ≤ 16777216 := by omega
    by_cases q : f.length < w
    · have d1 := decide_eq_true (show (f.length : Int) < (w : Int) by omega)
      obtain ⟨n, m1, d', n1, n2, z, D1⟩ := row_turn D (by omega) (some (.int (w : Int))) f (by omega) d
      obtain ⟨k, rfl⟩ : ∃ k', k = k' + 1 := ⟨k - 1, by omega⟩
      obtain ⟨m2, f2, d2, z2, g1, g2, D2⟩ := row_loop w hw k fuel (B + 2) m1 (f ++ List.replicate n d) d' (by omega) (by omega) (by rw [List.length_append, List.length_replicate]; omega) (by rw [List.length_append, List.length_replicate]; omega) D1 (by omega)
      refine ⟨m2, f2, d2, ?_, g1, g2, D2.mono (by omega)⟩
      unfold vWhile
      generalize L_law_row_1 = L at *
      have t1 : W_law_row_1 [some m, some (.int (w : Int)), some (rU f), some (rU [d])] = .val true [some m, some (.int (w : Int)), some (rU f), some (rU [d])] := by
        unfold W_law_row_1
        clear z z2 h1 h2 h3 hk hw hB n1 n2 g1 g2 q
        walk_at "vr"
      rw [t1]
      simp only [ER.bindS, if_true, z, z2]
    · have d1 := decide_eq_false (show ¬ (f.length : Int) < (w : Int) by omega)
      refine ⟨m, f, d, ?_, by omega, h3, D.mono (by omega)⟩
      have t1 : W_law_row_1 [some m, some (.int (w : Int)), some (rU f), some (rU [d])] = .val false [some m, some (.int (w : Int)), some (rU f), some (rU [d])] := by
        unfold W_law_row_1
        clear h1 h2 h3 hk hw hB q
        walk_at "vr"
      unfold vWhile
      rw [t1]
      simp only [ER.bindS, Bool.false_eq_true, if_false]
theorem law_row_ok {B : Int} {m : U} (D : Dw B m) (hB : B ≤ 2000000000000000000) {w : Nat} (hw : w ≤ 40) : ∃ l m', v_law_row [m, .int (w : Int)] = .val (rU l) [some m'] ∧ l.length = w ∧ Dw (B + 100) m' := by
  obtain ⟨d, m1, z1, D1⟩ := of_dots D (by omega)
  obtain ⟨m2, f, d2, z2, h1, h2, D2⟩ := row_loop w hw w 100000 (B + 1) m1 [] d (by omega) hw (by simp) (by simp) D1 (by omega)
  refine ⟨f.take w, m2, ?_, by rw [List.length_take]; omega, D2.mono (by omega)⟩
  have e1 := cut_take f (w : Int) (by omega)
  have e2 : ((w : Nat) : Int).toNat = w := rfl
  have c1 : f.length ≤ 16777216 := by omega
  rw [e2] at e1
  rw [rS_wb] at z1
  unfold v_law_row w_law_row
  clear h1 h2 hB hw e2
  generalize vWhile 100000 W_law_row_1 L_law_row_1 = W at *
  walk_at "vr"
theorem near_turn {B : Int} {m : U} (D : Dw B m) (hB : B ≤ 3000000000000000000) (r f : List Bool) (h0 : 0 < r.length) (hr : r.length ≤ 40) (hf : f.length = r.length) (a3 a4 : Option U) : ∃ f' m' a4', L_law_near_row_1 [some m, some (rU r), some (rU f), a3, a4] = .nx [some m', some (rU r), some (rU f'), a3, a4'] ∧ f'.length = r.length ∧ Dw (B + 1) m' := by
  obtain ⟨k, m2, z2, k0, k1, D2⟩ := next_ok D (by omega) (n := (r.length : Int)) (by omega) (by
    have : (40 : Int) < 10 ^ 40 := by decide
    omega)
  obtain ⟨j, rfl⟩ : ∃ j : Nat, k = (j : Int) := ⟨k.toNat, by omega⟩
  have e1 := cut_take f (j : Int) (by omega)
  have e2 := cut_drop f ((j : Int) + 1) (by omega)
  have e3 := at_nat (l := f) (h := j) (by omega)
  rw [show ((j : Nat) : Int).toNat = j from rfl] at e1
  rw [show (((j : Nat) : Int) + 1).toNat = j + 1 by omega] at e2
  have c1 : f.length ≤ 16777216 := by omega
  have c2 : r.length ≤ 16777216 := by omega
  have hA : (f.take j).length ≤ 40 := by rw [List.length_take]; omega
  have hC : (f.drop (j + 1)).length ≤ 40 := by rw [List.length_drop]; omega
  refine ⟨f.take j ++ [!f.getD j false] ++ f.drop (j + 1), m2, some (.int (j : Int)), ?_, ?_, D2⟩
  · generalize f.getD j false = y at *
    generalize f.take j = fA at *
    generalize f.drop (j + 1) = fC at *
    have c3 : fA.length + 1 ≤ 16777216 := by omega
    have c4 : (fA ++ [!y]).length + fC.length ≤ 16777216 := by rw [List.length_append, List.length_singleton]; omega
    unfold L_law_near_row_1
    clear k0 k1 hB h0 hr hf hA hC
    cases y <;> simp only [Bool.not_true, Bool.not_false] at c4 ⊢ <;> walk_at "vr"
  · simp only [List.length_append, List.length_take, List.length_drop, List.length_singleton]
    omega
theorem law_near_ok {B : Int} {m : U} (D : Dw B m) (hB : B ≤ 2000000000000000000) {r : List Bool} (h0 : 0 < r.length) (hr : r.length ≤ 40) : ∃ l m', v_law_near_row [m, rU r] = .val (rU l) [some m'] ∧ l.length = r.length ∧ Dw (B + 10) m' := by
  obtain ⟨k, m2, z2, k0, k1, D2⟩ := next_ok D (by omega) (n := 4) (by decide) (by decide)
  obtain ⟨e, ze, m3, f3, j1, j2, rfl, hf3, D3⟩ := forV_range (t := tN 3) (b := L_law_near_row_1) 0 k.toNat (fun i e => ∃ m f j1 j2, e = [some m, some (rU r), some (rU f), j1, j2] ∧ f.length = r.length ∧ Dw (B + 1 + (i : Int)) m) (fun i e hi ⟨m, f, j1, j2, he, hf, D⟩ => by
    subst he
    obtain ⟨f', m', a4', z, hf', D'⟩ := near_turn D (by omega) r f h0 hr hf (some (.int (0 + (i : Int)))) j2
    exact ⟨_, _, rfl, .inl z, m', f', _, a4', rfl, hf', D'.mono (by omega)⟩) [some m2, some (rU r), some (rU r), none, none] ⟨m2, r, none, none, rfl, rfl, D2.mono (by omega)⟩
  refine ⟨f3, m3, ?_, hf3, D3.mono (by omega)⟩
  have e1 : (k - 0).toNat = k.toNat := by omega
  unfold v_law_near_row w_law_near_row
  clear k0 k1 hB h0 hr hf3
  walk_at "vr"
end LW
set_option Elab.async false
set_option linter.all false
set_option maxRecDepth 100000
set_option maxHeartbeats 4000000
namespace LW
open PySem L2 DD VV Row
local macro_rules | `(tactic| walk_at "vr") => `(tactic| simp only [rS_e, rS_w, rS_b, rS_wb, rS_app, rS_len, rS_inj, rS_at, rS_one, rS_cut, rS_signs, rS_mul, one_eq, vBody, vRetD, vSkip, vSeq, vIfS, vRet, vRetN, vRetT, vAsg, vAsgT, vExpr, vParN, setAll, vAug, vSetI, vHere, vStep, vMut, slot, getP, setP, uPut, uAppend, toUO, tN, tT, tsCons, tsNil, vOr, vAnd, vNot, vTru, vTst, vBin, vUn, vOp, vCall0, vCallN, putO, mapO, vCons, vNil, vVar, vC, vTup, vLst, vIf, vChain, vOrV, vAndV, vNotV, vSl, vSlL, vSlF, voN, voS, vDic, vpCons, vpNil, keysU, keyU, vFor, vEn, vIt, vRng1, vRng2, itU, vLc, vYes, vSolid, flat, flats, ofO, ER.bind, ER.bindS, UO.then, uIsi, tyU, knownT, isiB, uCmp, uIs, uIsNot, isNonU, truU, uAdd, uSub, uMul, uDiv, uMod, uPow, uNeg, uIAdd, uCat, uRep, uLen, lenU, uInt, uSlice, uSliceL, uSum, uAll, uAny, uTuple, uMin, uMax, uList, uIx, seqTU, seqU, uEq_int, uNe_int, uEq_str, uNe_str, wipeU, backU, List.getD_cons_zero, List.getD_cons_succ, vNever, List.map_cons, List.map_nil, List.length_cons, List.length_nil, List.length_map, List.length_range, List.replicate, List.append_nil, List.nil_append, List.cons_append, List.set_cons_zero, List.set_cons_succ, List.set_nil, List.getElem?_cons_zero, List.getElem?_cons_succ, List.getElem?_nil, List.take_succ_cons, List.take_zero, Option.map_some, Option.map_none, Option.isSome_some, Option.bind_some, Nat.reduceAdd, Nat.reduceSub, Nat.zero_add, if_true, if_false, Bool.false_eq_true, Bool.not_true, Bool.not_false, decide_true, decide_false, reduceIte, String.reduceBEq, Bool.or_true, Bool.true_or, Bool.or_false, Bool.false_or, Bool.and_true, Bool.and_false, Bool.true_and, Bool.false_and, Bool.and_self, String.reduceBNe, decide_eq_true_eq, reduceCtorEq, and_self, Int.reducePow, Int.reduceNeg, Int.reduceSub, Int.reduceAdd, Int.reduceMul, Int.reduceLT, Int.reduceLE, Int.reduceToNat, Nat.reducePow, Nat.reduceLT, Nat.reduceLeDiff, true_and, and_true, or_true, true_or, false_or, or_false, ne_eq, not_true_eq_false, not_false_eq_true, na10, na2, Sum.inr.injEq, ofS_inj, String.reduceEq, szl, Nat.zero_le, *])
theorem uTr_some {l : List Bool} {p : Nat} {c t : Bool} {m : Mode} {x : List Bool × Bool} (h : done l m p c t = some x) : uTr l p c t m = .tup [uM m, rU x.1, rU [x.2]] := by
  unfold uTr
  rw [h]
theorem goes_ok {l r : List Bool} {p : Nat} {c t : Bool} {m : Mode} {x : List Bool × Bool} (h : done l m p c t = some x) (hp : p + x.1.length ≤ r.length) (hr : r.length ≤ 40) : v_law_goes_on [rU r, .int (p : Int), uTr l p c t m] = .val (.bl (goB l r p c t m)) [] := by
  rw [uTr_some h]
  unfold goB
  rw [h]
  obtain ⟨d, c'⟩ := x
  simp only at hp ⊢
  have e1 := at_nat (l := r ++ [c']) (h := p + d.length) (by rw [List.length_append, List.length_singleton]; omega)
  rw [show ((p + d.length : Nat) : Int) = (p : Int) + (d.length : Int) by omega] at e1
  have a1 := at_1 (uM m) (rU d) [rU [c']]
  have a2 := at_2 (uM m) (rU d) (rU [c']) []
  have c1 : r.length + 1 ≤ 16777216 := by omega
  have c2 : d.length ≤ 16777216 := by omega
  have c3 : (r ++ [c']).length ≤ 16777216 := by rw [List.length_append, List.length_singleton]; omega
  generalize (r ++ [c']).getD (p + d.length) false = y at *
  unfold v_law_goes_on w_law_goes_on
  clear hp hr h
  walk_at "vr"
theorem telling_comp {l r : List Bool} (hr : r.length ≤ 40) {p : Nat} {c t : Bool} (hp : p < r.length) (ms : List Mode) (hm : ms.length ≤ 3000) (hf : ∀ m ∈ ms, fitB l r p c t m = true) (a0 a1 a3 a5 a6 a7 a8 a9 : Option U) : lcV (tN 10) C_law_telling_1 X_law_telling_1 [10] (ms.map (uTr l p c t)) [] [a0, a1, some (rU r), a3, some (.int (p : Int)), a5, a6, a7, a8, a9, none] = .val ((ms.filter (goB l r p c t)).map (uTr l p c t)) [a0, a1, some (rU r), a3, some (.int (p : Int)), a5, a6, a7, a8, a9, none] := by
  rw [← List.nil_append (List.map _ (List.filter _ _))]
  refine lcV_filter _ _ _ _ _ (fun m hmm => ?_) (by rw [List.length_nil, szl]; omega)
  have h1 := hf m hmm
  unfold fitB at h1
  cases hd : done l m p c t with
  | none =>
    rw [hd] at h1
    cases h1
  | some x =>
    rw [hd] at h1
    simp only [decide_eq_true_eq] at h1
    have hle : p + x.1.length ≤ r.length := by
      have := congrArg List.length h1
      rw [List.length_take, List.length_drop] at this
      omega
    have e1 := goes_ok hd hle hr
    refine ⟨[a0, a1, some (rU r), a3, some (.int (p : Int)), a5, a6, a7, a8, a9, some (uTr l p c t m)], [a0, a1, some (rU r), a3, some (.int (p : Int)), a5, a6, a7, a8, a9, some (uTr l p c t m)], rfl, ?_, fun _ => ⟨[a0, a1, some (rU r), a3, some (.int (p : Int)), a5, a6, a7, a8, a9, some (uTr l p c t m)], rfl, rfl⟩, fun _ => rfl⟩
    unfold C_law_telling_1
    generalize goB l r p c t m = y at *
    generalize uTr l p c t m = M at *
    clear hd hle h1 hmm hf hm hp hr
    walk_at "vr"
theorem telling_turn {B : Int} {m : U} (D : Dw B m) (hB : B ≤ 3000000000000000000) {l r : List Bool} (hl : l.length ≤ 40) (hr : r.length = l.length) {p : Nat} (hp : p < l.length) (c t : Bool) (ht : t = false → p = 0) (hc : t = true → r.getD p false = c) (ms : List Mode) (hm : ms.length ≤ 50) (a7 a8 a9 : Option U) : ∃ m' k x a7' a8' a9', L_law_telling_2 [some m, some (rU l), some (rU r), some (.lst (ms.map uM)), some (.int (p : Int)), some (rU [c]), some (.bl t), a7, a8, a9, none] = .nx [some m', some (rU l), some (rU r), some (.lst ((ms ++ [k]).map uM)), some (.int ((p + x.1.length : Nat) : Int)), some (rU [x.2]), some (.bl true), a7', a8', a9', none] ∧ k.ok ∧ done l k p c t = some x ∧ r.take (p + x.1.length) = r.take p ++ x.1 ∧ p + x.1.length ≤ r.length ∧ (p + x.1.length < r.length → r.getD (p + x.1.length) false = x.2) ∧ Dw (B + 1) m' := by
  have e1 := law_modes_ok hl hr hp c t ht
  have hcl : (cands (r.length - p)).length ≤ 3000 := by
    have h1 := foldl_len (n := r.length - p) (List.range (r.length - p + 1)) (stays ++ [Mode.pass])
    have h2 : (List.range (r.length - p + 1)).length * (r.length - p + 1) ≤ 41 * 41 := by
      rw [List.length_range]
      exact Nat.mul_le_mul (by omega) (by omega)
    have h3 : (stays ++ [Mode.pass]).length = 8 := rfl
    unfold cands
    omega
  have hfl : ((cands (r.length - p)).filter (fitB l r p c t)).length ≤ 3000 := Nat.le_trans (List.length_filter_le _ _) hcl
  have hgl : (((cands (r.length - p)).filter (fitB l r p c t)).filter (goB l r p c t)).length ≤ 3000 := Nat.le_trans (List.length_filter_le _ _) hfl
  obtain ⟨k0, hk0, hf0, hg0⟩ := fit_ex (l := l) (r := r) hr.symm (p := p) (c := c) (t := t) (by omega) hc
  have hne : (((cands (r.length - p)).filter (fitB l r p c t)).filter (goB l r p c t)).map (uTr l p c t) ≠ [] := by
    have : k0 ∈ ((cands (r.length - p)).filter (fitB l r p c t)).filter (goB l r p c t) := List.mem_filter.mpr ⟨List.mem_filter.mpr ⟨hk0, hf0⟩, hg0⟩
    intro h
    rw [List.map_eq_nil_iff] at h
    rw [h] at this
    cases this
  obtain ⟨u, m1, hu, z1, D1⟩ := of_lst D (by omega) hne (by rw [List.length_map]; omega)
  obtain ⟨k, hk, rfl⟩ := List.mem_map.mp hu
  rw [List.mem_filter, List.mem_filter] at hk
  obtain ⟨⟨hk1, hk2⟩, hk3⟩ := hk
  obtain ⟨x, hd, q1, q2, q3⟩ := fit_step (by omega) hk2 hk3
  have e2 := telling_comp (l := l) (r := r) (by omega) (p := p) (c := c) (t := t) (by omega) ((cands (r.length - p)).filter (fitB l r p c t)) hfl (fun m hm => (List.mem_filter.mp hm).2) (some m) (some (rU l)) (some (.lst (ms.map uM))) (some (rU [c])) (some (.bl t)) (some (.lst (((cands (r.length - p)).filter (fitB l r p c t)).map (uTr l p c t)))) a8 a9
  rw [uTr_some hd] at z1
  refine ⟨m1, k, x, some (.lst ((((cands (r.length - p)).filter (fitB l r p c t)).filter (goB l r p c t)).map (uTr l p c t))), some (uM k), some (rU x.1), ?_, cands_ok (by omega) k hk1, hd, q1, q2, q3, D1⟩
  obtain ⟨d, c'⟩ := x
  simp only at q1 q2 q3 z1 hd ⊢
  have c2 : d.length ≤ 16777216 := by omega
  have c4 : ms.length < 16777216 := by omega
  have c5 : ms.length + 1 ≤ 16777216 := by omega
  have e3 : (ms ++ [k]).map uM = ms.map uM ++ [uM k] := by rw [List.map_append]; rfl
  have e4 : (p : Int) + (d.length : Int) = ((p + d.length : Nat) : Int) := by omega
  rw [e3]
  clear e3
  generalize (((cands (r.length - p)).filter (fitB l r p c t)).filter (goB l r p c t)).map (uTr l p c t) = G at *
  generalize ((cands (r.length - p)).filter (fitB l r p c t)).map (uTr l p c t) = F at *
  have h7 : (ms.map uM).length = ms.length := List.length_map _
  generalize ms.map uM = S at *
  generalize uM k = K at *
  unfold L_law_telling_2
  clear hB hl hr hp ht hc hm hcl hfl hgl hk0 hf0 hg0 hne hu hk1 hk2 hk3 hd q1 q2 q3 D D1
  walk_at "vr"
end LW
set_option Elab.async false
set_option linter.all false
set_option maxRecDepth 100000
set_option maxHeartbeats 4000000
namespace LW
open PySem L2 DD VV Row
local macro_rules | `(tactic| walk_at "vr") => `(tactic| simp only [rS_e, rS_w, rS_b, rS_wb, rS_app, rS_len, rS_inj, rS_at, rS_one, rS_cut, rS_signs, rS_mul, one_eq, vBody, vRetD, vSkip, vSeq, vIfS, vRet, vRetN, vRetT, vAsg, vAsgT, vExpr, vParN, setAll, vAug, vSetI, vHere, vStep, vMut, slot, getP, setP, uPut, uAppend, toUO, tN, tT, tsCons, tsNil, vOr, vAnd, vNot, vTru, vTst, vBin, vUn, vOp, vCall0, vCallN, putO, mapO, vCons, vNil, vVar, vC, vTup, vLst, vIf, vChain, vOrV, vAndV, vNotV, vSl, vSlL, vSlF, voN, voS, vDic, vpCons, vpNil, keysU, keyU, vFor, vEn, vIt, vRng1, vRng2, itU, vLc, vYes, vSolid, flat, flats, ofO, ER.bind, ER.bindS, UO.then, uIsi, tyU, knownT, isiB, uCmp, uIs, uIsNot, isNonU, truU, uAdd, uSub, uMul, uDiv, uMod, uPow, uNeg, uIAdd, uCat, uRep, uLen, lenU, uInt, uSlice, uSliceL, uSum, uAll, uAny, uTuple, uMin, uMax, uList, uIx, seqTU, seqU, uEq_int, uNe_int, uEq_str, uNe_str, wipeU, backU, List.getD_cons_zero, List.getD_cons_succ, vNever, List.map_cons, List.map_nil, List.length_cons, List.length_nil, List.length_map, List.length_range, List.replicate, List.append_nil, List.nil_append, List.cons_append, List.set_cons_zero, List.set_cons_succ, List.set_nil, List.getElem?_cons_zero, List.getElem?_cons_succ, List.getElem?_nil, List.take_succ_cons, List.take_zero, Option.map_some, Option.map_none, Option.isSome_some, Option.bind_some, Nat.reduceAdd, Nat.reduceSub, Nat.zero_add, if_true, if_false, Bool.false_eq_true, Bool.not_true, Bool.not_false, decide_true, decide_false, reduceIte, String.reduceBEq, Bool.or_true, Bool.true_or, Bool.or_false, Bool.false_or, Bool.and_true, Bool.and_false, Bool.true_and, Bool.false_and, Bool.and_self, String.reduceBNe, decide_eq_true_eq, reduceCtorEq, and_self, Int.reducePow, Int.reduceNeg, Int.reduceSub, Int.reduceAdd, Int.reduceMul, Int.reduceLT, Int.reduceLE, Int.reduceToNat, Nat.reducePow, Nat.reduceLT, Nat.reduceLeDiff, true_and, and_true, or_true, true_or, false_or, or_false, ne_eq, not_true_eq_false, not_false_eq_true, na10, na2, Sum.inr.injEq, ofS_inj, String.reduceEq, szl, Nat.zero_le, *])
theorem telling_loop {l r : List Bool} (hl : l.length ≤ 40) (hr : r.length = l.length) : ∀ (k fuel : Nat) (B : Int) (m : U) (ms : List Mode) (p : Nat) (c t : Bool) (a7 a8 a9 : Option U), k < fuel → r.length + (if t = true then 0 else 1) ≤ p + k → k ≤ 41 → Dw B m → B + k ≤ 3000000000000000000 → Chain l ms p c t (r.take p) → (∀ m ∈ ms, m.ok) → ms.length + k ≤ 50 → p ≤ r.length → (t = false → p = 0) → (t = true → p < r.length → r.getD p false = c) →
    ∃ m' ns c' t' a7' a8' a9', vWhile fuel W_law_telling_2 L_law_telling_2 [some m, some (rU l), some (rU r), some (.lst (ms.map uM)), some (.int (p : Int)), some (rU [c]), some (.bl t), a7, a8, a9, none] = .nx [some m', some (rU l), some (rU r), some (.lst (ns.map uM)), some (.int (r.length : Int)), some (rU [c']), some (.bl t'), a7', a8', a9', none] ∧ Chain l ns r.length c' t' r ∧ (∀ m ∈ ns, m.ok) ∧ ns.length ≤ 50 ∧ Dw (B + k) m'
  | k, 0, _, _, _, _, _, _, _, _, _, h, _, _, _, _, _, _, _, _, _, _ => absurd h (Nat.not_lt_zero _)
  | k, fuel + 1, B, m, ms, p, c, t, a7, a8, a9, h1, h2, hk, D, hB, hC, ho, hn, hp, ht, hc => by
    have c1 : r.length ≤ 16777216 := by omega
    by_cases q : p < r.length
    · have d1 := decide_eq_true (show (p : Int) < (r.length : Int) by omega)
      have hk0 : 1 ≤ k := by split at h2 <;> omega
      obtain ⟨k, rfl⟩ : ∃ k', k = k' + 1 := ⟨k - 1, by omega⟩
      obtain ⟨m1, g, x, b7, b8, b9, z, go, hd, q1, q2, q3, D1⟩ := telling_turn D (by omega) hl hr (by omega) c t ht (fun ht => hc ht q) ms (by omega) a7 a8 a9
      have hx := done_len go hd (by omega) ht
      have hC2 : Chain l (ms ++ [g]) (p + x.1.length) x.2 true (r.take (p + x.1.length)) := by
        unfold done at hd
        cases ha : after l g p c t with
        | none => rw [ha] at hd; cases hd
        | some y =>
          rw [ha, Option.map_some] at hd
          injection hd with hd
          obtain ⟨e, c'⟩ := y
          have he := (after_end (by omega) ht ha).1
          have := Chain.snoc hC (by omega) ha
          subst hd
          simp only at q1 ⊢
          rw [q1, ← he]
          exact this
      obtain ⟨m2, ns, c2, t2, e7, e8, e9, z2, g1, g2, g3, D2⟩ := telling_loop hl hr k fuel (B + 1) m1 (ms ++ [g]) (p + x.1.length) x.2 true b7 b8 b9 (by omega) (by
        rw [if_pos rfl]
        cases t with
        | true =>
          have := hx.2 rfl
          rw [if_pos rfl] at h2
          omega
        | false =>
          rw [if_neg Bool.false_ne_true] at h2
          omega) (by omega) D1 (by omega) hC2 (fun m hm => by
          rcases List.mem_append.mp hm with hm | hm
          · exact ho m hm
          · rw [List.mem_singleton.mp hm]
            exact go) (by rw [List.length_append, List.length_singleton]; omega) q2 (fun h => Bool.noConfusion h) (fun _ => q3)
      refine ⟨m2, ns, c2, t2, e7, e8, e9, ?_, g1, g2, g3, D2.mono (by omega)⟩
      have t1 : W_law_telling_2 [some m, some (rU l), some (rU r), some (.lst (ms.map uM)), some (.int (p : Int)), some (rU [c]), some (.bl t), a7, a8, a9, none] = .val true [some m, some (rU l), some (rU r), some (.lst (ms.map uM)), some (.int (p : Int)), some (rU [c]), some (.bl t), a7, a8, a9, none] := by
        unfold W_law_telling_2
        generalize ms.map uM = S
        clear z z2 h1 h2 hk hB hC hC2 ho hn hp ht hc q q1 q2 q3 hx hd g1 g2 g3 hl hr hk0 D1 D2 D go
        walk_at "vr"
      unfold vWhile
      rw [t1]
      simp only [ER.bindS, if_true, z, z2]
    · have d1 := decide_eq_false (show ¬ (p : Int) < (r.length : Int) by omega)
      have hpe : p = r.length := by omega
      subst hpe
      rw [List.take_length] at hC
      refine ⟨m, ms, c, t, a7, a8, a9, ?_, hC, ho, by omega, D.mono (by omega)⟩
      have t1 : W_law_telling_2 [some m, some (rU l), some (rU r), some (.lst (ms.map uM)), some (.int (r.length : Int)), some (rU [c]), some (.bl t), a7, a8, a9, none] = .val false [some m, some (rU l), some (rU r), some (.lst (ms.map uM)), some (.int (r.length : Int)), some (rU [c]), some (.bl t), a7, a8, a9, none] := by
        unfold W_law_telling_2
        generalize ms.map uM = S
        clear h1 h2 hk hB hC ho hn hp ht hc q hl hr D
        walk_at "vr"
      unfold vWhile
      rw [t1]
      simp only [ER.bindS, Bool.false_eq_true, if_false]
theorem law_telling_ok {B : Int} {m : U} (D : Dw B m) (hB : B ≤ 2000000000000000000) {l r : List Bool} (hl : l.length ≤ 40) (hr : r.length = l.length) : ∃ ms m', v_law_telling [m, rU l, rU r] = .val (uT ms) [some m'] ∧ (∀ m ∈ ms, m.ok) ∧ ms.length ≤ 50 ∧ read l ms = some r ∧ Dw (B + 41) m' := by
  obtain ⟨m2, ns, c2, t2, e7, e8, e9, z2, g1, g2, g3, D2⟩ := telling_loop hl hr 41 100000 B m [] 0 false false none none none (by omega) (by rw [if_neg Bool.false_ne_true]; omega) (by omega) D (by omega) (by rw [List.take_zero]; exact .nil) (fun _ h => by cases h) (by simp) (Nat.zero_le _) (fun _ => rfl) (fun h => Bool.noConfusion h)
  refine ⟨ns, m2, ?_, g2, g3, ?_, D2⟩
  · unfold v_law_telling w_law_telling uT
    generalize vWhile 100000 W_law_telling_2 L_law_telling_2 = W at *
    have c2 : ns.length ≤ 16777216 := by omega
    clear g1 g2 g3 hl hr hB D D2
    rw [List.map_nil, show ((0 : Nat) : Int) = 0 from rfl] at z2
    have h7 : (ns.map uM).length = ns.length := List.length_map _
    generalize ns.map uM = S at *
    walk_at "vr"
  · rw [hr] at g1
    exact g1.read
end LW
set_option Elab.async false
set_option linter.all false
set_option maxRecDepth 100000
set_option maxHeartbeats 4000000
namespace LW
open PySem L2 DD VV Row
local macro_rules | `(tactic| walk_at "vr") => `(tactic| simp only [rS_e, rS_w, rS_b, rS_wb, rS_app, rS_len, rS_inj, rS_at, rS_one, rS_cut, rS_signs, rS_mul, one_eq, vBody, vRetD, vSkip, vSeq, vIfS, vRet, vRetN, vRetT, vAsg, vAsgT, vExpr, vParN, setAll, vAug, vSetI, vHere, vStep, vMut, slot, getP, setP, uPut, uAppend, toUO, tN, tT, tsCons, tsNil, vOr, vAnd, vNot, vTru, vTst, vBin, vUn, vOp, vCall0, vCallN, putO, mapO, vCons, vNil, vVar, vC, vTup, vLst, vIf, vChain, vOrV, vAndV, vNotV, vSl, vSlL, vSlF, voN, voS, vDic, vpCons, vpNil, keysU, keyU, vFor, vEn, vIt, vRng1, vRng2, itU, vLc, vYes, vSolid, flat, flats, ofO, ER.bind, ER.bindS, UO.then, uIsi, tyU, knownT, isiB, uCmp, uIs, uIsNot, isNonU, truU, uAdd, uSub, uMul, uDiv, uMod, uPow, uNeg, uIAdd, uCat, uRep, uLen, lenU, uInt, uSlice, uSliceL, uSum, uAll, uAny, uTuple, uMin, uMax, uList, uIx, seqTU, seqU, uEq_int, uNe_int, uEq_str, uNe_str, wipeU, backU, List.getD_cons_zero, List.getD_cons_succ, vNever, List.map_cons, List.map_nil, List.length_cons, List.length_nil, List.length_map, List.length_range, List.replicate, List.append_nil, List.nil_append, List.cons_append, List.set_cons_zero, List.set_cons_succ, List.set_nil, List.getElem?_cons_zero, List.getElem?_cons_succ, List.getElem?_nil, List.take_succ_cons, List.take_zero, Option.map_some, Option.map_none, Option.isSome_some, Option.bind_some, Nat.reduceAdd, Nat.reduceSub, Nat.zero_add, if_true, if_false, Bool.false_eq_true, Bool.not_true, Bool.not_false, decide_true, decide_false, reduceIte, String.reduceBEq, Bool.or_true, Bool.true_or, Bool.or_false, Bool.false_or, Bool.and_true, Bool.and_false, Bool.true_and, Bool.false_and, Bool.and_self, String.reduceBNe, decide_eq_true_eq, reduceCtorEq, and_self, Int.reducePow, Int.reduceNeg, Int.reduceSub, Int.reduceAdd, Int.reduceMul, Int.reduceLT, Int.reduceLE, Int.reduceToNat, Nat.reducePow, Nat.reduceLT, Nat.reduceLeDiff, true_and, and_true, or_true, true_or, false_or, or_false, ne_eq, not_true_eq_false, not_false_eq_true, na10, na2, Sum.inr.injEq, ofS_inj, String.reduceEq, szl, Nat.zero_le, *])
def dbl (f : List (List Bool)) : List (List Bool) := f.foldl (fun s r => s ++ [r ++ [true], r ++ [false]]) []
def allR : Nat → List (List Bool)
  | 0 => [[]]
  | n + 1 => dbl (allR n)
theorem dbl_eq (f : List (List Bool)) : dbl f = f.flatMap fun r => [r ++ [true], r ++ [false]] := by
  unfold dbl
  rw [foldl_app, List.nil_append]
theorem dbl_len : ∀ f : List (List Bool), (f.flatMap fun r => [r ++ [true], r ++ [false]]).length = 2 * f.length
  | [] => rfl
  | r :: f => by
    rw [List.flatMap_cons, List.length_append, dbl_len f]
    simp only [List.length_cons, List.length_nil]
    omega
theorem allR_len : ∀ n, (allR n).length = 2 ^ n
  | 0 => rfl
  | n + 1 => by rw [allR, dbl_eq, dbl_len, allR_len n, Nat.pow_succ, Nat.mul_comm]
theorem allR_mem : ∀ n, ∀ r ∈ allR n, r.length = n
  | 0, r, h => by
    rw [allR, List.mem_singleton] at h
    subst h
    rfl
  | n + 1, r, h => by
    rw [allR, dbl_eq] at h
    obtain ⟨q, hq, hr⟩ := List.mem_flatMap.mp h
    have := allR_mem n q hq
    simp only [List.mem_cons, List.not_mem_nil, or_false] at hr
    rcases hr with rfl | rfl <;> simp [this]
theorem all_inner (f : List (List Bool)) (hf : f.length ≤ 4096) (hm : ∀ r ∈ f, r.length ≤ 40) (a0 a1 a2 a4 : Option U) : ∃ j, forV (tN 4) L_law_all_rows_1 (f.map VV.rU) [a0, a1, a2, some (.lst []), a4] = .nx [a0, a1, a2, some (.lst ((dbl f).map VV.rU)), j] := by
  obtain ⟨j, z⟩ := forV_fold (t := tN 4) (b := L_law_all_rows_1) VV.rU (fun (s : List (List Bool)) (j : Option U) => [a0, a1, a2, some (.lst (s.map VV.rU)), j]) (fun s r => s ++ [r ++ [true], r ++ [false]]) f [] a4 fun pre r post e j => by
    refine ⟨[a0, a1, a2, some (.lst ((pre.foldl (fun s r => s ++ [r ++ [true], r ++ [false]]) []).map VV.rU)), some (VV.rU r)], some (VV.rU r), rfl, .inl ?_⟩
    have hs : (pre.foldl (fun s r => s ++ [r ++ [true], r ++ [false]]) ([] : List (List Bool))).length ≤ 8192 := by
      rw [foldl_app, List.nil_append, dbl_len]
      have h2 := congrArg List.length e
      rw [List.length_append] at h2
      omega
    have hrl := hm r (by rw [e]; simp)
    generalize pre.foldl (fun s r => s ++ [r ++ [true], r ++ [false]]) ([] : List (List Bool)) = s at *
    have e3 : (s ++ [r ++ [true], r ++ [false]]).map VV.rU = s.map VV.rU ++ [rU (r ++ [true]), VV.rU (r ++ [false])] := by rw [List.map_append]; rfl
    rw [e3]
    have c1 : r.length + 1 ≤ 16777216 := by omega
    have c2 : s.length + 2 ≤ 16777216 := by omega
    have h7 : (s.map VV.rU).length = s.length := List.length_map _
    generalize s.map VV.rU = S at *
    unfold L_law_all_rows_1
    clear e3 hs hrl e hf hm
    walk_at "vr"
  exact ⟨j, z⟩
theorem all_rows_ok (w : Nat) (hw : w ≤ 10) : v_law_all_rows [.int (w : Int)] = .val (.lst ((allR w).map VV.rU)) [] := by
  obtain ⟨e, ze, j1, j2, j3, rfl⟩ := forV_range (t := tN 2) (b := L_law_all_rows_2) 0 w (fun i e => ∃ j1 j2 j3, e = [some (.int (w : Int)), some (.lst ((allR i).map VV.rU)), j1, j2, j3]) (fun i e hi ⟨j1, j2, j3, he⟩ => by
    subst he
    have hl : (allR i).length ≤ 4096 := by
      rw [allR_len]
      exact Nat.le_trans (Nat.pow_le_pow_right (by decide) (show i ≤ 12 by omega)) (by decide)
    obtain ⟨j, z⟩ := all_inner (allR i) hl (fun r hr => by rw [allR_mem i r hr]; omega) (some (.int (w : Int))) (some (.lst ((allR i).map VV.rU))) (some (.int (0 + (i : Int)))) j3
    refine ⟨_, _, rfl, .inl ?_, some (.int (0 + (i : Int))), some (.lst ((allR (i + 1)).map VV.rU)), j, rfl⟩
    rw [show allR (i + 1) = dbl (allR i) from rfl]
    generalize (dbl (allR i)).map VV.rU = G at *
    generalize (allR i).map VV.rU = F at *
    generalize U.int (0 + (i : Int)) = I at *
    unfold L_law_all_rows_2
    clear hl hi hw
    walk_at "vr") [some (.int (w : Int)), some (.lst ((allR 0).map VV.rU)), none, none, none] ⟨_, _, _, rfl⟩
  have e0 : (allR 0).map VV.rU = [rU []] := rfl
  have e1 : ((w : Nat) : Int).toNat = w := rfl
  have e2 : ((w : Int) - 0).toNat = w := by omega
  rw [e0] at ze
  clear e0
  generalize (allR w).map VV.rU = G at *
  unfold v_law_all_rows w_law_all_rows
  clear hw
  walk_at "vr"
end LW
set_option Elab.async false
set_option linter.all false
set_option maxRecDepth 100000
set_option maxHeartbeats 4000000
namespace LW
open PySem L2 DD VV Row
local macro_rules | `(tactic| walk_at "vr") => `(tactic| simp only [rS_e, rS_w, rS_b, rS_wb, rS_app, rS_len, rS_inj, rS_at, rS_one, rS_cut, rS_signs, rS_mul, one_eq, vBody, vRetD, vSkip, vSeq, vIfS, vRet, vRetN, vRetT, vAsg, vAsgT, vExpr, vParN, setAll, vAug, vSetI, vHere, vStep, vMut, slot, getP, setP, uPut, uAppend, toUO, tN, tT, tsCons, tsNil, vOr, vAnd, vNot, vTru, vTst, vBin, vUn, vOp, vCall0, vCallN, putO, mapO, vCons, vNil, vVar, vC, vTup, vLst, vIf, vChain, vOrV, vAndV, vNotV, vSl, vSlL, vSlF, voN, voS, vDic, vpCons, vpNil, keysU, keyU, vFor, vEn, vIt, vRng1, vRng2, itU, vLc, vYes, vSolid, flat, flats, ofO, ER.bind, ER.bindS, UO.then, uIsi, tyU, knownT, isiB, uCmp, uIs, uIsNot, isNonU, truU, uAdd, uSub, uMul, uDiv, uMod, uPow, uNeg, uIAdd, uCat, uRep, uLen, lenU, uInt, uSlice, uSliceL, uSum, uAll, uAny, uTuple, uMin, uMax, uList, uIx, seqTU, seqU, uEq_int, uNe_int, uEq_str, uNe_str, wipeU, backU, List.getD_cons_zero, List.getD_cons_succ, vNever, List.map_cons, List.map_nil, List.length_cons, List.length_nil, List.length_map, List.length_range, List.replicate, List.append_nil, List.nil_append, List.cons_append, List.set_cons_zero, List.set_cons_succ, List.set_nil, List.getElem?_cons_zero, List.getElem?_cons_succ, List.getElem?_nil, List.take_succ_cons, List.take_zero, Option.map_some, Option.map_none, Option.isSome_some, Option.bind_some, Nat.reduceAdd, Nat.reduceSub, Nat.zero_add, if_true, if_false, Bool.false_eq_true, Bool.not_true, Bool.not_false, decide_true, decide_false, reduceIte, String.reduceBEq, Bool.or_true, Bool.true_or, Bool.or_false, Bool.false_or, Bool.and_true, Bool.and_false, Bool.true_and, Bool.false_and, Bool.and_self, String.reduceBNe, decide_eq_true_eq, reduceCtorEq, and_self, Int.reducePow, Int.reduceNeg, Int.reduceSub, Int.reduceAdd, Int.reduceMul, Int.reduceLT, Int.reduceLE, Int.reduceToNat, Nat.reducePow, Nat.reduceLT, Nat.reduceLeDiff, true_and, and_true, or_true, true_or, false_or, or_false, ne_eq, not_true_eq_false, not_false_eq_true, na10, na2, Sum.inr.injEq, ofS_inj, String.reduceEq, szl, Nat.zero_le, *])
/-! the runs of a row -/
structure RS where
  f : List Nat
  d : Bool
  n : Nat
def runStep (s : RS) (b : Bool) : RS := if b = s.d then ⟨s.f, s.d, s.n + 1⟩ else ⟨s.f ++ [s.n], b, 1⟩
theorem lineIn_snoc : ∀ (ns : List Nat) (n : Nat) (c : Bool), lineIn (ns ++ [n]) c = lineIn ns c ++ List.replicate n (if ns.length % 2 = 0 then c else !c)
  | [], n, c => by simp [lineIn]
  | m :: ns, n, c => by
    rw [List.cons_append, lineIn, lineIn_snoc ns n, lineIn, List.append_assoc, List.length_cons]
    congr 3
    by_cases h : ns.length % 2 = 0
    · rw [if_pos h, if_neg (by omega)]
    · rw [if_neg h, if_pos (by omega), Bool.not_not]
structure RInv (pre : List Bool) (s : RS) : Prop where
  line : lineIn (s.f ++ [s.n]) false = pre
  col : s.d = decide (s.f.length % 2 = 1)
  pos : ∀ x ∈ (s.f ++ [s.n]).tail, x ≠ 0
  len : s.f.length ≤ pre.length
theorem run_inv {pre : List Bool} {s : RS} (h : RInv pre s) (b : Bool) : RInv (pre ++ [b]) (runStep s b) := by
  obtain ⟨f, d, n⟩ := s
  obtain ⟨h1, h2, h3, h4⟩ := h
  simp only at h1 h2 h3 h4
  unfold runStep
  simp only
  by_cases q : b = d
  · rw [if_pos q]
    refine ⟨?_, h2, ?_, by simp only [List.length_append, List.length_singleton]; omega⟩
    · simp only
      rw [← h1, lineIn_snoc, lineIn_snoc, List.append_assoc, List.replicate_succ', q, h2]
      congr 3
      by_cases z : f.length % 2 = 0
      · rw [if_pos z, decide_eq_false (by omega)]
      · rw [if_neg z, decide_eq_true (by omega)]; rfl
    · simp only
      intro x hx
      cases f with
      | nil => simp at hx
      | cons a f =>
        rw [List.cons_append, List.tail_cons, List.mem_append, List.mem_singleton] at hx
        rcases hx with hx | rfl
        · exact h3 x (by rw [List.cons_append, List.tail_cons]; exact List.mem_append_left _ hx)
        · omega
  · rw [if_neg q]
    have hb : b = !d := by cases b <;> cases d <;> simp_all
    refine ⟨?_, ?_, ?_, by simp only [List.length_append, List.length_singleton]; omega⟩
    · simp only
      rw [lineIn_snoc, h1, hb, h2]
      congr 1
      rw [List.length_append, List.length_singleton]
      by_cases z : f.length % 2 = 0
      · rw [if_neg (by omega), decide_eq_false (by omega)]; rfl
      · rw [if_pos (by omega), decide_eq_true (by omega)]; rfl
    · simp only
      rw [hb, h2, List.length_append, List.length_singleton]
      by_cases z : f.length % 2 = 0
      · rw [decide_eq_false (by omega), decide_eq_true (by omega)]; rfl
      · rw [decide_eq_true (by omega), decide_eq_false (by omega)]; rfl
    · simp only
      intro x hx
      cases f with
      | nil =>
        simp at hx
        omega
      | cons a f =>
        rw [List.cons_append, List.cons_append, List.tail_cons, List.mem_append, List.mem_singleton] at hx
        rcases hx with hx | rfl
        · exact h3 x (by rw [List.cons_append, List.tail_cons]; exact hx)
        · omega
theorem run_fold : ∀ (xs pre : List Bool) (s : RS), RInv pre s → RInv (pre ++ xs) (xs.foldl runStep s)
  | [], pre, s, h => by rw [List.append_nil]; exact h
  | x :: xs, pre, s, h => by
    have := run_fold xs (pre ++ [x]) (runStep s x) (run_inv h x)
    rw [List.append_assoc, List.singleton_append] at this
    exact this
def runsOfRow (l : List Bool) : List Nat := (l.foldl runStep ⟨[], false, 0⟩).f ++ [(l.foldl runStep ⟨[], false, 0⟩).n]
theorem runs_inv (l : List Bool) : RInv l (l.foldl runStep ⟨[], false, 0⟩) := by
  have := run_fold l [] ⟨[], false, 0⟩ ⟨rfl, rfl, by simp, Nat.le_refl _⟩
  rw [List.nil_append] at this
  exact this
theorem law_runs_ok {l : List Bool} (hl : l.length ≤ 40) : v_law_runs [VV.rU l] = .val (uN (runsOfRow l)) [] := by
  have hs := rS_signs l
  obtain ⟨j, z⟩ := forV_fold (t := tN 4) (b := L_law_runs_1) (fun b => VV.rU [b]) (fun (s : RS) (j : Option U) => [some (VV.rU l), some (.lst (s.f.map fun n : Nat => U.int (n : Int))), some (VV.rU [s.d]), some (.int (s.n : Int)), j]) runStep l ⟨[], false, 0⟩ none fun pre b post e j => by
    refine ⟨[some (VV.rU l), some (.lst ((pre.foldl runStep ⟨[], false, 0⟩).f.map fun n : Nat => U.int (n : Int))), some (VV.rU [(pre.foldl runStep ⟨[], false, 0⟩).d]), some (.int ((pre.foldl runStep ⟨[], false, 0⟩).n : Int)), some (VV.rU [b])], some (VV.rU [b]), rfl, .inl ?_⟩
    have hi := (runs_inv pre).len
    have h2 := congrArg List.length e
    rw [List.length_append] at h2
    generalize pre.foldl runStep ⟨[], false, 0⟩ = s at *
    obtain ⟨f, d, n⟩ := s
    simp only at hi ⊢
    have c1 : f.length + 1 ≤ 16777216 := by omega
    have e1 : (n : Int) + 1 = ((n + 1 : Nat) : Int) := by omega
    have e2 : ((1 : Nat) : Int) = 1 := rfl
    unfold L_law_runs_1 runStep
    simp only
    by_cases q : b = d
    · rw [if_pos q]
      subst q
      simp only
      have h7 : (f.map fun n : Nat => U.int (n : Int)).length = f.length := List.length_map _
      generalize (f.map fun n : Nat => U.int (n : Int)) = F at *
      clear hi h2 e hl hs
      walk_at "vr"
    · rw [if_neg q]
      simp only
      rw [List.map_append, List.map_cons, List.map_nil]
      have h7 : (f.map fun n : Nat => U.int (n : Int)).length = f.length := List.length_map _
      generalize (f.map fun n : Nat => U.int (n : Int)) = F at *
      clear hi h2 e hl hs
      walk_at "vr"
  have hi := (runs_inv l).len
  unfold runsOfRow
  generalize l.foldl runStep ⟨[], false, 0⟩ = s at *
  obtain ⟨f, d, n⟩ := s
  simp only at hi z ⊢
  have c1 : f.length + 1 ≤ 16777216 := by omega
  have c2 : l.length ≤ 16777216 := by omega
  have e0 : ((0 : Nat) : Int) = 0 := rfl
  rw [List.map_nil, e0] at z
  unfold uN
  rw [List.map_append, List.map_cons, List.map_nil]
  have h7 : (f.map fun n : Nat => U.int (n : Int)).length = f.length := List.length_map _
  generalize (f.map fun n : Nat => U.int (n : Int)) = F at *
  clear hs
  unfold v_law_runs w_law_runs
  clear hi hl
  walk_at "vr"
end LW
set_option Elab.async false
set_option linter.all false
set_option maxRecDepth 100000
set_option maxHeartbeats 4000000
namespace LW
open PySem L2 DD VV Row
local macro_rules | `(tactic| walk_at "vr") => `(tactic| simp only [rS_e, rS_w, rS_b, rS_wb, rS_app, rS_len, rS_inj, rS_at, rS_one, rS_cut, rS_signs, rS_mul, one_eq, vBody, vRetD, vSkip, vSeq, vIfS, vRet, vRetN, vRetT, vAsg, vAsgT, vExpr, vParN, setAll, vAug, vSetI, vHere, vStep, vMut, slot, getP, setP, uPut, uAppend, toUO, tN, tT, tsCons, tsNil, vOr, vAnd, vNot, vTru, vTst, vBin, vUn, vOp, vCall0, vCallN, putO, mapO, vCons, vNil, vVar, vC, vTup, vLst, vIf, vChain, vOrV, vAndV, vNotV, vSl, vSlL, vSlF, voN, voS, vDic, vpCons, vpNil, keysU, keyU, vFor, vEn, vIt, vRng1, vRng2, itU, vLc, vYes, vSolid, flat, flats, ofO, ER.bind, ER.bindS, UO.then, uIsi, tyU, knownT, isiB, uCmp, uIs, uIsNot, isNonU, truU, uAdd, uSub, uMul, uDiv, uMod, uPow, uNeg, uIAdd, uCat, uRep, uLen, lenU, uInt, uSlice, uSliceL, uSum, uAll, uAny, uTuple, uMin, uMax, uList, uIx, seqTU, seqU, uEq_int, uNe_int, uEq_str, uNe_str, wipeU, backU, List.getD_cons_zero, List.getD_cons_succ, vNever, List.map_cons, List.map_nil, List.length_cons, List.length_nil, List.length_map, List.length_range, List.replicate, List.append_nil, List.nil_append, List.cons_append, List.set_cons_zero, List.set_cons_succ, List.set_nil, List.getElem?_cons_zero, List.getElem?_cons_succ, List.getElem?_nil, List.take_succ_cons, List.take_zero, Option.map_some, Option.map_none, Option.isSome_some, Option.bind_some, Nat.reduceAdd, Nat.reduceSub, Nat.zero_add, if_true, if_false, Bool.false_eq_true, Bool.not_true, Bool.not_false, decide_true, decide_false, reduceIte, String.reduceBEq, Bool.or_true, Bool.true_or, Bool.or_false, Bool.false_or, Bool.and_true, Bool.and_false, Bool.true_and, Bool.false_and, Bool.and_self, String.reduceBNe, decide_eq_true_eq, reduceCtorEq, and_self, Int.reducePow, Int.reduceNeg, Int.reduceSub, Int.reduceAdd, Int.reduceMul, Int.reduceLT, Int.reduceLE, Int.reduceToNat, Nat.reducePow, Nat.reduceLT, Nat.reduceLeDiff, true_and, and_true, or_true, true_or, false_or, or_false, ne_eq, not_true_eq_false, not_false_eq_true, na10, na2, Sum.inr.injEq, ofS_inj, String.reduceEq, szl, Nat.zero_le, *])
def goodRuns (ns : List Nat) : Prop := ns ≠ [] ∧ (∀ x ∈ ns.tail, x ≠ 0) ∧ 1 ≤ ns.sum ∧ ns.sum ≤ 40
theorem sum_cast : ∀ ns : List Nat, (ns.map fun n : Nat => (n : Int)).sum = ((ns.sum : Nat) : Int)
  | [] => rfl
  | n :: ns => by
    rw [List.map_cons, List.sum_cons, List.sum_cons, sum_cast ns]
    omega
theorem uN_ints (ns : List Nat) : (ns.map fun n : Nat => U.int (n : Int)) = (ns.map fun n : Nat => (n : Int)).map U.int := by rw [List.map_map]; rfl
theorem runs_all (ns : List Nat) (hn : ns.length ≤ 100) (hs : ∀ x ∈ ns, x ≤ 40) (a0 : Option U) : lcV (tN 1) vYes X_are_runs_1 [1] (ns.map fun n : Nat => U.int (n : Int)) [] [a0, none] = .val ((ns.map fun _ => true).map U.bl) [a0, none] := by
  rw [List.map_map, ← List.nil_append (List.map (U.bl ∘ _) ns)]
  refine lcV_map _ _ _ _ (fun n hm => ?_) (by rw [List.length_nil, szl]; omega)
  have h1 := hs n hm
  have e1 := is_whole_yes (i := (n : Int)) (lo := 0) (hi := 40) (by omega) (by omega)
  refine ⟨_, _, [a0, some (.int (n : Int))], rfl, rfl, ?_, rfl⟩
  unfold X_are_runs_1
  clear h1 hm hs hn
  show _ = ER.val (U.bl true) _
  walk_at "vr"
theorem all_true {α : Type} : ∀ ns : List α, (ns.map fun _ => true).all id = true
  | [] => rfl
  | n :: ns => by rw [List.map_cons, List.all_cons, all_true ns]; rfl
theorem are_runs_ok {ns : List Nat} (h : goodRuns ns) (hn : ns.length ≤ 100) : v_are_runs [uN ns] = .val (.bl true) [] := by
  obtain ⟨h1, h2, h3, h4⟩ := h
  have e1 := runs_all ns hn (fun x hx => Nat.le_trans (le_sum hx) h4) (some (uN ns))
  have e2 := boolsU_map (ns.map fun _ => true)
  have e3 : uEq (uN ns) (.tup []) = some (.bl false) := by
    rw [uEq_ok (plain_le (plain_uN ns) (by decide)) rfl]
    cases ns with
    | nil => exact absurd rfl h1
    | cons n ns => rfl
  have e4 : uNotIn (.int 0) (.tup (cutA (ns.map fun n : Nat => U.int (n : Int)) (some 1) none)) = some (.bl true) := by
    rw [cut_drop _ _ (by decide), show (1 : Int).toNat = 1 from rfl, ← List.map_drop, uNotIn_int]
    · congr 2
      rw [Bool.not_eq_true', List.any_eq_false]
      intro u hu
      obtain ⟨x, hx, rfl⟩ := List.mem_map.mp hu
      have := h2 x (by rw [← List.drop_one]; exact hx)
      simp only [eqB, decide_eq_true_eq]
      omega
    · rw [List.all_eq_true]
      intro u hu
      obtain ⟨x, hx, rfl⟩ := List.mem_map.mp hu
      rfl
  have e5 := intsU_map (ns.map fun n : Nat => (n : Int))
  rw [← uN_ints] at e5
  have e6 := sum_cast ns
  have e7 := all_true ns
  have d1 := decide_eq_true (show (1 : Int) ≤ (ns.sum : Int) by omega)
  have d2 := decide_eq_true (show (ns.sum : Int) ≤ 40 by omega)
  unfold v_are_runs w_are_runs
  clear h1 h2 h3 h4
  unfold uN at *
  generalize (ns.map fun n : Nat => U.int (n : Int)) = S at *
  generalize (ns.map fun _ => true) = T at *
  walk_at "vr"
abbrev uFm (ns : List Nat) : U := .tup [.str "full", uN ns]
theorem is_mode_full {ns : List Nat} (h : goodRuns ns) (hn : ns.length ≤ 100) : v_is_mode [uFm ns] = .val (.bl true) [] := by
  have n2 : ((2 : Nat) : Int) = 2 := rfl
  have e1 := are_runs_ok h hn
  have a0 := at_0 (.str "full") [uN ns]
  have a1 := at_1 (.str "full") (uN ns) []
  have a2 : uEq (.tup [.str "full", uN ns]) (.tup []) = some (.bl false) := by
    have h2 : VV.plain 9 (.str "full") = true := by kernel_rfl
    rw [uEq_ok (by rw [VV.plain, List.all_cons, List.all_cons, plain_le (plain_uN ns) (show 1 ≤ 10 by decide), plain_le h2 (show 9 ≤ 10 by decide)]; rfl) rfl]
    rfl
  unfold v_is_mode w_is_mode uFm
  clear h hn
  generalize uN ns = N at *
  walk_at "vr"
theorem need_full {ns : List Nat} (h : goodRuns ns) (hn : ns.length ≤ 100) : v_need_telling [uF ns] = .val (uF ns) [] := by
  have e1 := is_mode_full h hn
  have n1 : ((1 : Nat) : Int) = 1 := rfl
  have n0 : ((0 : Nat) : Int) = 0 := rfl
  have z : forV (tT 2 (tsCons (tN 1) (tsCons (tN 2) tsNil))) L_need_telling_1 (enumU 0 [uFm ns]) [some (uF ns), none, none] = .nx [some (uF ns), some (.int 0), some (uFm ns)] := by
    unfold L_need_telling_1 uF uFm at *
    clear h hn
    generalize uN ns = N at *
    simp only [enumU, forV]
    walk_at "vr"
  unfold v_need_telling w_need_telling uF uFm at *
  clear h hn e1
  generalize uN ns = N at *
  walk_at "vr"
theorem full_full (ns : List Nat) : v_is_full [uF ns] = .val (.bl true) [] := by
  have a0 := at_0 (uFm ns) []
  have a1 := at_0 (.str "full") [uN ns]
  have n1 : ((1 : Nat) : Int) = 1 := rfl
  unfold v_is_full w_is_full uF uFm at *
  generalize uN ns = N at *
  walk_at "vr"
theorem beside_full {l : List Bool} (hl : l.length ≤ 40) {ns : List Nat} (hs : ns.sum ≤ 100) : v_read_beside [VV.rU l, uF ns] = .val (uO (if (lineIn ns false).length = l.length then some (lineIn ns false) else none)) [] := by
  have e1 := full_full ns
  have e2 := line_in_ok ns hs
  have e5 := lineIn_len ns false
  have a0 := at_0 (uFm ns) []
  have a2 := at_1 (.str "full") (uN ns) []
  have c1 : l.length ≤ 16777216 := by omega
  have c2 : (lineIn ns false).length ≤ 16777216 := by omega
  unfold v_read_beside w_read_beside uF uFm at *
  generalize uN ns = N at *
  by_cases q : (lineIn ns false).length = l.length
  · rw [if_pos q, uO]
    have d := decide_eq_true (show ((lineIn ns false).length : Int) = (l.length : Int) by omega)
    generalize lineIn ns false = R at *
    rw [q] at d
    clear hl hs e5
    walk_at "vr"
  · rw [if_neg q, uO]
    have d := decide_eq_false (show ¬ ((lineIn ns false).length : Int) = (l.length : Int) by omega)
    generalize lineIn ns false = R at *
    clear hl hs e5 q
    walk_at "vr"
theorem read_line_full {l : List Bool} (h1 : 1 ≤ l.length) (hl : l.length ≤ 40) {ns : List Nat} (h : goodRuns ns) (hn : ns.length ≤ 100) : v_read_line [VV.rU l, uF ns] = .val (uO (if (lineIn ns false).length = l.length then some (lineIn ns false) else none)) [] := by
  have e1 := need_line_ok h1 hl
  have e2 := need_full h hn
  have e3 := beside_full hl (ns := ns) (by have := h.2.2.2; omega)
  unfold v_read_line w_read_line
  generalize uO (if (lineIn ns false).length = l.length then some (lineIn ns false) else none) = R at *
  clear h1 hl h hn
  generalize uF ns = T at *
  walk_at "vr"
theorem is_right_ok {a b : U} {x : Option (List Bool)} (h : v_read_line [a, b] = .val (uO x) []) : v_is_right [a, b] = .val (.bl x.isSome) [] := by
  unfold v_is_right w_is_right
  cases x with
  | none =>
    rw [uO] at h
    simp only [Option.isSome_none]
    walk_at "vr"
  | some y =>
    rw [uO] at h
    simp only [Option.isSome_some]
    walk_at "vr"
end LW
set_option Elab.async false
set_option linter.all false
set_option maxRecDepth 100000
set_option maxHeartbeats 4000000
namespace LW
open PySem L2 DD VV Row
local macro_rules | `(tactic| walk_at "vr") => `(tactic| simp only [rS_e, rS_w, rS_b, rS_wb, rS_app, rS_len, rS_inj, rS_at, rS_one, rS_cut, rS_signs, rS_mul, one_eq, vBody, vRetD, vSkip, vSeq, vIfS, vRet, vRetN, vRetT, vAsg, vAsgT, vExpr, vParN, setAll, vAug, vSetI, vHere, vStep, vMut, slot, getP, setP, uPut, uAppend, toUO, tN, tT, tsCons, tsNil, vOr, vAnd, vNot, vTru, vTst, vBin, vUn, vOp, vCall0, vCallN, putO, mapO, vCons, vNil, vVar, vC, vTup, vLst, vIf, vChain, vOrV, vAndV, vNotV, vSl, vSlL, vSlF, voN, voS, vDic, vpCons, vpNil, keysU, keyU, vFor, vEn, vIt, vRng1, vRng2, itU, vLc, vYes, vSolid, flat, flats, ofO, ER.bind, ER.bindS, UO.then, uIsi, tyU, knownT, isiB, uCmp, uIs, uIsNot, isNonU, truU, uAdd, uSub, uMul, uDiv, uMod, uPow, uNeg, uIAdd, uCat, uRep, uLen, lenU, uInt, uSlice, uSliceL, uSum, uAll, uAny, uTuple, uMin, uMax, uList, uIx, seqTU, seqU, uEq_int, uNe_int, uEq_str, uNe_str, wipeU, backU, List.getD_cons_zero, List.getD_cons_succ, vNever, List.map_cons, List.map_nil, List.length_cons, List.length_nil, List.length_map, List.length_range, List.replicate, List.append_nil, List.nil_append, List.cons_append, List.set_cons_zero, List.set_cons_succ, List.set_nil, List.getElem?_cons_zero, List.getElem?_cons_succ, List.getElem?_nil, List.take_succ_cons, List.take_zero, Option.map_some, Option.map_none, Option.isSome_some, Option.bind_some, Nat.reduceAdd, Nat.reduceSub, Nat.zero_add, if_true, if_false, Bool.false_eq_true, Bool.not_true, Bool.not_false, decide_true, decide_false, reduceIte, String.reduceBEq, Bool.or_true, Bool.true_or, Bool.or_false, Bool.false_or, Bool.and_true, Bool.and_false, Bool.true_and, Bool.false_and, Bool.and_self, String.reduceBNe, decide_eq_true_eq, reduceCtorEq, and_self, Int.reducePow, Int.reduceNeg, Int.reduceSub, Int.reduceAdd, Int.reduceMul, Int.reduceLT, Int.reduceLE, Int.reduceToNat, Nat.reducePow, Nat.reduceLT, Nat.reduceLeDiff, true_and, and_true, or_true, true_or, false_or, or_false, ne_eq, not_true_eq_false, not_false_eq_true, na10, na2, Sum.inr.injEq, ofS_inj, String.reduceEq, szl, Nat.zero_le, *])
theorem reads_len {l : List Bool} : ∀ (ms : List Mode) (p : Nat) (c t : Bool) (f r : List Bool), (t = false → p = 0) → f.length = p → reads l ms p c t f = some r → r.length = l.length
  | [], p, c, t, f, r, ht, hf, h => by
    unfold reads at h
    split at h
    · injection h with h
      subst h
      omega
    · cases h
  | m :: ms, p, c, t, f, r, ht, hf, h => by
    unfold reads at h
    split at h
    · rename_i hp
      cases ha : after l m p c t with
      | none => rw [ha] at h; cases h
      | some x =>
        rw [ha] at h
        obtain ⟨e, c'⟩ := x
        have := after_end hp ht ha
        exact reads_len ms e c' true _ r (fun h => Bool.noConfusion h) (by rw [List.length_append]; simp only; omega) h
    · cases h
theorem read_len {l r : List Bool} {ms : List Mode} (h : read l ms = some r) : r.length = l.length := reads_len ms 0 false false [] r (fun _ => rfl) rfl h
/-- both readings agree -/
def Good (T : U) : Prop := ∀ l : List Bool, 1 ≤ l.length → l.length ≤ 40 → ∃ x, v_law_read [VV.rU l, T] = .val (uO x) [] ∧ v_read_line [VV.rU l, T] = .val (uO x) [] ∧ ∀ r, x = some r → r.length ≤ 40
theorem good_plain {ms : List Mode} (h : ∀ m ∈ ms, m.ok) (hm : ms.length ≤ 80) : Good (uT ms) := fun l h1 hl => ⟨read l ms, law_read_ok hl h, read_line_ok h1 hl h hm, fun r hr => by rw [read_len hr]; exact hl⟩
theorem good_full {ns : List Nat} (h : goodRuns ns) (hn : ns.length ≤ 100) : Good (uF ns) := fun l h1 hl => ⟨_, law_read_full hl hn (by have := h.2.2.2; omega), read_line_full h1 hl h hn, fun r hr => by
  split at hr
  · injection hr with hr
    subst hr
    omega
  · cases hr⟩
theorem ref_turn {T : U} (g : Good T) {l : List Bool} (h1 : 1 ≤ l.length) (hl : l.length ≤ 40) (a0 a1 a2 a3 a4 a5 a6 a7 a10 a11 a12 : Option U) : ∃ j10 j11, L_law_2 [a0, a1, a2, a3, a4, a5, a6, a7, some T, some (VV.rU l), a10, a11, a12] = .nx [a0, a1, a2, a3, a4, a5, a6, a7, some T, some (VV.rU l), j10, j11, a12] := by
  obtain ⟨x, e1, e2, hx⟩ := g l h1 hl
  have e3 := is_right_ok e2
  have hok : Ok 0 40 (uO x) := by
    cases x with
    | none => exact ok_non.mono (by omega)
    | some r => exact ok_row (hx r rfl)
  obtain ⟨s, hs⟩ := repr_ex (u := .lst [uO x, .bl x.isSome]) (((ok_lst (d := 0) (w := 40) (n := 2) (fun u hu => by
    simp only [List.mem_cons, List.not_mem_nil, or_false] at hu
    rcases hu with rfl | rfl
    · exact hok
    · exact (ok_bl _).mono (by omega)) (by simp)).deep (by omega)).mono (by omega)) (fun us h => by cases h)
  refine ⟨some (uO x), some (.lst [uO x, .bl x.isSome]), ?_⟩
  clear hok hx h1 hl g
  have e5 := uNe_str s s
  have c2 : (2 : Nat) ≤ 16777216 := by decide
  unfold L_law_2
  cases x with
  | none =>
    unfold uO at *
    simp only [Option.isSome_none] at *
    walk_at "vr"
  | some r =>
    unfold uO at *
    simp only [Option.isSome_some] at *
    walk_at "vr"
theorem one_turn {T : U} (g : Good T) {w : Nat} (h1 : 1 ≤ w) (hw : w ≤ 8) (a0 a1 a2 a4 a5 a6 a7 a9 a10 a11 a12 : Option U) : ∃ j9 j10 j11, L_law_3 [a0, a1, a2, some (.int (w : Int)), a4, a5, a6, a7, some T, a9, a10, a11, a12] = .nx [a0, a1, a2, some (.int (w : Int)), a4, a5, a6, a7, some T, j9, j10, j11, a12] := by
  have key : ∀ v : Nat, 1 ≤ v → v ≤ 10 → ∃ j9 j10 j11, forV (tN 9) L_law_2 ((allR v).map VV.rU) [a0, a1, a2, some (.int (w : Int)), a4, a5, a6, a7, some T, a9, a10, a11, a12] = .nx [a0, a1, a2, some (.int (w : Int)), a4, a5, a6, a7, some T, j9, j10, j11, a12] := by
    intro v hv1 hv
    obtain ⟨j, z⟩ := forV_fold (t := tN 9) (b := L_law_2) VV.rU (fun (_ : Unit) (j : Option U × Option U × Option U) => [a0, a1, a2, some (.int (w : Int)), a4, a5, a6, a7, some T, j.1, j.2.1, j.2.2, a12]) (fun s _ => s) (allR v) () (a9, a10, a11) fun pre l post e j => by
      have hm : l ∈ allR v := by rw [e]; simp
      have hl := allR_mem v l hm
      obtain ⟨j10, j11, z⟩ := ref_turn g (l := l) (by omega) (by omega) a0 a1 a2 (some (.int (w : Int))) a4 a5 a6 a7 j.2.1 j.2.2 a12
      exact ⟨_, (some (VV.rU l), j10, j11), rfl, .inl z⟩
    exact ⟨_, _, _, z⟩
  by_cases q : w < 8
  · obtain ⟨j9, j10, j11, z⟩ := key w h1 (by omega)
    refine ⟨j9, j10, j11, ?_⟩
    have e1 := all_rows_ok w (by omega)
    have d := decide_eq_true (show (w : Int) < 8 by omega)
    generalize (allR w).map VV.rU = R at *
    unfold L_law_3
    generalize L_law_2 = L at *
    clear key g h1 hw q
    walk_at "vr"
  · obtain ⟨j9, j10, j11, z⟩ := key 5 (by omega) (by omega)
    refine ⟨j9, j10, j11, ?_⟩
    have e1 := all_rows_ok 5 (by omega)
    rw [show ((5 : Nat) : Int) = 5 from rfl] at e1
    have d := decide_eq_false (show ¬ (w : Int) < 8 by omega)
    generalize (allR 5).map VV.rU = R at *
    unfold L_law_3
    generalize L_law_2 = L at *
    clear key g h1 hw q
    walk_at "vr"
theorem any_mode_ok {B : Int} {m : U} (D : Dw B m) (hB : B ≤ 3000000000000000000) {w : Nat} (h1 : 1 ≤ w) (hw : w ≤ 40) : ∃ k m', v_law_any_mode [m, .int (w : Int)] = .val (uM k) [some m'] ∧ k.ok ∧ Dw (B + 5) m' := by
  have b40 : (40 : Int) < 10 ^ 40 := by decide
  obtain ⟨x1, m1, z1, p1, q1, D1⟩ := next_ok D (by omega) (n := 7) (by decide) (by decide)
  obtain ⟨x2, m2, z2, p2, q2, D2⟩ := next_ok D1 (by omega) (n := 3) (by decide) (by decide)
  obtain ⟨x3, m3, z3, p3, q3, D3⟩ := next_ok D2 (by omega) (n := (w : Int)) (by omega) (by omega)
  obtain ⟨x4, m4, z4, p4, q4, D4⟩ := next_ok D3 (by omega) (n := (w : Int)) (by omega) (by omega)
  obtain ⟨u, m5, hu, z5, D5⟩ := of_lst D4 (by omega) (us := [.tup [.str "stay", .int (x1 - 3)], .tup [.str "stay", .int (x2 - 1)], .tup [.str "pass"], .tup [.str "runs", .int x3, .int x4]]) (by simp) (by simp)
  obtain ⟨k, hk, rfl⟩ : ∃ k : Mode, k.ok ∧ u = uM k := by
    simp only [List.mem_cons, List.not_mem_nil, or_false] at hu
    rcases hu with rfl | rfl | rfl | rfl
    · exact ⟨.stay (x1 - 3), by unfold Mode.ok; omega, rfl⟩
    · exact ⟨.stay (x2 - 1), by unfold Mode.ok; omega, rfl⟩
    · exact ⟨.pass, trivial, rfl⟩
    · refine ⟨.runs x3.toNat x4.toNat, by unfold Mode.ok; omega, ?_⟩
      show _ = U.tup [.str "runs", .int ((x3.toNat : Nat) : Int), .int ((x4.toNat : Nat) : Int)]
      rw [show ((x3.toNat : Nat) : Int) = x3 by omega, show ((x4.toNat : Nat) : Int) = x4 by omega]
  refine ⟨k, m5, ?_, hk, D5.mono (by omega)⟩
  have c2 : (3 : Nat) ≤ 16777216 := by decide
  have c3 : (1 : Nat) ≤ 16777216 := by decide
  have c4 : (3 : Nat) + 1 ≤ 16777216 := by decide
  unfold v_law_any_mode w_law_any_mode
  clear hB h1 hw hk hu p1 q1 p2 q2 p3 q3 p4 q4 D D1 D2 D3 D4 D5 b40
  generalize uM k = K at *
  walk_at "vr"
end LW
set_option Elab.async false
set_option linter.all false
set_option maxRecDepth 100000
set_option maxHeartbeats 4000000
namespace LW
open PySem L2 DD VV Row
local macro_rules | `(tactic| walk_at "vr") => `(tactic| simp only [rS_e, rS_w, rS_b, rS_wb, rS_app, rS_len, rS_inj, rS_at, rS_one, rS_cut, rS_signs, rS_mul, one_eq, vBody, vRetD, vSkip, vSeq, vIfS, vRet, vRetN, vRetT, vAsg, vAsgT, vExpr, vParN, setAll, vAug, vSetI, vHere, vStep, vMut, slot, getP, setP, uPut, uAppend, toUO, tN, tT, tsCons, tsNil, vOr, vAnd, vNot, vTru, vTst, vBin, vUn, vOp, vCall0, vCallN, putO, mapO, vCons, vNil, vVar, vC, vTup, vLst, vIf, vChain, vOrV, vAndV, vNotV, vSl, vSlL, vSlF, voN, voS, vDic, vpCons, vpNil, keysU, keyU, vFor, vEn, vIt, vRng1, vRng2, itU, vLc, vYes, vSolid, flat, flats, ofO, ER.bind, ER.bindS, UO.then, uIsi, tyU, knownT, isiB, uCmp, uIs, uIsNot, isNonU, truU, uAdd, uSub, uMul, uDiv, uMod, uPow, uNeg, uIAdd, uCat, uRep, uLen, lenU, uInt, uSlice, uSliceL, uSum, uAll, uAny, uTuple, uMin, uMax, uList, uIx, seqTU, seqU, uEq_int, uNe_int, uEq_str, uNe_str, wipeU, backU, List.getD_cons_zero, List.getD_cons_succ, vNever, List.map_cons, List.map_nil, List.length_cons, List.length_nil, List.length_map, List.length_range, List.replicate, List.append_nil, List.nil_append, List.cons_append, List.set_cons_zero, List.set_cons_succ, List.set_nil, List.getElem?_cons_zero, List.getElem?_cons_succ, List.getElem?_nil, List.take_succ_cons, List.take_zero, Option.map_some, Option.map_none, Option.isSome_some, Option.bind_some, Nat.reduceAdd, Nat.reduceSub, Nat.zero_add, if_true, if_false, Bool.false_eq_true, Bool.not_true, Bool.not_false, decide_true, decide_false, reduceIte, String.reduceBEq, Bool.or_true, Bool.true_or, Bool.or_false, Bool.false_or, Bool.and_true, Bool.and_false, Bool.true_and, Bool.false_and, Bool.and_self, String.reduceBNe, decide_eq_true_eq, reduceCtorEq, and_self, Int.reducePow, Int.reduceNeg, Int.reduceSub, Int.reduceAdd, Int.reduceMul, Int.reduceLT, Int.reduceLE, Int.reduceToNat, Nat.reducePow, Nat.reduceLT, Nat.reduceLeDiff, true_and, and_true, or_true, true_or, false_or, or_false, ne_eq, not_true_eq_false, not_false_eq_true, na10, na2, Sum.inr.injEq, ofS_inj, String.reduceEq, szl, Nat.zero_le, *])
theorem good_runs {l : List Bool} (h1 : 1 ≤ l.length) (hl : l.length ≤ 40) : goodRuns (runsOfRow l) ∧ (runsOfRow l).length ≤ 100 := by
  have hi := runs_inv l
  have hs := lineIn_len (runsOfRow l) false
  have h2 : lineIn (runsOfRow l) false = l := hi.line
  rw [h2] at hs
  refine ⟨⟨?_, hi.pos, by omega, by omega⟩, ?_⟩
  · unfold runsOfRow
    simp
  · have := hi.len
    unfold runsOfRow
    rw [List.length_append, List.length_singleton]
    omega
theorem far_comp {B : Int} {m : U} (D : Dw B m) (hB : B ≤ 2000000000000000000) {w : Nat} (h1 : 1 ≤ w) (hw : w ≤ 40) (n : Nat) (hn : n ≤ 5) (a0 a2 a4 a5 a6 a7 a8 a9 a10 a11 : Option U) : ∃ (ms : List Mode) (m' : U), lcV (tN 12) vYes X_law_1 [12] (rangeU 0 n) [] [a0, some m, a2, some (.int (w : Int)), a4, a5, a6, a7, a8, a9, a10, a11, none] = .val (ms.map uM) [a0, some m', a2, some (.int (w : Int)), a4, a5, a6, a7, a8, a9, a10, a11, none] ∧ (∀ k ∈ ms, k.ok) ∧ ms.length = n ∧ Dw (B + 25) m' := by
  obtain ⟨ys, e', z, hR, m2, D2, he⟩ := lcV_inv (t := tN 12) (c := vYes) (x := X_law_1) (own := [12]) (fun i : Nat => U.int (0 + (i : Int))) uM
    (fun k e => ∃ m', Dw (B + 25 - 5 * (k : Int)) m' ∧ e = [a0, some m', a2, some (.int (w : Int)), a4, a5, a6, a7, a8, a9, a10, a11, none]) (fun _ y => y.ok) (List.range n) [] [a0, some m, a2, some (.int (w : Int)), a4, a5, a6, a7, a8, a9, a10, a11, none]
    (fun a ha k e ⟨m', D', he⟩ => by
      subst he
      obtain ⟨y, m2, z, hy, D2⟩ := any_mode_ok D' (by omega) h1 hw
      refine ⟨_, _, y, [a0, some m2, a2, some (.int (w : Int)), a4, a5, a6, a7, a8, a9, a10, a11, some (.int (0 + (a : Int)))], rfl, rfl, ?_, hy, m2, D2.mono (by omega), rfl⟩
      unfold X_law_1
      generalize U.int (0 + (a : Int)) = I at *
      clear hB h1 hw hy D2 D' ha D
      walk_at "vr") (by rw [List.length_nil, List.length_range, szl]; omega) ⟨m, D.mono (by rw [List.length_range]; omega), rfl⟩
  subst he
  have hlen : ∀ {xs : List Nat} {ys : List Mode}, Paired (fun _ (y : Mode) => y.ok) xs ys → ys.length = xs.length ∧ ∀ y ∈ ys, y.ok := by
    intro xs ys h
    induction h with
    | nil => exact ⟨rfl, fun _ h => by cases h⟩
    | cons h _ ih =>
      refine ⟨by rw [List.length_cons, List.length_cons, ih.1], fun y hy => ?_⟩
      rcases List.mem_cons.mp hy with rfl | hy
      · exact h
      · exact ih.2 y hy
  have h3 := hlen hR
  rw [List.length_range] at h3
  refine ⟨ys, m2, ?_, h3.2, h3.1, D2.mono (by omega)⟩
  rw [List.nil_append] at z
  exact z
theorem cut_last {α : Type} (xs : List α) : cutA xs none (some (-1)) = xs.take (xs.length - 1) := by
  unfold cutA
  have e1 : HT.sIx xs.length 0 none = 0 := rfl
  have e2 : HT.sIx xs.length xs.length (some (-1)) = xs.length - 1 := by
    simp only [HT.sIx]
    split <;> omega
  rw [e1, e2, List.drop_zero, Nat.sub_zero]
theorem five {g1 g2 g3 g4 g5 : U} (h : Good g1) (h2 : Good g2) (h3 : Good g3) (h4 : Good g4) (h5 : Good g5) {w : Nat} (hw1 : 1 ≤ w) (hw : w ≤ 8) (a0 a1 a2 a4 a5 a6 a7 a8 a9 a10 a11 a12 : Option U) : ∃ j8 j9 j10 j11, forV (tN 8) L_law_3 [g1, g2, g3, g4, g5] [a0, a1, a2, some (.int (w : Int)), a4, a5, a6, a7, a8, a9, a10, a11, a12] = .nx [a0, a1, a2, some (.int (w : Int)), a4, a5, a6, a7, j8, j9, j10, j11, a12] := by
  obtain ⟨j, z⟩ := forV_fold (t := tN 8) (b := L_law_3) id (fun (_ : Unit) (j : Option U × Option U × Option U × Option U) => [a0, a1, a2, some (.int (w : Int)), a4, a5, a6, a7, j.1, j.2.1, j.2.2.1, j.2.2.2, a12]) (fun s _ => s) [g1, g2, g3, g4, g5] () (a8, a9, a10, a11) fun pre T post e j => by
    have hT : T ∈ [g1, g2, g3, g4, g5] := by rw [e]; simp
    have g : Good T := by
      simp only [List.mem_cons, List.not_mem_nil, or_false] at hT
      rcases hT with rfl | rfl | rfl | rfl | rfl <;> assumption
    obtain ⟨j9, j10, j11, z⟩ := one_turn g hw1 hw a0 a1 a2 a4 a5 a6 a7 j.2.1 j.2.2.1 j.2.2.2 a12
    exact ⟨_, (some T, j9, j10, j11), rfl, .inl z⟩
  rw [List.map_id] at z
  exact ⟨_, _, _, _, z⟩
theorem turn_ok {B : Int} {m : U} (D : Dw B m) (hB : B ≤ 1000000000000000000) (a0 a2 a3 a4 a5 a6 a7 a8 a9 a10 a11 : Option U) : ∃ m' j3 j4 j5 j6 j7 j8 j9 j10 j11, L_law_4 [a0, some m, a2, a3, a4, a5, a6, a7, a8, a9, a10, a11, none] = .nx [a0, some m', a2, j3, j4, j5, j6, j7, j8, j9, j10, j11, none] ∧ Dw (B + 1000) m' := by
  obtain ⟨x1, m1, z1, p1, q1, D1⟩ := next_ok D (by omega) (n := 8) (by decide) (by decide)
  obtain ⟨w, hw⟩ : ∃ w : Nat, 1 + x1 = (w : Int) := ⟨(1 + x1).toNat, by omega⟩
  have hw1 : 1 ≤ w := by omega
  have hw8 : w ≤ 8 := by omega
  obtain ⟨r, m2, z2, hr, D2⟩ := law_row_ok D1 (by omega) (w := w) (by omega)
  obtain ⟨l, m3, z3, hl, D3⟩ := law_near_ok D2 (by omega) (r := r) (by omega) (by omega)
  obtain ⟨ms, m4, z4, ho, hml, hrd, D4⟩ := law_telling_ok D3 (by omega) (l := l) (r := r) (by omega) (by omega)
  obtain ⟨x5, m5, z5, p5, q5, D5⟩ := next_ok D4 (by omega) (n := 5) (by decide) (by decide)
  obtain ⟨ns, m6, z6, no, nl, D6⟩ := far_comp D5 (by omega) (w := w) hw1 (by omega) x5.toNat (by omega) a0 a2 (some (VV.rU r)) (some (VV.rU l)) (some (uT ms)) a7 a8 a9 a10 a11
  have gr := good_runs (l := r) (by omega) (by omega)
  have e1 := law_runs_ok (l := r) (by omega)
  have rl := read_line_ok (l := l) (by omega) (by omega) ho (by omega)
  rw [hrd, uO] at rl
  obtain ⟨s, hs⟩ := repr_ex (u := VV.rU r) (((ok_row (l := r) (w := 40) (by omega)).mono (by omega)).deep (by omega)) (fun us h => by cases h)
  have e5 := uNe_str s s
  have ec : cutA (ms.map uM) none (some (-1)) = (ms.take (ms.length - 1)).map uM := by rw [cut_last, List.length_map, List.map_take]
  obtain ⟨j8, j9, j10, j11, z7⟩ := five (good_plain ho (by omega)) (good_plain no (by omega)) (good_plain (ms := ms.take (ms.length - 1)) (fun k hk => ho k (List.mem_of_mem_take hk)) (by rw [List.length_take]; omega)) (good_full gr.1 gr.2) (good_plain (ms := []) (fun _ h => by cases h) (by simp)) hw1 hw8 a0 (some m6) a2 (some (VV.rU r)) (some (VV.rU l)) (some (uT ms)) (some (uT ns)) a8 a9 a10 a11 none
  refine ⟨m6, some (.int (w : Int)), some (VV.rU r), some (VV.rU l), some (uT ms), some (uT ns), j8, j9, j10, j11, ?_, D6.mono (by omega)⟩
  have e6 : (x5 - 0).toNat = x5.toNat := by omega
  have c2 : ns.length ≤ 16777216 := by omega
  unfold L_law_4
  generalize L_law_3 = L at *
  unfold uT uF at *
  rw [List.map_nil] at z7
  have h7 : (ns.map uM).length = ns.length := List.length_map _
  generalize (ms.take (ms.length - 1)).map uM = M1 at *
  generalize ms.map uM = M at *
  generalize ns.map uM = N at *
  generalize uN (runsOfRow r) = Rr at *
  clear hB p1 q1 hw1 hw8 hr hl ho hml hrd p5 q5 no nl gr D D1 D2 D3 D4 D5 D6
  walk_at "vr"
theorem law_true (ns : List Int) (hl : ns.length ≤ 63) : ∃ o, v_law [.fl (ns.map U.int)] = .val (.bl true) o := by
  obtain ⟨m0, z0, D0⟩ := begun_ok ns hl
  generalize hN : (4 + (if 6 < (ns.length : Int) then (6 : Int) else (ns.length : Int))).toNat = N
  have hN2 : N ≤ 10 := by
    rw [← hN]
    split <;> omega
  obtain ⟨e, ze, m2, j2, j3, j4, j5, j6, j7, j8, j9, j10, j11, rfl, D2⟩ := forV_range (t := tN 2) (b := L_law_4) 0 N (fun i e => ∃ m j2 j3 j4 j5 j6 j7 j8 j9 j10 j11, e = [some (.fl (ns.map U.int)), some m, j2, j3, j4, j5, j6, j7, j8, j9, j10, j11, none] ∧ Dw (1000 * (i : Int)) m) (fun i e hi ⟨m, j2, j3, j4, j5, j6, j7, j8, j9, j10, j11, he, D⟩ => by
    subst he
    obtain ⟨m', k3, k4, k5, k6, k7, k8, k9, k10, k11, z, D'⟩ := turn_ok D (by omega) (some (.fl (ns.map U.int))) (some (.int (0 + (i : Int)))) j3 j4 j5 j6 j7 j8 j9 j10 j11
    exact ⟨_, _, rfl, .inl z, m', _, _, _, _, _, _, _, _, _, _, rfl, D'.mono (by omega)⟩) [some (.fl (ns.map U.int)), some m0, none, none, none, none, none, none, none, none, none, none, none] ⟨m0, _, _, _, _, _, _, _, _, _, _, rfl, D0.mono (by omega)⟩
  have e0 : (4 + (if 6 < (ns.length : Int) then (6 : Int) else (ns.length : Int)) - 0).toNat = N := by
    rw [← hN]
    omega
  refine ⟨[], ?_⟩
  unfold v_law w_law
  generalize L_law_4 = L at *
  clear hN2 D0 D2 hl
  walk_at "vr"
end LW
set_option Elab.async false
set_option linter.all false
set_option maxRecDepth 100000
set_option maxHeartbeats 8000000
namespace LW
open PySem PySem.Spec L2 PyProof.Rows DD VV
/-! ### the head -/
def d_law_begun : He.DefD := ⟨("_law_begun", none), "_law_begun", "_law_begun", defArgs s_law_begun, defBody s_law_begun, defScope s_law_begun, [], []⟩
def d_law_next : He.DefD := ⟨("_law_next", none), "_law_next", "_law_next", defArgs s_law_next, defBody s_law_next, defScope s_law_next, [], []⟩
def d_law_of : He.DefD := ⟨("_law_of", none), "_law_of", "_law_of", defArgs s_law_of, defBody s_law_of, defScope s_law_of, [], []⟩
def d_law_row : He.DefD := ⟨("_law_row", none), "_law_row", "_law_row", defArgs s_law_row, defBody s_law_row, defScope s_law_row, [], []⟩
def d_law_near_row : He.DefD := ⟨("_law_near_row", none), "_law_near_row", "_law_near_row", defArgs s_law_near_row, defBody s_law_near_row, defScope s_law_near_row, [], []⟩
def d_law_changes : He.DefD := ⟨("_law_changes", none), "_law_changes", "_law_changes", defArgs s_law_changes, defBody s_law_changes, defScope s_law_changes, [], []⟩
def d_law_other : He.DefD := ⟨("_law_other", none), "_law_other", "_law_other", defArgs s_law_other, defBody s_law_other, defScope s_law_other, [], []⟩
def d_law_done : He.DefD := ⟨("_law_done", none), "_law_done", "_law_done", defArgs s_law_done, defBody s_law_done, defScope s_law_done, [], []⟩
def d_law_modes : He.DefD := ⟨("_law_modes", none), "_law_modes", "_law_modes", defArgs s_law_modes, defBody s_law_modes, defScope s_law_modes, [], []⟩
def d_law_goes_on : He.DefD := ⟨("_law_goes_on", none), "_law_goes_on", "_law_goes_on", defArgs s_law_goes_on, defBody s_law_goes_on, defScope s_law_goes_on, [], []⟩
def d_law_telling : He.DefD := ⟨("_law_telling", none), "_law_telling", "_law_telling", defArgs s_law_telling, defBody s_law_telling, defScope s_law_telling, [], []⟩
def d_law_all_rows : He.DefD := ⟨("_law_all_rows", none), "_law_all_rows", "_law_all_rows", defArgs s_law_all_rows, defBody s_law_all_rows, defScope s_law_all_rows, [], []⟩
def d_need_line : He.DefD := ⟨("need_line", none), "need_line", "need_line", defArgs s_need_line, defBody s_need_line, defScope s_need_line, [], []⟩
def d_is_full : He.DefD := ⟨("is_full", none), "is_full", "is_full", defArgs s_is_full, defBody s_is_full, defScope s_is_full, [], []⟩
def d_other_colour : He.DefD := ⟨("other_colour", none), "other_colour", "other_colour", defArgs s_other_colour, defBody s_other_colour, defScope s_other_colour, [], []⟩
def d_line_in : He.DefD := ⟨("line_in", none), "line_in", "line_in", defArgs s_line_in, defBody s_line_in, defScope s_line_in, [], []⟩
def d_dots_of : He.DefD := ⟨("dots_of", none), "dots_of", "dots_of", defArgs s_dots_of, defBody s_dots_of, defScope s_dots_of, [], []⟩
def d_change_from : He.DefD := ⟨("change_from", none), "change_from", "change_from", defArgs s_change_from, defBody s_change_from, defScope s_change_from, [], []⟩
def d_change_back : He.DefD := ⟨("change_back", none), "change_back", "change_back", defArgs s_change_back, defBody s_change_back, defScope s_change_back, [], []⟩
def d_after_mode : He.DefD := ⟨("after_mode", none), "after_mode", "after_mode", defArgs s_after_mode, defBody s_after_mode, defScope s_after_mode, [], []⟩
def d_read_beside : He.DefD := ⟨("read_beside", none), "read_beside", "read_beside", defArgs s_read_beside, defBody s_read_beside, defScope s_read_beside, [], []⟩
def d_is_whole : He.DefD := ⟨("is_whole", none), "is_whole", "is_whole", defArgs s_is_whole, defBody s_is_whole, defScope s_is_whole, [], []⟩
def d_are_runs : He.DefD := ⟨("are_runs", none), "are_runs", "are_runs", defArgs s_are_runs, defBody s_are_runs, defScope s_are_runs, [], []⟩
def d_is_mode : He.DefD := ⟨("is_mode", none), "is_mode", "is_mode", defArgs s_is_mode, defBody s_is_mode, defScope s_is_mode, [], []⟩
def d_need_telling : He.DefD := ⟨("need_telling", none), "need_telling", "need_telling", defArgs s_need_telling, defBody s_need_telling, defScope s_need_telling, [], []⟩
def d_read_line : He.DefD := ⟨("read_line", none), "read_line", "read_line", defArgs s_read_line, defBody s_read_line, defScope s_read_line, [], []⟩
def d_law_any_mode : He.DefD := ⟨("_law_any_mode", none), "_law_any_mode", "_law_any_mode", defArgs s_law_any_mode, defBody s_law_any_mode, defScope s_law_any_mode, [], []⟩
def d_law_read : He.DefD := ⟨("_law_read", none), "_law_read", "_law_read", defArgs s_law_read, defBody s_law_read, defScope s_law_read, [], []⟩
def d_law_runs : He.DefD := ⟨("_law_runs", none), "_law_runs", "_law_runs", defArgs s_law_runs, defBody s_law_runs, defScope s_law_runs, [], []⟩
def d_is_right : He.DefD := ⟨("is_right", none), "is_right", "is_right", defArgs s_is_right, defBody s_is_right, defScope s_is_right, [], []⟩
def d_law : He.DefD := ⟨("law", none), "law", "law", defArgs s_law, defBody s_law, defScope s_law, [], []⟩
def fn : List He.DefD := [d_law_begun, d_law_next, d_law_of, d_law_row, d_law_near_row, d_law_changes, d_law_other, d_law_done, d_law_modes, d_law_goes_on, d_law_telling, d_law_all_rows, d_need_line, d_is_full, d_other_colour, d_line_in, d_dots_of, d_change_from, d_change_back, d_after_mode, d_read_beside, d_is_whole, d_are_runs, d_is_mode, d_need_telling, d_read_line, d_law_any_mode, d_law_read, d_law_runs, d_is_right, d_law]
def fa : List He.Fa := [.glo "_law_begun", .glo "_law_next", .glo "_law_of", .glo "_law_row", .glo "_law_near_row", .glo "_law_changes", .glo "_law_other", .glo "_law_done", .glo "_law_modes", .glo "_law_goes_on", .glo "_law_telling", .glo "_law_all_rows", .glo "need_line", .glo "is_full", .glo "other_colour", .glo "line_in", .glo "dots_of", .glo "change_from", .glo "change_back", .glo "after_mode", .glo "read_beside", .glo "is_whole", .glo "are_runs", .glo "is_mode", .glo "need_telling", .glo "read_line", .glo "_law_any_mode", .glo "_law_read", .glo "_law_runs", .glo "is_right", .glo "law", .free "all", .free "bool", .free "enumerate", .free "int", .free "isinstance", .free "len", .free "list", .free "min", .free "range", .free "repr", .free "str", .free "sum", .free "tuple", .str "WHITE" ".", .str "BLACK" "#", .int "MOST_WIDTH" 40, .int "MOST_MODES" 80, .int "MOST_STAY" 3, .str "STAY" "stay", .str "PASS" "pass", .str "RUNS" "runs", .str "FULL" "full"]
abbrev R : PySem.W.OpenRow := PySem.W.OpenLaw.row PySem.Challenge.rw_faxhouse_k43_whole_tellings_read
def ex (K : PySem.W.Frag) : Bool := true
abbrev hk : PySem.W.Hook := He.hookY 4 fa fn ex
def ob (s : PySem.W.SharedT) : He.AlD × Bool := He.obsY 4 fa fn ex (HandSHeadRun.getT s)
theorem ob_eq (s : PySem.W.SharedT) : ob s = hk.obs s.abs := He.obsY_eq (HandSHeadRun.getT_eq s)
def nm0 : List PySem.Str := ["BadLine", "BadTelling", "WHITE", "BLACK", "MOST_WIDTH", "is_whole", "need_line", "other_colour", "are_runs", "line_in", "MOST_MODES", "MOST_STAY", "STAY", "PASS", "RUNS", "FULL", "is_mode", "is_full", "need_telling", "change_from"]
def nm1 : List PySem.Str := ["change_back", "after_mode", "dots_of", "read_beside", "read_line", "is_right", "_law_begun", "_law_next", "_law_of", "_law_row", "_law_near_row", "_law_all_rows", "_law_other", "_law_runs", "_law_changes", "_law_done", "_law_read", "_law_modes", "_law_goes_on", "_law_telling"]
def nm2 : List PySem.Str := ["_law_any_mode"]
def nms : List PySem.Str := nm0 ++ nm1 ++ nm2
theorem run (w : World) : HandSHeadRun.RunEq R (PySem.W.view R.prog [45]) hk ob 100000 nms w := by
  intro os
  kernel_rfl
theorem facts {P : Program} {w : World} {K : PySem.W.Frag} {h : Heap} {mg : MG} {f : Addr} (X : K.In h) (Gn : h.Ns mainGlobals mg) (hfa : mg ("law" : Str) = some (.ref f)) (c : He.SaysD fa fn K) (cx : ex K = true) :
    ∃ fd : FuncData, (∀ (s : Shared) (v : Value), BindsTo s fd ⟨[v], []⟩ [("_law_script", v)]) ∧ ∀ base : Heap, K.In base → base.Ns mainGlobals mg → FnG P w K mg base 7 f fd ["_law_script"] (spM mg K m_law 1) := by
  obtain ⟨fd_law_begun, D_law_begun⟩ := c.def_ 0 (d := d_law_begun) rfl
  have g_law_begun := He.glo_ok X Gn (c.fact 0 (f := .glo "_law_begun") rfl)
  obtain ⟨fd_law_next, D_law_next⟩ := c.def_ 1 (d := d_law_next) rfl
  have g_law_next := He.glo_ok X Gn (c.fact 1 (f := .glo "_law_next") rfl)
  obtain ⟨fd_law_of, D_law_of⟩ := c.def_ 2 (d := d_law_of) rfl
  have g_law_of := He.glo_ok X Gn (c.fact 2 (f := .glo "_law_of") rfl)
  obtain ⟨fd_law_row, D_law_row⟩ := c.def_ 3 (d := d_law_row) rfl
  have g_law_row := He.glo_ok X Gn (c.fact 3 (f := .glo "_law_row") rfl)
  obtain ⟨fd_law_near_row, D_law_near_row⟩ := c.def_ 4 (d := d_law_near_row) rfl
  have g_law_near_row := He.glo_ok X Gn (c.fact 4 (f := .glo "_law_near_row") rfl)
  obtain ⟨fd_law_changes, D_law_changes⟩ := c.def_ 5 (d := d_law_changes) rfl
  have g_law_changes := He.glo_ok X Gn (c.fact 5 (f := .glo "_law_changes") rfl)
  obtain ⟨fd_law_other, D_law_other⟩ := c.def_ 6 (d := d_law_other) rfl
  have g_law_other := He.glo_ok X Gn (c.fact 6 (f := .glo "_law_other") rfl)
  obtain ⟨fd_law_done, D_law_done⟩ := c.def_ 7 (d := d_law_done) rfl
  have g_law_done := He.glo_ok X Gn (c.fact 7 (f := .glo "_law_done") rfl)
  obtain ⟨fd_law_modes, D_law_modes⟩ := c.def_ 8 (d := d_law_modes) rfl
  have g_law_modes := He.glo_ok X Gn (c.fact 8 (f := .glo "_law_modes") rfl)
  obtain ⟨fd_law_goes_on, D_law_goes_on⟩ := c.def_ 9 (d := d_law_goes_on) rfl
  have g_law_goes_on := He.glo_ok X Gn (c.fact 9 (f := .glo "_law_goes_on") rfl)
  obtain ⟨fd_law_telling, D_law_telling⟩ := c.def_ 10 (d := d_law_telling) rfl
  have g_law_telling := He.glo_ok X Gn (c.fact 10 (f := .glo "_law_telling") rfl)
  obtain ⟨fd_law_all_rows, D_law_all_rows⟩ := c.def_ 11 (d := d_law_all_rows) rfl
  have g_law_all_rows := He.glo_ok X Gn (c.fact 11 (f := .glo "_law_all_rows") rfl)
  obtain ⟨fd_need_line, D_need_line⟩ := c.def_ 12 (d := d_need_line) rfl
  have g_need_line := He.glo_ok X Gn (c.fact 12 (f := .glo "need_line") rfl)
  obtain ⟨fd_is_full, D_is_full⟩ := c.def_ 13 (d := d_is_full) rfl
  have g_is_full := He.glo_ok X Gn (c.fact 13 (f := .glo "is_full") rfl)
  obtain ⟨fd_other_colour, D_other_colour⟩ := c.def_ 14 (d := d_other_colour) rfl
  have g_other_colour := He.glo_ok X Gn (c.fact 14 (f := .glo "other_colour") rfl)
  obtain ⟨fd_line_in, D_line_in⟩ := c.def_ 15 (d := d_line_in) rfl
  have g_line_in := He.glo_ok X Gn (c.fact 15 (f := .glo "line_in") rfl)
  obtain ⟨fd_dots_of, D_dots_of⟩ := c.def_ 16 (d := d_dots_of) rfl
  have g_dots_of := He.glo_ok X Gn (c.fact 16 (f := .glo "dots_of") rfl)
  obtain ⟨fd_change_from, D_change_from⟩ := c.def_ 17 (d := d_change_from) rfl
  have g_change_from := He.glo_ok X Gn (c.fact 17 (f := .glo "change_from") rfl)
  obtain ⟨fd_change_back, D_change_back⟩ := c.def_ 18 (d := d_change_back) rfl
  have g_change_back := He.glo_ok X Gn (c.fact 18 (f := .glo "change_back") rfl)
  obtain ⟨fd_after_mode, D_after_mode⟩ := c.def_ 19 (d := d_after_mode) rfl
  have g_after_mode := He.glo_ok X Gn (c.fact 19 (f := .glo "after_mode") rfl)
  obtain ⟨fd_read_beside, D_read_beside⟩ := c.def_ 20 (d := d_read_beside) rfl
  have g_read_beside := He.glo_ok X Gn (c.fact 20 (f := .glo "read_beside") rfl)
  obtain ⟨fd_is_whole, D_is_whole⟩ := c.def_ 21 (d := d_is_whole) rfl
  have g_is_whole := He.glo_ok X Gn (c.fact 21 (f := .glo "is_whole") rfl)
  obtain ⟨fd_are_runs, D_are_runs⟩ := c.def_ 22 (d := d_are_runs) rfl
  have g_are_runs := He.glo_ok X Gn (c.fact 22 (f := .glo "are_runs") rfl)
  obtain ⟨fd_is_mode, D_is_mode⟩ := c.def_ 23 (d := d_is_mode) rfl
  have g_is_mode := He.glo_ok X Gn (c.fact 23 (f := .glo "is_mode") rfl)
  obtain ⟨fd_need_telling, D_need_telling⟩ := c.def_ 24 (d := d_need_telling) rfl
  have g_need_telling := He.glo_ok X Gn (c.fact 24 (f := .glo "need_telling") rfl)
  obtain ⟨fd_read_line, D_read_line⟩ := c.def_ 25 (d := d_read_line) rfl
  have g_read_line := He.glo_ok X Gn (c.fact 25 (f := .glo "read_line") rfl)
  obtain ⟨fd_law_any_mode, D_law_any_mode⟩ := c.def_ 26 (d := d_law_any_mode) rfl
  have g_law_any_mode := He.glo_ok X Gn (c.fact 26 (f := .glo "_law_any_mode") rfl)
  obtain ⟨fd_law_read, D_law_read⟩ := c.def_ 27 (d := d_law_read) rfl
  have g_law_read := He.glo_ok X Gn (c.fact 27 (f := .glo "_law_read") rfl)
  obtain ⟨fd_law_runs, D_law_runs⟩ := c.def_ 28 (d := d_law_runs) rfl
  have g_law_runs := He.glo_ok X Gn (c.fact 28 (f := .glo "_law_runs") rfl)
  obtain ⟨fd_is_right, D_is_right⟩ := c.def_ 29 (d := d_is_right) rfl
  have g_is_right := He.glo_ok X Gn (c.fact 29 (f := .glo "is_right") rfl)
  obtain ⟨fd_law, D_law⟩ := c.def_ 30 (d := d_law) rfl
  have g_law := He.glo_ok X Gn (c.fact 30 (f := .glo "law") rfl)
  have G : Gs mg K := ⟨He.free_ok X Gn (c.fact 31 (f := .free "all") rfl),
    He.free_ok X Gn (c.fact 32 (f := .free "bool") rfl),
    He.free_ok X Gn (c.fact 33 (f := .free "enumerate") rfl),
    He.free_ok X Gn (c.fact 34 (f := .free "int") rfl),
    He.free_ok X Gn (c.fact 35 (f := .free "isinstance") rfl),
    He.free_ok X Gn (c.fact 36 (f := .free "len") rfl),
    He.free_ok X Gn (c.fact 37 (f := .free "list") rfl),
    He.free_ok X Gn (c.fact 38 (f := .free "min") rfl),
    He.free_ok X Gn (c.fact 39 (f := .free "range") rfl),
    He.free_ok X Gn (c.fact 40 (f := .free "repr") rfl),
    He.free_ok X Gn (c.fact 41 (f := .free "str") rfl),
    He.free_ok X Gn (c.fact 42 (f := .free "sum") rfl),
    He.free_ok X Gn (c.fact 43 (f := .free "tuple") rfl),
    He.str_ok X Gn (c.fact 44 (f := .str "WHITE" ".") rfl),
    He.str_ok X Gn (c.fact 45 (f := .str "BLACK" "#") rfl),
    He.int_ok X Gn (c.fact 46 (f := .int "MOST_WIDTH" 40) rfl),
    He.int_ok X Gn (c.fact 47 (f := .int "MOST_MODES" 80) rfl),
    He.int_ok X Gn (c.fact 48 (f := .int "MOST_STAY" 3) rfl),
    He.str_ok X Gn (c.fact 49 (f := .str "STAY" "stay") rfl),
    He.str_ok X Gn (c.fact 50 (f := .str "PASS" "pass") rfl),
    He.str_ok X Gn (c.fact 51 (f := .str "RUNS" "runs") rfl),
    He.str_ok X Gn (c.fact 52 (f := .str "FULL" "full") rfl)⟩
  have e := hfa.symm.trans g_law
  cases e
  have b := FunD.bindsA (ps := ["_law_script"]) D_law fun _ _ _ _ _ _ us hl => match us, hl with | [_], _ => rfl
  refine ⟨fd_law, fun s v => b s [v] rfl, fun base _ _ => ?_⟩
  have F_law_begun : Fn P w K mg base 1 "_law_begun" m_law_begun 1 := ok_law_begun G D_law_begun g_law_begun 
  have F_law_next : Fn P w K mg base 1 "_law_next" m_law_next 2 := ok_law_next G D_law_next g_law_next 
  have F_law_of : Fn P w K mg base 2 "_law_of" m_law_of 2 := ok_law_of G D_law_of g_law_of F_law_next
  have F_law_row : Fn P w K mg base 3 "_law_row" m_law_row 2 := ok_law_row G D_law_row g_law_row F_law_of F_law_next
  have F_law_near_row : Fn P w K mg base 2 "_law_near_row" m_law_near_row 2 := ok_law_near_row G D_law_near_row g_law_near_row F_law_next
  have F_law_changes : Fn P w K mg base 1 "_law_changes" m_law_changes 4 := ok_law_changes G D_law_changes g_law_changes 
  have F_law_other : Fn P w K mg base 1 "_law_other" m_law_other 1 := ok_law_other G D_law_other g_law_other 
  have F_law_done : Fn P w K mg base 2 "_law_done" m_law_done 5 := ok_law_done G D_law_done g_law_done F_law_changes F_law_other
  have F_law_modes : Fn P w K mg base 3 "_law_modes" m_law_modes 5 := ok_law_modes G D_law_modes g_law_modes F_law_done
  have F_law_goes_on : Fn P w K mg base 1 "_law_goes_on" m_law_goes_on 3 := ok_law_goes_on G D_law_goes_on g_law_goes_on 
  have F_law_telling : Fn P w K mg base 4 "_law_telling" m_law_telling 3 := ok_law_telling G D_law_telling g_law_telling F_law_modes F_law_of F_law_goes_on
  have F_law_all_rows : Fn P w K mg base 1 "_law_all_rows" m_law_all_rows 1 := ok_law_all_rows G D_law_all_rows g_law_all_rows 
  have F_need_line : Fn P w K mg base 1 "need_line" m_need_line 1 := ok_need_line G D_need_line g_need_line 
  have F_is_full : Fn P w K mg base 1 "is_full" m_is_full 1 := ok_is_full G D_is_full g_is_full 
  have F_other_colour : Fn P w K mg base 1 "other_colour" m_other_colour 1 := ok_other_colour G D_other_colour g_other_colour 
  have F_line_in : Fn P w K mg base 2 "line_in" m_line_in 1 := ok_line_in G D_line_in g_line_in F_other_colour
  have F_dots_of : Fn P w K mg base 2 "dots_of" m_dots_of 4 := ok_dots_of G D_dots_of g_dots_of F_other_colour
  have F_change_from : Fn P w K mg base 1 "change_from" m_change_from 4 := ok_change_from G D_change_from g_change_from 
  have F_change_back : Fn P w K mg base 1 "change_back" m_change_back 3 := ok_change_back G D_change_back g_change_back 
  have F_after_mode : Fn P w K mg base 2 "after_mode" m_after_mode 5 := ok_after_mode G D_after_mode g_after_mode F_change_from F_other_colour F_change_back
  have F_read_beside : Fn P w K mg base 3 "read_beside" m_read_beside 2 := ok_read_beside G D_read_beside g_read_beside F_is_full F_line_in F_dots_of F_after_mode
  have F_is_whole : Fn P w K mg base 1 "is_whole" m_is_whole 3 := ok_is_whole G D_is_whole g_is_whole 
  have F_are_runs : Fn P w K mg base 2 "are_runs" m_are_runs 1 := ok_are_runs G D_are_runs g_are_runs F_is_whole
  have F_is_mode : Fn P w K mg base 3 "is_mode" m_is_mode 1 := ok_is_mode G D_is_mode g_is_mode F_is_whole F_are_runs
  have F_need_telling : Fn P w K mg base 4 "need_telling" m_need_telling 1 := ok_need_telling G D_need_telling g_need_telling F_is_mode
  have F_read_line : Fn P w K mg base 5 "read_line" m_read_line 2 := ok_read_line G D_read_line g_read_line F_need_line F_read_beside F_need_telling
  have F_law_any_mode : Fn P w K mg base 3 "_law_any_mode" m_law_any_mode 2 := ok_law_any_mode G D_law_any_mode g_law_any_mode F_law_of F_law_next
  have F_law_read : Fn P w K mg base 3 "_law_read" m_law_read 2 := ok_law_read G D_law_read g_law_read F_law_done
  have F_law_runs : Fn P w K mg base 1 "_law_runs" m_law_runs 1 := ok_law_runs G D_law_runs g_law_runs 
  have F_is_right : Fn P w K mg base 6 "is_right" m_is_right 2 := ok_is_right G D_is_right g_is_right F_read_line
  exact ok_law G D_law g_law F_law_begun F_law_row F_law_near_row F_law_telling F_law_next F_law_all_rows F_read_line F_law_any_mode F_law_read F_law_runs F_is_right

end LW
open PySem PySem.W PySem.Calls PyProof.Rows
theorem PySem.Challenge.cw_faxhouse_k43_whole_tellings_read_holds : PySem.Challenge.rw_faxhouse_k43_whole_tellings_read.Holds := by
  w_on; o_law
  refine HandSHeadRun.head_any (r := OpenLaw.row PySem.Challenge.rw_faxhouse_k43_whole_tellings_read) (q := view (OpenLaw.row PySem.Challenge.rw_faxhouse_k43_whole_tellings_read).prog [45]) (H := LW.hk) (ob := LW.ob) (M := 100000) (loose := LW.nms) (d := HandSHeadRun.topDef (OpenLaw.row PySem.Challenge.rw_faxhouse_k43_whole_tellings_read).prog 45) (kwd := []) LW.ob_eq
    (by kernel_rfl) (fun s => by kernel_rfl) LW.run (by kernel_rfl) (by kernel_rfl) (by kernel_rfl) (by rfl) (by first | assumption | decide +kernel) (by decide +kernel) ⟨rfl, rfl, rfl, rfl, rfl, by decide +kernel⟩ ?hw ?hc
  case hw => w_witness2
  case hc =>
    refine DD.walk_G (l := PySem.Challenge.rw_faxhouse_k43_whole_tellings_read) (n := 63) (k := 7) (x := "_law_script") rfl (by decide) (by kernel_rfl) ⟨rfl, by decide, by decide⟩ ?F
    intro w mg fa h Y G hmg0
    obtain ⟨K, KX, c, cx⟩ := Y
    have hmg : mg ("law" : PySem.Str) = some (.ref fa) := by
      have e : (HandSHeadRun.topDef (OpenLaw.row PySem.Challenge.rw_faxhouse_k43_whole_tellings_read).prog 45).name = ("law" : PySem.Str) := by kernel_rfl
      rw [← e]
      exact hmg0
    obtain ⟨fd, hb, hF⟩ := LW.facts (P := (PySem.Challenge.rw_faxhouse_k43_whole_tellings_read).prog) (w := w) KX G hmg c cx
    exact ⟨K, fd, LW.m_law, KX, hb, fun ns hl => VV.law_of LW.sim_law (LW.law_true ns hl) nofun, hF⟩
