import PyProof.Rows.All
import HandS.ForMost
import HandS.Exc
import HandS.TryOnly
import HandS.TryMany
import HandS.WordsExc
import HandS.CallSlots
import HandS.IsInst
import HandS.TupLe
import HandS.TupAny
import HandS.TupMul
import HandS.Style
import HandS.Flow
import HandS.SortInts
import HandS.Conv
import HandS.Walk
import HandS.Deep
import HandS.Zip
import HandS.Wide
import KE.KeyNested
import KE.DataMinMax
import KE.KTupSum
import PyProof.ReprRoads
import HandS.RaiseMore
import KE.GoesEnum
import HandS.TupLen
import KE.KDictDisplayH
import PyProof.LongRange
import HandS.HeadEnd
import HandS.Head0
import HandS.Head1
import HandS.Head2
import HandS.HeadHook1
import HandS.HeadHook2
import HandS.Defaults
import KE.KStateDown
import HandS.StrMore
import HandS.Replace
import HandS.Text
import HandS.Call
import KE.SortData
import HandS.Flt
import PySem.Challenge.RW_faxhouse_k20_whole_windows_of_few_rooms
set_option Elab.async false
set_option linter.all false
set_option maxRecDepth 100000
/-! DD: deep data over the hand layer: values as trees, a small own heap for what may change, one rule a construct. -/
namespace DD
open PySem PySem.Spec PyProof.Rows L2

inductive D where
  | non | bl (b : Bool) | int (i : Int) | str (x : Str) | tup (ds : List D) | fl (ds : List D) | ref (n : Nat) | op (v : V) | gl (x : Str)
/-- a key of a dict -/
inductive KD where
  | non | bl (b : Bool) | int (i : Int) | str (x : Str) | tup (ks : List KD)
/-- dic: whether it is being walked; ins: an instance, its class by name -/
inductive IO where
  | lst (ds : List D) | dic (lk : Bool) (kvs : List (KD × D)) | ins (c : Str) (fs : List (Str × D))
abbrev IH := List IO
abbrev En := List (Option D)
/-- an exception: its class by name, its fields -/
structure XD where
  cls : Str
  fs : List (Str × D)
inductive Res (α : Type) where
  | val (a : α) (h : IH) | exc (x : XD) (h : IH) | stk
inductive Out where
  | nx (e : En) (h : IH) | rt (d : D) (h : IH) | bk (e : En) (h : IH) | ct (e : En) (h : IH) | exc (x : XD) (e : En) (h : IH) | stk

abbrev MG := Str → Option Value
/-- the whole place: what is written, the world, the module's names, the program -/
structure KX where
  F : PySem.W.Frag
  w : World
  mg : MG
  P : Program
instance : CoeOut KX PySem.W.Frag := ⟨KX.F⟩
abbrev _root_.L2.Cx.kx (X : Cx) : KX := ⟨X.K, X.w, X.mg, X.prog⟩
/-- a list that never changes: the script, a list of the module's -/
def FrzL (K : PySem.W.Frag) (H : Hp) (a : Addr) (vs : List V) : Prop :=
  (∃ o, H a = some (.frz o (.lst vs))) ∨ ∃ (o : Obj) (us : Array Value) (n : Nat), K.lookup a = some o ∧ o.cls = .type "list" ∧ o.dict = none ∧ o.data = .seq us n ∧ us.size ≤ sizeLine ∧ Vals vs us.toList
theorem FrzL.sq {K : PySem.W.Frag} {H : Hp} {a : Addr} {vs : List V} (h : FrzL K H a vs) : SqL K H a vs := by
  rcases h with h | h
  · exact .inl (.inr h)
  · exact .inr h
section
variable (K : KX) (H : Hp) (μ : List Addr)
mutual
inductive Rp : V → D → Prop
  | non : Rp .non .non
  | bl (b : Bool) : Rp (.bl b) (.bl b)
  | int (i : Int) : Rp (.int i) (.int i)
  | str (x : Str) : Rp (.str x) (.str x)
  | tup {a : Addr} {vs : List V} {ds : List D} : SqT K H a vs → Rps vs ds → Rp (.ref a) (.tup ds)
  | fl {a : Addr} {vs : List V} {ds : List D} : FrzL K H a vs → Rps vs ds → Rp (.ref a) (.fl ds)
  | ref {a : Addr} {n : Nat} : μ[n]? = some a → Rp (.ref a) (.ref n)
  | op (v : V) : Rp v (.op v)
  | gl {a : Addr} {x : Str} : K.mg x = some (.ref a) → Rp (.ref a) (.gl x)
inductive Rps : List V → List D → Prop
  | nil : Rps [] []
  | cons {v : V} {d : D} {vs : List V} {ds : List D} : Rp v d → Rps vs ds → Rps (v :: vs) (d :: ds)
end
end
structure Mn (K : KX) (H : Hp) (μ : List Addr) (H' : Hp) (μ' : List Addr) : Prop where
  tup : ∀ a xs, SqT K H a xs → SqT K H' a xs
  frz : ∀ a xs, FrzL K H a xs → FrzL K H' a xs
  pre : ∀ (n : Nat) a, μ[n]? = some a → μ'[n]? = some a
  fro : ∀ a o u, H a = some (.frz o u) → H' a = some (.frz o u)
structure Ext (K : KX) (H : Hp) (μ : List Addr) (H' : Hp) (μ' : List Addr) : Prop extends Mn K H μ H' μ' where
  keep : ∀ a o, H a = some o → a ∉ μ → H' a = some o
  fresh : ∀ a, a ∈ μ' → a ∉ μ → H a = none
section
variable {K : KX} {H H' H2 : Hp} {μ μ' μ2 : List Addr}
mutual
theorem Rp.mn (x : Mn K H μ H' μ') : ∀ {v : V} {d : D}, Rp K H μ v d → Rp K H' μ' v d
  | _, _, .non => .non
  | _, _, .bl b => .bl b
  | _, _, .int i => .int i
  | _, _, .str z => .str z
  | _, _, .tup s r => .tup (x.tup _ _ s) (Rps.mn x r)
  | _, _, .fl s r => .fl (x.frz _ _ s) (Rps.mn x r)
  | _, _, .ref e => .ref (x.pre _ _ e)
  | _, _, .op v => .op v
  | _, _, .gl e => .gl e
theorem Rps.mn (x : Mn K H μ H' μ') : ∀ {vs : List V} {ds : List D}, Rps K H μ vs ds → Rps K H' μ' vs ds
  | _, _, .nil => .nil
  | _, _, .cons a b => .cons (Rp.mn x a) (Rps.mn x b)
end
theorem Rp.mono (x : Ext K H μ H' μ') {v : V} {d : D} (r : Rp K H μ v d) : Rp K H' μ' v d := r.mn x.toMn
theorem Rps.mono (x : Ext K H μ H' μ') {v : List V} {d : List D} (r : Rps K H μ v d) : Rps K H' μ' v d := r.mn x.toMn
theorem Ext.refl : Ext K H μ H μ := ⟨⟨fun _ _ h => h, fun _ _ h => h, fun _ _ h => h, fun _ _ _ h => h⟩, fun _ _ h _ => h, fun _ h g => absurd h g⟩
theorem Ext.trans (a : Ext K H μ H' μ') (b : Ext K H' μ' H2 μ2) : Ext K H μ H2 μ2 := by
  refine ⟨⟨fun c xs h => b.tup c xs (a.tup c xs h), fun c xs h => b.frz c xs (a.frz c xs h), fun n c h => b.pre n c (a.pre n c h), fun c o u h => b.fro c o u (a.fro c o u h)⟩, fun c o h g => ?_, fun c h g => ?_⟩
  · refine b.keep c o (a.keep c o h g) fun z => ?_
    have := a.fresh c z g
    rw [h] at this
    cases this
  · by_cases z : c ∈ μ'
    · exact a.fresh c z g
    · cases q : H c with
      | none => rfl
      | some o =>
        have e1 := a.keep c o q g
        rw [b.fresh c h z] at e1
        cases e1
theorem sqT_upd {a p : Addr} {xs : List V} {o : HO} (h : SqT K H a xs) (hp : H p = none) : SqT K (upd H p o) a xs := by
  rcases h with (h | ⟨f, h⟩) | h
  · exact .inl (.inl (by rw [upd_ne (ne_of_none h hp)]; exact h))
  · exact .inl (.inr ⟨f, by rw [upd_ne (ne_of_none h hp)]; exact h⟩)
  · exact .inr h
theorem frzL_upd {a p : Addr} {xs : List V} {o : HO} (h : FrzL K H a xs) (hp : H p = none) : FrzL K (upd H p o) a xs := by
  rcases h with ⟨f, h⟩ | h
  · exact .inl ⟨f, by rw [upd_ne (ne_of_none h hp)]; exact h⟩
  · exact .inr h
theorem Ext.new {p : Addr} {o : HO} (hp : H p = none) : Ext K H μ (upd H p o) μ := ⟨⟨fun _ _ h => sqT_upd h hp, fun _ _ h => frzL_upd h hp, fun _ _ h => h, fun a _ _ h => by rw [upd_ne (ne_of_none h hp)]; exact h⟩, fun a o h _ => by rw [upd_ne (ne_of_none h hp)]; exact h, fun _ h g => absurd h g⟩
theorem Ext.newM {p : Addr} {o : HO} (hp : H p = none) : Ext K H μ (upd H p o) (μ ++ [p]) := by
  refine ⟨⟨fun _ _ h => sqT_upd h hp, fun _ _ h => frzL_upd h hp, fun n a h => ?_, fun a _ _ h => by rw [upd_ne (ne_of_none h hp)]; exact h⟩, fun a o h _ => by rw [upd_ne (ne_of_none h hp)]; exact h, fun a h g => ?_⟩
  · rw [List.getElem?_append_left]
    · exact h
    · exact (List.getElem?_eq_some_iff.mp h).1
  · rcases List.mem_append.mp h with h | h
    · exact absurd h g
    · rw [List.mem_singleton.mp h]
      exact hp
/-- a list, a dict is written -/
theorem sqT_upd_mut {a p : Addr} {xs : List V} {o u : HO} (h : SqT K H a xs) (hp : H p = some u) (h1 : ∀ xs, u ≠ .tup xs) (h2 : ∀ b x, u ≠ .frz b x) : SqT K (upd H p o) a xs := by
  rcases h with (h | ⟨f, h⟩) | h
  · refine .inl (.inl ?_)
    rw [upd_ne]
    · exact h
    · exact ne_of h hp fun e => h1 _ e.symm
  · refine .inl (.inr ⟨f, ?_⟩)
    rw [upd_ne]
    · exact h
    · exact ne_of h hp fun e => h2 _ _ e.symm
  · exact .inr h
theorem frzL_upd_mut {a p : Addr} {xs : List V} {o u : HO} (h : FrzL K H a xs) (hp : H p = some u) (h2 : ∀ b x, u ≠ .frz b x) : FrzL K (upd H p o) a xs := by
  rcases h with ⟨f, h⟩ | h
  · refine .inl ⟨f, ?_⟩
    rw [upd_ne]
    · exact h
    · exact ne_of h hp fun e => h2 _ _ e.symm
  · exact .inr h
theorem Ext.mut {p : Addr} {o u : HO} {n : Nat} (hn : μ[n]? = some p) (hp : H p = some u) (h1 : ∀ xs, u ≠ .tup xs) (h2 : ∀ b x, u ≠ .frz b x) : Ext K H μ (upd H p o) μ :=
  ⟨⟨fun _ _ h => sqT_upd_mut h hp h1 h2, fun _ _ h => frzL_upd_mut h hp h2, fun _ _ h => h, fun a b z h => by rw [upd_ne (ne_of h hp fun e => h2 _ _ e.symm)]; exact h⟩, fun a o h g => by
    rw [upd_ne]
    · exact h
    · exact fun z => g (by rw [z]; exact List.mem_of_getElem? hn), fun _ h g => absurd h g⟩
theorem Rps.length : ∀ {vs : List V} {ds : List D}, Rps K H μ vs ds → vs.length = ds.length
  | _, _, .nil => rfl
  | _, _, .cons _ b => by rw [List.length_cons, List.length_cons, b.length]
theorem Rps.append : ∀ {vs ws : List V} {ds es : List D}, Rps K H μ vs ds → Rps K H μ ws es → Rps K H μ (vs ++ ws) (ds ++ es)
  | _, _, _, _, .nil, s => s
  | _, _, _, _, .cons a b, s => .cons a (b.append s)
theorem Rps.get : ∀ {vs : List V} {ds : List D} {i : Nat} {d : D}, Rps K H μ vs ds → ds[i]? = some d → ∃ v, vs[i]? = some v ∧ Rp K H μ v d
  | _, _, _, _, .nil, e => by simp at e
  | _, _, 0, _, .cons a _, e => by
    simp at e
    subst e
    exact ⟨_, rfl, a⟩
  | _, _, i + 1, _, .cons _ b, e => by
    obtain ⟨v, h1, h2⟩ := b.get (i := i) (by simpa using e)
    exact ⟨v, by simpa using h1, h2⟩
theorem Rps.getV : ∀ {vs : List V} {ds : List D} {i : Nat} {v : V}, Rps K H μ vs ds → vs[i]? = some v → ∃ d, ds[i]? = some d ∧ Rp K H μ v d
  | _, _, _, _, .nil, e => by simp at e
  | _, _, 0, _, .cons a _, e => by
    simp at e
    subst e
    exact ⟨_, rfl, a⟩
  | _, _, i + 1, _, .cons _ b, e => by
    obtain ⟨v, h1, h2⟩ := b.getV (i := i) (by simpa using e)
    exact ⟨v, by simpa using h1, h2⟩
theorem Rps.take : ∀ {vs : List V} {ds : List D} (n : Nat), Rps K H μ vs ds → Rps K H μ (vs.take n) (ds.take n)
  | _, _, 0, _ => .nil
  | _, _, _ + 1, .nil => .nil
  | _, _, n + 1, .cons a b => .cons a (b.take n)
theorem Rps.drop : ∀ {vs : List V} {ds : List D} (n : Nat), Rps K H μ vs ds → Rps K H μ (vs.drop n) (ds.drop n)
  | _, _, 0, r => r
  | _, _, _ + 1, .nil => .nil
  | _, _, n + 1, .cons _ b => b.drop n
theorem Rps.set : ∀ {vs : List V} {ds : List D} (n : Nat) {v : V} {d : D}, Rps K H μ vs ds → Rp K H μ v d → Rps K H μ (vs.set n v) (ds.set n d)
  | _, _, _, _, _, .nil, _ => .nil
  | _, _, 0, _, _, .cons _ b, r => .cons r b
  | _, _, n + 1, _, _, .cons a b, r => .cons a (b.set n r)
theorem Rps.reverse : ∀ {vs : List V} {ds : List D}, Rps K H μ vs ds → Rps K H μ vs.reverse ds.reverse
  | _, _, .nil => .nil
  | _, _, .cons a b => by
    rw [List.reverse_cons, List.reverse_cons]
    exact b.reverse.append (.cons a .nil)

/-! ### the own heap -/
/-! a key up to == -/
mutual
def nk : KD → NestedKey
  | .non => .none
  | .bl b => .num (if b = true then 1 else 0)
  | .int i => .num i
  | .str x => .text x
  | .tup ks => .tup (nks ks)
def nks : List KD → List NestedKey
  | [] => []
  | k :: ks => nk k :: nks ks
end
/-- an int, a text: what may be a key of a dict without tuples -/
def kOf : Key → KD
  | .inl i => .int i
  | .inr x => .str x
mutual
/-- the key as data -/
def unk : KD → D
  | .non => .non
  | .bl b => .bl b
  | .int i => .int i
  | .str x => .str x
  | .tup ks => .tup (unks ks)
def unks : List KD → List D
  | [] => []
  | k :: ks => unk k :: unks ks
end
/-- a dict whose keys are tuples: each key, its tuple, the value -/
def DN (P : Program) (w : World) (a : Addr) (kws : List (NestedKey × Addr × V)) : HO := .ext fun h => kws.length ≤ sizeLine ∧ (a == sysModules) = false ∧ ∃ xs : List (NestedKey × Addr × Value),
  Paired (fun (p : NestedKey × Addr × V) (q : NestedKey × Addr × Value) => p.1 = q.1 ∧ p.2.1 = q.2.1 ∧ RelV p.2.2 q.2.2) kws xs ∧
    ∃ o es ep, h.get? a = some o ∧ o.ExactDict ∧ o.data = .dict es ep ∧ es.toList = xs.map (entryOfKey (nestedKind P w)) ∧ (xs.map (·.1)).Nodup
/-- locked or not -/
def lkd (lk : Bool) (H : Hp) (a : Addr) (u : HO) : Prop := if lk = true then ∃ o, H a = some (.frz o u) else H a = some u
/-- a key with its tuple -/
def Kt (K : KX) (H : Hp) (μ : List Addr) (p : NestedKey × Addr × V) (q : KD × D) : Prop := p.1 = nk q.1 ∧ (nk q.1).depth ≤ 8 ∧ Rp K H μ (.ref p.2.1) (unk q.1) ∧ Rp K H μ p.2.2 q.2
def OkO (K : KX) (H : Hp) (μ : List Addr) (a : Addr) : IO → Prop
  | .lst ds => ∃ vs, H a = some (.lst vs) ∧ Rps K H μ vs ds
  | .dic lk kvs => (∃ kws : List (Key × V), lkd lk H a (.dK kws) ∧ kws.map (fun p => kOf p.1) = kvs.map (·.1) ∧ Rps K H μ (kws.map (·.2)) (kvs.map (·.2))) ∨
      ∃ kws : List (NestedKey × Addr × V), lkd lk H a (DN K.P K.w a kws) ∧ kvs ≠ [] ∧ Paired (Kt K H μ) kws kvs
  | .ins c fs => ∃ (C dx : Addr) (ws : List (Str × V)), H a = some (.ins C dx ws) ∧ K.mg c = some (.ref C) ∧ ws.map (·.1) = fs.map (·.1) ∧ Rps K H μ (ws.map (·.2)) (fs.map (·.2))
theorem lkd.mn {H H' : Hp} {lk : Bool} {a : Addr} {u : HO} (e : H' a = H a) (h : lkd lk H a u) : lkd lk H' a u := by
  unfold lkd at h ⊢
  rw [e]
  exact h
theorem lkd.some {lk : Bool} {H : Hp} {a : Addr} {u : HO} (h : lkd lk H a u) (hu : ∀ xs, u ≠ .tup xs) : ∃ u, H a = some u ∧ ∀ xs, u ≠ .tup xs := by
  unfold lkd at h
  split at h
  · obtain ⟨o, h⟩ := h
    exact ⟨_, h, fun _ e => by cases e⟩
  · exact ⟨_, h, hu⟩
theorem lkd.rd {lk : Bool} {H : Hp} {a : Addr} {u : HO} (h : lkd lk H a u) : Rd H a u := by
  unfold lkd at h
  split at h
  · exact .inr h
  · exact .inl h
structure Rl (K : KX) (H : Hp) (μ : List Addr) (h : IH) : Prop where
  nd : μ.Nodup
  len : μ.length = h.length
  ok : ∀ (n : Nat) a o, μ[n]? = some a → h[n]? = some o → OkO K H μ a o
def EnvR (K : KX) (H : Hp) (μ : List Addr) (σ : L2.St) (env : En) : Prop := σ.length = env.length ∧ ∀ (i : Nat) d, env[i]? = some (some d) → ∃ v, σ[i]? = some (some v) ∧ Rp K H μ v d
theorem EnvR.mono {σ : L2.St} {env : En} (x : Ext K H μ H' μ') (r : EnvR K H μ σ env) : EnvR K H' μ' σ env := ⟨r.1, fun i d e => by
  obtain ⟨v, h1, h2⟩ := r.2 i d e
  exact ⟨v, h1, h2.mono x⟩⟩
theorem EnvR.set {σ : L2.St} {env : En} {i : Nat} {v : V} {d : D} (r : EnvR K H μ σ env) (q : Rp K H μ v d) : EnvR K H μ (σ.set i (some v)) (env.set i (some d)) := by
  refine ⟨by rw [List.length_set, List.length_set]; exact r.1, fun j d' e => ?_⟩
  rw [List.getElem?_set] at e ⊢
  by_cases hij : i = j
  · subst hij
    rw [if_pos rfl] at e ⊢
    by_cases hi : i < env.length
    · rw [if_pos hi] at e
      rw [if_pos (by rw [r.1]; exact hi)]
      cases e
      exact ⟨v, rfl, q⟩
    · rw [if_neg hi] at e
      cases e
  · rw [if_neg hij] at e ⊢
    exact r.2 j d' e
/-- no tuple is a key -/
def kk : KD → Bool
  | .int _ => true
  | .str _ => true
  | _ => false
theorem OkO.dk {a : Addr} {lk : Bool} {kvs : List (KD × D)} (q : OkO K H μ a (.dic lk kvs)) (hk : (kvs.all fun p => kk p.1) = true) : ∃ kws : List (Key × V), lkd lk H a (.dK kws) ∧ kws.map (fun p => kOf p.1) = kvs.map (·.1) ∧ Rps K H μ (kws.map (·.2)) (kvs.map (·.2)) := by
  rcases q with q | ⟨kws, h1, h2, h3⟩
  · exact q
  · cases h3 with
    | nil => exact absurd rfl h2
    | @cons p q ps qs r t =>
      rw [List.all_cons, Bool.and_eq_true] at hk
      obtain ⟨_, _, r3, _⟩ := r
      obtain ⟨k, d⟩ := q
      cases k <;> first | (cases hk.1; done) | (cases r3; done)
theorem OkO.mn {a : Addr} {o : IO} (x : Mn K H μ H' μ') (e : H' a = H a) : OkO K H μ a o → OkO K H' μ' a o := by
  intro q
  cases o with
  | lst ds =>
    obtain ⟨vs, h1, h2⟩ := q
    exact ⟨vs, e.trans h1, h2.mn x⟩
  | dic lk kvs =>
    rcases q with ⟨kws, h1, h2, h3⟩ | ⟨kws, h1, h2, h3⟩
    · exact .inl ⟨kws, h1.mn e, h2, h3.mn x⟩
    · exact .inr ⟨kws, h1.mn e, h2, Paired.mapP h3 fun p q z => ⟨z.1, z.2.1, z.2.2.1.mn x, z.2.2.2.mn x⟩⟩
  | ins c fs =>
    obtain ⟨C, dx, ws, h1, h2, h3, h4⟩ := q
    exact ⟨C, dx, ws, e.trans h1, h2, h3, h4.mn x⟩
theorem OkO.mono {a : Addr} {o : IO} (x : Ext K H μ H' μ') (e : H' a = H a) (q : OkO K H μ a o) : OkO K H' μ' a o := q.mn x.toMn e
theorem OkO.some {a : Addr} {o : IO} (q : OkO K H μ a o) : ∃ u, H a = some u ∧ ∀ xs, u ≠ .tup xs := by
  cases o with
  | lst ds =>
    obtain ⟨vs, h1, h2⟩ := q
    exact ⟨_, h1, fun _ e => by cases e⟩
  | dic lk kvs =>
    rcases q with ⟨kws, h1, h2, h3⟩ | ⟨kws, h1, h2, h3⟩
    · exact h1.some fun _ e => by cases e
    · exact h1.some fun _ e => by cases e
  | ins c fs =>
    obtain ⟨C, dx, ws, h1, h2, h3, h4⟩ := q
    exact ⟨_, h1, fun _ e => by cases e⟩
theorem Rl.at {h : IH} {n : Nat} {a : Addr} (r : Rl K H μ h) (e : μ[n]? = some a) : ∃ o, h[n]? = some o ∧ OkO K H μ a o := by
  have hn : n < h.length := by
    rw [← r.len]
    exact (List.getElem?_eq_some_iff.mp e).1
  exact ⟨h[n], List.getElem?_eq_getElem hn, r.ok n a _ e (List.getElem?_eq_getElem hn)⟩
theorem Rl.addr {h : IH} {n : Nat} {o : IO} (r : Rl K H μ h) (e : h[n]? = some o) : ∃ a, μ[n]? = some a ∧ OkO K H μ a o := by
  have hn : n < μ.length := by
    rw [r.len]
    exact (List.getElem?_eq_some_iff.mp e).1
  exact ⟨μ[n], List.getElem?_eq_getElem hn, r.ok n _ _ (List.getElem?_eq_getElem hn) e⟩
theorem Rl.old {h : IH} {n : Nat} {a p : Addr} (r : Rl K H μ h) (e : μ[n]? = some a) (hp : H p = none) : a ≠ p := by
  obtain ⟨o, _, q⟩ := r.at e
  obtain ⟨u, hu, _⟩ := q.some
  exact ne_of_none hu hp
/-- a new thing that the own heap does not hold -/
theorem Rl.new {h : IH} {p : Addr} {u : HO} (r : Rl K H μ h) (hp : H p = none) : Rl K (upd H p u) μ h :=
  ⟨r.nd, r.len, fun n a o e1 e2 => (r.ok n a o e1 e2).mono (Ext.new hp) (upd_ne (r.old e1 hp))⟩
/-- a new thing that it holds -/
theorem Rl.newM {h : IH} {p : Addr} {u : HO} {o : IO} (r : Rl K H μ h) (hp : H p = none) (q : OkO K (upd H p u) (μ ++ [p]) p o) : Rl K (upd H p u) (μ ++ [p]) (h ++ [o]) := by
  refine ⟨?_, by rw [List.length_append, List.length_append, r.len]; rfl, fun n a o' e1 e2 => ?_⟩
  · rw [List.nodup_append]
    refine ⟨r.nd, by simp, fun a ha b hb => ?_⟩
    rw [List.mem_singleton] at hb
    subst hb
    obtain ⟨n, hn, e⟩ := List.mem_iff_getElem.mp ha
    exact r.old (n := n) (by rw [List.getElem?_eq_getElem hn, e]) hp
  · by_cases hn : n < μ.length
    · rw [List.getElem?_append_left hn] at e1
      rw [List.getElem?_append_left (by rw [← r.len]; exact hn)] at e2
      exact (r.ok n a o' e1 e2).mono (Ext.newM hp) (upd_ne (r.old e1 hp))
    · rw [List.getElem?_append_right (by omega)] at e1
      rw [List.getElem?_append_right (by rw [← r.len]; omega), ← r.len] at e2
      have hz : n - μ.length = 0 := by
        have := (List.getElem?_eq_some_iff.mp e1).1
        rw [List.length_singleton] at this
        omega
      rw [hz] at e1 e2
      cases e1
      cases e2
      exact q
/-- a thing that it holds is changed -/
theorem Rl.set {h : IH} {n : Nat} {a : Addr} {u : HO} {o : IO} (r : Rl K H μ h) (e : μ[n]? = some a) (x : Ext K H μ (upd H a u) μ) (q : OkO K (upd H a u) μ a o) : Rl K (upd H a u) μ (h.set n o) := by
  refine ⟨r.nd, by rw [List.length_set]; exact r.len, fun j b o' e1 e2 => ?_⟩
  by_cases hj : n = j
  · subst hj
    rw [e] at e1
    cases e1
    rw [List.getElem?_set_self (by rw [← r.len]; exact (List.getElem?_eq_some_iff.mp e).1)] at e2
    cases e2
    exact q
  · rw [List.getElem?_set_ne hj] at e2
    have hb : b ≠ a := fun z => by
      subst z
      have h1 := (List.getElem?_eq_some_iff.mp e)
      have h2 := (List.getElem?_eq_some_iff.mp e1)
      obtain ⟨l1, g1⟩ := h1
      obtain ⟨l2, g2⟩ := h2
      exact hj ((List.getElem_inj r.nd).mp (g1.trans g2.symm))
    exact (r.ok j b o' e1 e2).mono x (upd_ne hb)
theorem Rl.inj {h : IH} {n m : Nat} {a : Addr} (r : Rl K H μ h) (e1 : μ[n]? = some a) (e2 : μ[m]? = some a) : n = m := by
  obtain ⟨l1, g1⟩ := List.getElem?_eq_some_iff.mp e1
  obtain ⟨l2, g2⟩ := List.getElem?_eq_some_iff.mp e2
  exact (List.getElem_inj r.nd).mp (g1.trans g2.symm)
end

/-! ### exceptions, ends -/
def XR (mg : MG) (K : KX) (H : Hp) (μ : List Addr) (x : XD) (cls : Value) (dd : Option Addr) : Prop :=
  mg x.cls = some cls ∧ ((x.fs = [] ∧ dd = none) ∨ ∃ d ws, dd = some d ∧ H d = some (.xd ws) ∧ ws.map (·.1) = x.fs.map (·.1) ∧ Rps K H μ (ws.map (·.2)) (x.fs.map (·.2)))

section
variable (mg : MG) (K : KX) (W : WX)
def Po {α β : Type} (R : Hp → List Addr → β → α → Prop) (σ : L2.St) (H : Hp) (μ : List Addr) : Res α → (β → Hp → Prop) → Prop
  | .val d h', Q => ∀ v μ' H', Ext K H μ H' μ' → Rl K H' μ' h' → R H' μ' v d → Q v H'
  | .exc x h', _ => ∀ cls dd μ' H', Ext K H μ H' μ' → Rl K H' μ' h' → XR mg K H' μ' x cls dd → W cls dd σ H'
  | .stk, _ => False
abbrev RpT : Hp → List Addr → Bool → Bool → Prop := fun _ _ b a => b = a
abbrev PoE := Po mg K W (Rp K)
abbrev PoA := Po mg K W (Rps K)
abbrev PoT := Po mg K W RpT
def PoS (H : Hp) (μ : List Addr) : Out → Ends → Prop
  | .nx e h', Z => ∀ σ' μ' H', Ext K H μ H' μ' → Rl K H' μ' h' → EnvR K H' μ' σ' e → Z.nx σ' H'
  | .rt d h', Z => ∀ v μ' H', Ext K H μ H' μ' → Rl K H' μ' h' → Rp K H' μ' v d → Z.rt v H'
  | .bk e h', Z => ∀ σ' μ' H', Ext K H μ H' μ' → Rl K H' μ' h' → EnvR K H' μ' σ' e → Z.bk σ' H'
  | .ct e h', Z => ∀ σ' μ' H', Ext K H μ H' μ' → Rl K H' μ' h' → EnvR K H' μ' σ' e → Z.ct σ' H'
  | .exc x e h', _ => ∀ cls dd σ' μ' H', Ext K H μ H' μ' → Rl K H' μ' h' → EnvR K H' μ' σ' e → XR mg K H' μ' x cls dd → W cls dd σ' H'
  | .stk, _ => False
abbrev ME := En → IH → Res D
abbrev MT := En → IH → Res Bool
abbrev MA := En → IH → Res (List D)
abbrev MS := En → IH → Out
def RE (m : ME) : TE := fun σ H Q => ∃ μ h env, Rl K H μ h ∧ EnvR K H μ σ env ∧ PoE mg K W σ H μ (m env h) Q
def RT (m : MT) : TT := fun σ H Q => ∃ μ h env, Rl K H μ h ∧ EnvR K H μ σ env ∧ PoT mg K W σ H μ (m env h) Q
def RA (m : MA) : TA := fun σ H Q => ∃ μ h env, Rl K H μ h ∧ EnvR K H μ σ env ∧ PoA mg K W σ H μ (m env h) Q
def RS (m : MS) : TS := fun Z σ H => ∃ μ h env, Rl K H μ h ∧ EnvR K H μ σ env ∧ PoS mg K W H μ (m env h) Z
end
def QE (X : Cx) (W : WX) (e : Expr) (m : ME) : Prop := PE X e (RE X.mg X.kx W m)
def QT (X : Cx) (W : WX) (e : Expr) (m : MT) : Prop := PT X e (RT X.mg X.kx W m)
def QA (X : Cx) (W : WX) (es : List Expr) (m : MA) : Prop := PA X es (RA X.mg X.kx W m)
def QS (X : Cx) (W : WX) (s : Stmt) (m : MS) : Prop := PS X s (RS X.mg X.kx W m)
def QSs (X : Cx) (W : WX) (s : List Stmt) (m : MS) : Prop := PSs X s (RS X.mg X.kx W m)

section
variable {X : Cx}
theorem PE.imp {e : Expr} {t t' : TE} (h : PE X e t) (i : ∀ σ H Q, t' σ H Q → t σ H Q) : PE X e t' := ⟨fun pins s σ H Q I q => h.run pins s σ H Q I (i σ H Q q)⟩
theorem PT.imp {e : Expr} {t t' : TT} (h : PT X e t) (i : ∀ σ H Q, t' σ H Q → t σ H Q) : PT X e t' := ⟨fun pins s σ H Q I q => h.run pins s σ H Q I (i σ H Q q)⟩
theorem PW.imp {e : Expr} {t t' : TT} (h : PW X e t) (i : ∀ σ H Q, t' σ H Q → t σ H Q) : PW X e t' := ⟨fun wh pins s σ H Q I q => h.run wh pins s σ H Q I (i σ H Q q)⟩
theorem PA.imp {e : List Expr} {t t' : TA} (h : PA X e t) (i : ∀ σ H Q, t' σ H Q → t σ H Q) : PA X e t' := ⟨fun pos pins s σ H Q I q => h.run pos pins s σ H Q I (i σ H Q q)⟩
theorem PS.imp {e : Stmt} {t t' : TS} (h : PS X e t) (i : ∀ Z σ H, t' Z σ H → t Z σ H) : PS X e t' := ⟨fun pins s σ H Z I q => h.run pins s σ H Z I (i Z σ H q)⟩
theorem PSs.imp {e : List Stmt} {t t' : TS} (h : PSs X e t) (i : ∀ Z σ H, t' Z σ H → t Z σ H) : PSs X e t' := ⟨fun pins s σ H Z I q => h.run pins s σ H Z I (i Z σ H q)⟩
end

/-! ### the monad -/
def Res.bind {α β : Type} (r : Res α) (f : α → IH → Res β) : Res β := match r with
  | .val a h => f a h
  | .exc x h => .exc x h
  | .stk => .stk
def mVar (i : Nat) : ME := fun env h => match env[i]? with
  | some (some d) => .val d h
  | _ => .stk
def mC (d : D) : ME := fun _ h => .val d h
def mUn (f : D → IH → Res D) (a : ME) : ME := fun env h => (a env h).bind f
def mBin (f : D → D → IH → Res D) (a b : ME) : ME := fun env h => (a env h).bind fun x h1 => (b env h1).bind fun y h2 => f x y h2
def mNil : MA := fun _ h => .val [] h
def mCons (a : ME) (r : MA) : MA := fun env h => (a env h).bind fun x h1 => (r env h1).bind fun xs h2 => .val (x :: xs) h2
def mCall (f : List D → IH → Res D) (r : MA) : ME := fun env h => (r env h).bind f

section
variable {mg : MG} {K : KX} {W : WX} {σ : L2.St} {H H' : Hp} {μ μ' : List Addr}
/-- an end behind an end -/
theorem Po.ext {α β : Type} {R : Hp → List Addr → β → α → Prop} {r : Res α} {Q : β → Hp → Prop} (x : Ext K H μ H' μ') (p : Po mg K W R σ H μ r Q) : Po mg K W R σ H' μ' r Q := by
  cases r with
  | val d h => exact fun v μ2 H2 y a b => p v μ2 H2 (x.trans y) a b
  | exc z h => exact fun c d μ2 H2 y a b => p c d μ2 H2 (x.trans y) a b
  | stk => exact p
theorem PoS.ext {r : Out} {Z : Ends} (x : Ext K H μ H' μ') (p : PoS mg K W H μ r Z) : PoS mg K W H' μ' r Z := by
  cases r with
  | nx e h => exact fun v μ2 H2 y a b => p v μ2 H2 (x.trans y) a b
  | rt d h => exact fun v μ2 H2 y a b => p v μ2 H2 (x.trans y) a b
  | bk e h => exact fun v μ2 H2 y a b => p v μ2 H2 (x.trans y) a b
  | ct e h => exact fun v μ2 H2 y a b => p v μ2 H2 (x.trans y) a b
  | exc z e h => exact fun c d s μ2 H2 y a b => p c d s μ2 H2 (x.trans y) a b
  | stk => exact p
/-- one thing behind another -/
theorem Po.then {α β α' β' : Type} {R : Hp → List Addr → β → α → Prop} {R' : Hp → List Addr → β' → α' → Prop} {r : Res α} {Q : β' → Hp → Prop} {f : α → IH → Res α'} (p : Po mg K W R' σ H μ (r.bind f) Q) {Q' : β → Hp → Prop}
    (h : ∀ d h' v μ' H', Ext K H μ H' μ' → Rl K H' μ' h' → R H' μ' v d → Po mg K W R' σ H' μ' (f d h') Q → Q' v H') : Po mg K W R σ H μ r Q' := by
  cases r with
  | val d h' => exact fun v μ' H' x rl rp => h d h' v μ' H' x rl rp (Po.ext x p)
  | exc x h' => exact p
  | stk => exact p
def Res.bindS {α : Type} (r : Res α) (env : En) (f : α → IH → Out) : Out := match r with
  | .val a h => f a h
  | .exc x h => .exc x env h
  | .stk => .stk
theorem Po.thenS {α β : Type} {R : Hp → List Addr → β → α → Prop} {r : Res α} {Z : Ends} {env : En} {f : α → IH → Out} (er : EnvR K H μ σ env) (p : PoS mg K W H μ (r.bindS env f) Z) {Q' : β → Hp → Prop}
    (h : ∀ d h' v μ' H', Ext K H μ H' μ' → Rl K H' μ' h' → R H' μ' v d → PoS mg K W H' μ' (f d h') Z → Q' v H') : Po mg K W R σ H μ r Q' := by
  cases r with
  | val d h' => exact fun v μ' H' x rl rp => h d h' v μ' H' x rl rp (PoS.ext x p)
  | exc x h' => exact fun cls dd μ' H' y rl xr => p cls dd σ μ' H' y rl (er.mono y) xr
  | stk => exact p
end
end DD
set_option Elab.async false
set_option linter.all false
set_option maxRecDepth 100000
namespace DD
open PySem PySem.Spec L2 PyProof.Rows

/-! ### where one stands -/
structure Ctx (X : Cx) (W : WX) (k : Nat) : Prop where
  tk : Takes X W
  po : PassesOwn (model X.prog X.w) X.A X.env X.xe
  room : Room k X.A
  gd : X.A.guards = some []
  calm : X.calm = true
  nd : X.N.Nodup
abbrev W0 : WX := fun _ _ _ _ => False
theorem Ctx.blk {X : Cx} {W : WX} {k : Nat} (C : Ctx X W k) {s : Shared} {H : Hp} {sc : Scope} {ce : Env} {fp : List Addr} : Ctx (X.blk s H sc ce fp) W0 k :=
  ⟨takes0, PassesOwn.never, C.room, C.gd, C.calm, C.nd⟩
theorem Ctx.mono {X : Cx} {W : WX} {j k : Nat} (C : Ctx X W k) (h : j ≤ k) : Ctx X W j := ⟨C.tk, C.po, C.room.mono h, C.gd, C.calm, C.nd⟩

/-! ### a def's promise where nothing is being shown (repr) -/
structure FnG (P : Program) (w : World) (K : PySem.W.Frag) (mg : MG) (base : Heap) (k : Nat) (f : Addr) (fd : FuncData) (ps : List Str) (sp : Sp) : Prop where
  len : ∀ vs H Q E, sp vs H Q E → vs.length = ps.length
  run : ∀ (A : Around) (out : List Env) (s : Shared) (H : Hp) (ar : Args) (us : List Value) (vs : List V) (Q : VK) (E : XK), A.guards = some [] → Room k A →
    Env0 P w K mg base A out s H → BindsTo s fd ar (ps.zip us) → Vals vs us → sp vs H Q E → codeAny (model P w) A (.call (.ref f) ar) (CR (CX P w) out P w H s Q E) s
theorem fnG_of {P : Program} {w : World} {K : PySem.W.Frag} {mg : MG} {base : Heap} {k : Nat} {f : Addr} {nm qu : Str} {pa : Arguments} {bo : List Stmt} {sc : Scope} {dV kV do' pm cv ct oc : Value} {an od : Option Addr}
    {sl : Array (Option Value)} {N ps : List Str} {sp : Sp} (lk : K.lookup f = some ⟨oc, od, .func (PySem.W.fnOf nm qu pa bo sc dV kV do' pm an cv ct), sl⟩) (hc : PySem.W.codeIn K cv qu = true) (S : FnScope N ps sc)
    (ln : ∀ vs H Q E, sp vs H Q E → vs.length = ps.length)
    (hb : ∀ (A : Around) (out : List Env) (s : Shared) (H : Hp) (vs : List V) (Q : VK) (E : XK), A.guards = some [] → Room k (A.deeper (envOfC qu sc s.heap.objs.size f cv)) → sp vs H Q E →
      ∃ t, PSs (cxOf (CX P w) P w K mg base N qu sc f cv A out s H E) bo t ∧ t { nx := fun _ H' => Q .non H', rt := Q } (start N vs) H) :
    FnG P w K mg base (k + 1) f (PySem.W.fnOf nm qu pa bo sc dV kV do' pm an cv ct) ps sp := by
  refine ⟨ln, fun A out s H ar us vs Q E gd ro e0 hbi rv hs => ?_⟩
  have le := ln _ _ _ _ hs
  have KI : K.In s.heap := e0.mod.kin.keeps fun b o z => (e0.bs b o z).1
  have nl : s.heap.NoLimit := e0.mod.nolimit.keeps fun b o z => (e0.bs b o z).1
  have kd : ∀ y ∈ ps.zip us, sc.names.lookup y.1 = some .local ∨ (sc.names.lookup y.1 = some .cell ∧ ((cellsFrom (s.heap.objs.size + 1) sc.names []).lookup y.1).isSome = true) := fun ⟨n, v⟩ hy => by
    rcases S.par n (List.of_mem_zip hy).1 with z | z
    · exact .inl z
    · exact .inr ⟨z, PySem.W.cellsFrom_some _ _ _ (.inl z)⟩
  refine codeAny_call_function ro.depth (KI _ _ lk) rfl S.co S.gen rfl (PySem.W.codeRec_of KI hc) (hbi _ _ _ _ ?_)
  refine wpAny_newFunctionEnv_cells S.kind kd fun env hen s1 ic => ?_
  subst hen
  refine ⟨nl.keeps ic.toInCall.keep, codeAny_func ?_⟩
  obtain ⟨t, ht, hq⟩ := hb A out s H vs Q E gd (ro.deeper _) hs
  have J : Inv (cxOf (CX P w) P w K mg base N qu sc f cv A out s H E) [] (start N vs) H s1 := inv_start S ro.hd e0 le rv ic
  refine wpAny_mono (ht.run [] s1 (start N vs) H _ J hq) (fun fl s2 hz => ?_) fun e s2 hz => hz
  cases fl with
  | ret u =>
    obtain ⟨v, σ2, H2, J2, rv2, q⟩ := hz
    exact ⟨v, H2, J2.os, J2.bare, J2.base, J2.hok, rv2, q⟩
  | next =>
    obtain ⟨σ2, H2, J2, q⟩ := hz
    exact ⟨.non, H2, J2.os, J2.bare, J2.base, J2.hok, rfl, q⟩
  | brk =>
    obtain ⟨_, _, _, q⟩ := hz
    exact q.elim
  | cont =>
    obtain ⟨_, _, _, q⟩ := hz
    exact q.elim
theorem run_fnG {X : Cx} {k : Nat} {f : Addr} {fd : FuncData} {ps : List Str} {sp : Sp} {pins : List (Addr × Obj)} {σ : L2.St} {H : Hp} {s : Shared} {Q : VK} {us : List Value} {vs : List V} {E : XK} (F : FnG X.prog X.w X.K X.mg X.base k f fd ps sp)
    (gd : X.A.guards = some []) (ro : Room k X.A) (hb : Binds X.K fd ps []) (hx : PassesAt (CX X.prog X.w) X σ E) (I : Inv X pins σ H s) (rv : Vals vs us) (hs : sp vs H Q E) : wpAny (model X.prog X.w) X.A (call (.ref f) us) (EP X pins σ Q) X.xe s := by
  have e1 : us.length = ps.length := by
    rw [← rv.length]
    exact F.len _ _ _ _ hs
  have e2 := hb s us I.kIn (by rw [List.append_nil]; exact e1)
  rw [List.append_nil] at e2
  refine wpAny_call (codeAny_mono (F.run X.A X.stack s H ⟨us, []⟩ us vs Q E gd ro I.env0 e2 rv hs) fun r s2 hq => ?_)
  cases r with
  | error e => exact hx pins H s e s2 I hq
  | ok fl =>
    cases fl with
    | ret u => exact I.after hq
    | next => exact hq.elim
    | brk => exact hq.elim
    | cont => exact hq.elim

/-! ### defs as functions on data -/
def spM (mg : MG) (K : KX) (m : List D → IH → Res D) (n : Nat) : Sp := fun vs H Q E =>
  vs.length = n ∧ ∃ μ h ds, Rl K H μ h ∧ Rps K H μ vs ds ∧ Po mg K (fun c d _ H' => E c d H') (Rp K) [] H μ (m ds h) Q
def enOf (n : Nat) (ds : List D) : En := ds.map some ++ List.replicate (n - ds.length) none
def mBody (n : Nat) (m : MS) : List D → IH → Res D := fun ds h => match m (enOf n ds) h with
  | .nx _ h' => .val .non h'
  | .rt d h' => .val d h'
  | .exc x _ h' => .exc x h'
  | _ => .stk
theorem envR_start {K : KX} {H : Hp} {μ : List Addr} {N : List Str} {vs : List V} {ds : List D} (r : Rps K H μ vs ds) (hl : ds.length ≤ N.length) : EnvR K H μ (start N vs) (enOf N.length ds) := by
  have e := r.length
  refine ⟨?_, fun i d q => ?_⟩
  · unfold L2.start enOf
    rw [List.length_append, List.length_append, List.length_map, List.length_map, List.length_replicate, List.length_replicate, e]
  · unfold enOf at q
    unfold L2.start
    by_cases hi : i < ds.length
    · rw [List.getElem?_append_left (by rw [List.length_map]; exact hi), List.getElem?_map] at q
      rw [List.getElem?_append_left (by rw [List.length_map, e]; exact hi), List.getElem?_map]
      cases z : ds[i]? with
      | none =>
        rw [z] at q
        cases q
      | some x =>
        rw [z] at q
        cases q
        obtain ⟨v, h1, h2⟩ := r.get z
        exact ⟨v, by rw [h1]; rfl, h2⟩
    · rw [List.getElem?_append_right (by rw [List.length_map]; omega), List.getElem?_replicate] at q
      split at q <;> cases q
/-- what is known of a def: where it stands, what it does -/
structure Fn (P : Program) (w : World) (K : PySem.W.Frag) (mg : MG) (base : Heap) (k : Nat) (x : Str) (m : List D → IH → Res D) (n : Nat) : Prop where
  ex : ∃ (f : Addr) (fd : FuncData) (ps : List Str), FnG P w K mg base k f fd ps (spM mg ⟨K, w, mg, P⟩ m n) ∧ mg x = some (.ref f) ∧ PySem.W.keepIn K (.ref f) = true ∧ Binds K fd ps []
/-- THE RULE for a def -/
theorem fn_ok {P : Program} {w : World} {K : PySem.W.Frag} {mg : MG} {base : Heap} {k : Nat} {x qu : Str} {st : Stmt} {f : Addr} {fd : FuncData} {N ps : List Str} {m : MS} (F : Fun K x qu st f fd) (S : FnScope N ps (defScope st))
    (hb : ∀ (cv : Value) (A : Around) (out : List Env) (s : Shared) (H : Hp) (E : XK), Ctx (cxOf (CX P w) P w K mg base N qu (defScope st) f cv A out s H E) (fun c d _ H' => E c d H') k →
      QSs (cxOf (CX P w) P w K mg base N qu (defScope st) f cv A out s H E) (fun c d _ H' => E c d H') (defBody st) m) :
    FnG P w K mg base (k + 1) f fd ps (spM mg ⟨K, w, mg, P⟩ (mBody N.length m) ps.length) := by
  obtain ⟨oc, od, kV, do', pm, an, cv, ct, sl, rfl, lk, hc⟩ := F.ex
  have hpl : ps.length ≤ N.length := by
    have := congrArg List.length S.pre
    rw [List.length_take] at this
    omega
  refine fnG_of lk hc S (fun vs H Q E h => h.1) fun A out s H vs Q E gd ro hs => ?_
  have C : Ctx (cxOf (CX P w) P w K mg base N qu (defScope st) f cv A out s H E) (fun c d _ H' => E c d H') k :=
    ⟨takes_of rfl rfl rfl rfl, passes_of rfl, ro, gd, rfl, S.nd⟩
  refine ⟨_, hb cv A out s H E C, ?_⟩
  obtain ⟨hl, μ, h, ds, rl, rp, po⟩ := hs
  refine ⟨μ, h, enOf N.length ds, rl, envR_start rp (by rw [← rp.length, hl]; exact hpl), ?_⟩
  unfold mBody at po
  revert po
  cases m (enOf N.length ds) h with
  | nx e h' => exact fun po σ' μ' H' x1 rl1 er1 => po .non μ' H' x1 rl1 .non
  | rt d h' => exact fun po v μ' H' x1 rl1 rp1 => po v μ' H' x1 rl1 rp1
  | bk e h' => exact fun po => po.elim
  | ct e h' => exact fun po => po.elim
  | exc z e h' => exact fun po c d σ' μ' H' x1 rl1 er1 xr => po c d μ' H' x1 rl1 xr
  | stk => exact fun po => po.elim

def ALen (m : MA) (n : Nat) : Prop := ∀ env h ds h', m env h = .val ds h' → ds.length = n
theorem alen_nil : ALen mNil 0 := fun env h ds h' e => by
  cases e
  rfl
theorem alen_cons {a : ME} {m : MA} {n : Nat} (q : ALen m n) : ALen (mCons a m) (n + 1) := fun env h ds h' e => by
  unfold mCons Res.bind at e
  split at e
  · dsimp only at e
    split at e
    · rename_i z
      cases e
      rw [List.length_cons, q _ _ _ _ z]
    · cases e
    · cases e
  · cases e
  · cases e
/-! ### expressions -/
section
variable {X : Cx} {W : WX} {a b c : Expr} {ma mb mc : ME} {pos : Pos}
theorem qe_var (i : Nat) {x : Str} (hN : X.N[i]? = some x := by rfl) (hv : Vis X.env.scope x := by first | exact Or.inl rfl | exact Or.inr (Or.inl rfl) | exact Or.inr (Or.inr rfl)) (hd : (x == ("__debug__" : Str)) = false := by decide)
    (hcd : (x == ("__classdict__" : Str)) = false := by decide) : QE X W (.Name x pos) (mVar i) := PE.imp (pe_var hN hv hd hcd) fun σ H Q ⟨μ, h, env, rl, er, p⟩ => by
  unfold mVar at p
  split at p
  · rename_i d e
    obtain ⟨v, h1, h2⟩ := er.2 i d e
    exact ⟨v, h1, p v μ H .refl rl h2⟩
  · exact p.elim
theorem qe_C {e : Expr} {v : V} {d : D} (h : PE X e (tC v)) (r : ∀ H μ, Rp X.kx H μ v d) : QE X W e (mC d) := PE.imp h fun σ H Q ⟨μ, h, env, rl, er, p⟩ => p v μ H .refl rl (r H μ)
theorem qe_int {i j} : QE X W (.Constant (.int i) j pos) (mC (.int i)) := qe_C pe_int fun _ _ => .int i
theorem qe_bl {i j} : QE X W (.Constant (.bool i) j pos) (mC (.bl i)) := qe_C pe_bl fun _ _ => .bl i
theorem qe_non {j} : QE X W (.Constant .none j pos) (mC .non) := qe_C pe_non fun _ _ => .non
theorem qe_str {i j} : QE X W (.Constant (.str i) j pos) (mC (.str i)) := qe_C pe_str fun _ _ => .str i
theorem qe_glob {x : Str} {v : V} {u : Value} {d : D} (hm : X.mg x = some u) (r : RelV v u) (rd : ∀ H μ, Rp X.kx H μ v d) (hg : Gl X x := by rfl) (hd : (x == ("__debug__" : Str)) = false := by decide) : QE X W (.Name x pos) (mC d) := qe_C (pe_glob hg hm r hd) rd
theorem qe_ty {x : Str} {T : String} (hm : X.mg x = none) (hv : bootBuiltins x = some (.type T)) (hg : Gl X x := by rfl) (hn : x ≠ "__name__" := by decide) (hd : (x == ("__debug__" : Str)) = false := by decide) : QE X W (.Name x pos) (mC (.op (.ty T))) :=
  qe_C (pe_bltn hg hm hv (show RelV (.ty T) _ from rfl) hn hd) fun _ _ => .op _
/-- an operation by values: r reads what f does -/
def Sd2 (X : Cx) (r : R2) (f : D → D → IH → Res D) : Prop := ∀ (W : WX) (σ : L2.St) (x y : V) (a b : D) (H : Hp) (μ : List Addr) (h : IH) (Q : VK), Rl X.kx H μ h → Rp X.kx H μ x a → Rp X.kx H μ y b → Po X.mg X.kx W (Rp X.kx) σ H μ (f a b h) Q → r x y H Q
def Sd1 (X : Cx) (r : V → Hp → VK → Prop) (f : D → IH → Res D) : Prop := ∀ (W : WX) (σ : L2.St) (x : V) (a : D) (H : Hp) (μ : List Addr) (h : IH) (Q : VK), Rl X.kx H μ h → Rp X.kx H μ x a → Po X.mg X.kx W (Rp X.kx) σ H μ (f a h) Q → r x H Q
def SdC (X : Cx) (r : List V → Hp → VK → Prop) (f : List D → IH → Res D) : Prop := ∀ (W : WX) (σ : L2.St) (xs : List V) (as : List D) (H : Hp) (μ : List Addr) (h : IH) (Q : VK), Rl X.kx H μ h → Rps X.kx H μ xs as → Po X.mg X.kx W (Rp X.kx) σ H μ (f as h) Q → r xs H Q
theorem op2 {r : R2} {f : D → D → IH → Res D} (sd : Sd2 X r f) : ∀ σ H Q, RE X.mg X.kx W (mBin f ma mb) σ H Q → tOp r (RE X.mg X.kx W ma) (RE X.mg X.kx W mb) σ H Q := fun σ H Q ⟨μ, h, env, rl, er, p⟩ =>
  ⟨μ, h, env, rl, er, Po.then (R := Rp X.kx) p fun x h1 v μ1 H1 x1 rl1 rp1 p1 => ⟨μ1, h1, env, rl1, er.mono x1, Po.then (R := Rp X.kx) p1 fun y h2 v2 μ2 H2 x2 rl2 rp2 p2 => sd W σ v v2 x y H2 μ2 h2 Q rl2 (rp1.mono x2) rp2 p2⟩⟩
theorem qe_bin {op : Operator} {r : R2} {f : D → D → IH → Res D} (ho : OpR X (binaryOp op) r) (sd : Sd2 X r f) (ha : QE X W a ma) (hb : QE X W b mb) : QE X W (.BinOp a op b pos) (mBin f ma mb) := PE.imp (pe_op ho ha hb) (op2 sd)
theorem qe_cmp {op : CmpOp} {r : R2} {f : D → D → IH → Res D} (ho : OpR X (compareOp op) r) (sd : Sd2 X r f) (ha : QE X W a ma) (hb : QE X W b mb) (hm : behindInMarks op b = false) : QE X W (.Compare a [op] [b] pos) (mBin f ma mb) := PE.imp (pe_cmpR ho ha hb hm) (op2 sd)
theorem qe_ix {r : R2} {f : D → D → IH → Res D} (ho : IxR X r) (sd : Sd2 X r f) (ha : QE X W a ma) (hb : QE X W b mb) (hs : PlainIx b) : QE X W (.Subscript a b pos) (mBin f ma mb) := PE.imp (pe_ix ho ha hb hs) (op2 sd)
theorem qe_un {op : UnaryOp} {r : V → Hp → VK → Prop} {f : D → IH → Res D} (ho : UnR X (unaryOp op) r) (sd : Sd1 X r f) (ha : QE X W a ma) : QE X W (.UnaryOp op a pos) (mUn f ma) := PE.imp (pe_un ho ha) fun σ H Q ⟨μ, h, env, rl, er, p⟩ =>
  ⟨μ, h, env, rl, er, Po.then (R := Rp X.kx) p fun x h1 v μ1 H1 x1 rl1 rp1 p1 => sd W σ v x H1 μ1 h1 Q rl1 rp1 p1⟩
theorem qa_nil : QA X W [] mNil := PA.imp pa_nil fun σ H Q ⟨μ, h, env, rl, er, p⟩ => p [] μ H .refl rl .nil
theorem qa_cons {e : Expr} {es : List Expr} {me : ME} {mr : MA} (he : QE X W e me) (hr : QA X W es mr) (hs : starEach (e :: es) X.env = (false, eval e X.env) :: starEach es X.env := by rfl) : QA X W (e :: es) (mCons me mr) :=
  PA.imp (pa_cons he hr hs) fun σ H Q ⟨μ, h, env, rl, er, p⟩ =>
    ⟨μ, h, env, rl, er, Po.then (R := Rp X.kx) p fun x h1 v μ1 H1 x1 rl1 rp1 p1 => ⟨μ1, h1, env, rl1, er.mono x1, Po.then (R := Rps X.kx) p1 fun xs h2 vs μ2 H2 x2 rl2 rp2 p2 => p2 (v :: vs) μ2 H2 .refl rl2 (.cons (rp1.mono x2) rp2)⟩⟩
/-- a built-in by its name -/
theorem qe_callB {x : Str} {id : String} {r : List V → Hp → VK → Prop} {f : List D → IH → Res D} {p : Pos} {e : Expr} {es : List Expr} {mr : MA} (hc : CallR X (.builtin id) r) (sd : SdC X r f) (hm : X.mg x = none) (hv : bootBuiltins x = some (.builtin id)) (ha : QA X W (e :: es) mr)
    (hg : Gl X x := by rfl) (hn : x ≠ "__name__" := by decide) (hdb : (x == ("__debug__" : Str)) = false := by decide) (he : starEach (e :: es) X.env = (false, eval e X.env) :: starEach es X.env := by rfl) (hpl : (backTo pos (starEach es X.env)).any (·.1) = false := by rfl) :
    QE X W (.Call (.Name x p) (e :: es) [] pos) (mCall f mr) := PE.imp (pe_callB hc hg hm hv ha hn hdb he hpl) fun σ H Q ⟨μ, h, env, rl, er, p⟩ =>
  ⟨μ, h, env, rl, er, Po.then (R := Rps X.kx) p fun xs h1 vs μ1 H1 x1 rl1 rp1 p1 => sd W σ vs xs H1 μ1 h1 Q rl1 rp1 p1⟩
theorem qe_callT {x : Str} {T : String} {r : List V → Hp → VK → Prop} {f : List D → IH → Res D} {p : Pos} {e : Expr} {es : List Expr} {mr : MA} (hc : CallR X (.type T) r) (sd : SdC X r f) (hm : X.mg x = none) (hv : bootBuiltins x = some (.type T)) (ha : QA X W (e :: es) mr)
    (hg : Gl X x := by rfl) (hn : x ≠ "__name__" := by decide) (hdb : (x == ("__debug__" : Str)) = false := by decide) (he : starEach (e :: es) X.env = (false, eval e X.env) :: starEach es X.env := by rfl) (hpl : (backTo pos (starEach es X.env)).any (·.1) = false := by rfl) :
    QE X W (.Call (.Name x p) (e :: es) [] pos) (mCall f mr) := PE.imp (pe_callTy hc hg hm hv ha hn hdb he hpl) fun σ H Q ⟨μ, h, env, rl, er, p⟩ =>
  ⟨μ, h, env, rl, er, Po.then (R := Rps X.kx) p fun xs h1 vs μ1 H1 x1 rl1 rp1 p1 => sd W σ vs xs H1 μ1 h1 Q rl1 rp1 p1⟩
/-- a def of the program -/
theorem qe_call {k j n : Nat} {x : Str} {m : List D → IH → Res D} {p : Pos} {e : Expr} {es : List Expr} {mr : MA} (C : Ctx X W k) (F : Fn X.prog X.w X.K X.mg X.base j x m n) (ha : QA X W (e :: es) mr) (hj : j ≤ k := by decide) (hn : n = (e :: es).length := by rfl) (hg : Gl X x := by rfl)
    (hdb : (x == ("__debug__" : Str)) = false := by decide) (he : starEach (e :: es) X.env = (false, eval e X.env) :: starEach es X.env := by rfl) (hpl : (backTo pos (starEach es X.env)).any (·.1) = false := by rfl)
    (hlen : ALen mr n := by repeat (first | exact alen_nil | apply alen_cons)) :
    QE X W (.Call (.Name x p) (e :: es) [] pos) (mCall m mr) := by
  obtain ⟨f, fd, ps, G, hm, hk, hb⟩ := F.ex
  refine ⟨fun pins s σ H Q I ⟨μ, h, env, rl, er, po⟩ => ?_⟩
  refine wpAny_Call_Name_kw (ld_glob I hg hm ?_ hdb)
  have pa : RA X.mg X.kx W mr σ H fun vs H1 => spM X.mg X.kx m n vs H1 Q (WE W σ) := by
    refine ⟨μ, h, env, rl, er, ?_⟩
    unfold mCall at po
    cases z : mr env h with
    | val ds h1 =>
      rw [z] at po
      intro vs μ1 H1 x1 rl1 rp1
      refine ⟨by rw [rp1.length]; exact hlen _ _ _ _ z, μ1, h1, ds, rl1, rp1, ?_⟩
      have po2 := Po.ext x1 (show Po X.mg X.kx W (Rp X.kx) σ H μ (m ds h1) Q from po)
      revert po2
      cases m ds h1 with
      | val d h2 => exact fun q => q
      | exc y h2 => exact fun q => q
      | stk => exact fun q => q
    | exc y h1 =>
      rw [z] at po
      exact po
    | stk =>
      rw [z] at po
      exact po
  refine PySem.W.callWith_K (h₀ := X.base) I.ok.mod.kin hk (thn (ha.run pos pins s σ H _ I pa) fun us s1 ⟨vs, H1, I1, rv, q⟩ => ⟨I1.kIn, ?_⟩) he hpl
  exact run_fnG G C.gd (C.room.mono hj) hb (passAt C.tk σ) I1 rv q
end
end DD
set_option Elab.async false
set_option linter.all false
set_option maxRecDepth 100000
namespace DD
open PySem PySem.Spec L2 PyProof.Rows

/-! ### data by the own heap -/
def lstAt (h : IH) (n : Nat) : Option (List D) := match h[n]? with
  | some (.lst ds) => some ds
  | _ => none
def dicAt (h : IH) (n : Nat) : Option (List (KD × D)) := match h[n]? with
  | some (.dic _ ds) => some ds
  | _ => none
/-- a list to be read -/
def seqL (h : IH) : D → Option (List D)
  | .fl ds => some ds
  | .ref n => lstAt h n
  | _ => none
section
variable {K : KX} {H : Hp} {μ : List Addr} {h : IH} {v : V} {d : D} {ds : List D}
theorem lstAt_ok {n : Nat} {a : Addr} (rl : Rl K H μ h) (e : μ[n]? = some a) (z : lstAt h n = some ds) : ∃ vs, H a = some (.lst vs) ∧ Rps K H μ vs ds := by
  obtain ⟨o, ho, q⟩ := rl.at e
  unfold lstAt at z
  rw [ho] at z
  cases o with
  | lst es =>
    cases z
    exact q
  | dic lk es => cases z
  | ins c fs => cases z
theorem seqL_ok (rl : Rl K H μ h) (r : Rp K H μ v d) (z : seqL h d = some ds) : ∃ a vs, v = .ref a ∧ SqL K H a vs ∧ Rps K H μ vs ds := by
  cases r with
  | fl s q =>
    cases z
    exact ⟨_, _, rfl, s.sq, q⟩
  | ref e =>
    obtain ⟨vs, h1, h2⟩ := lstAt_ok rl e z
    exact ⟨_, vs, rfl, SqL.of h1, h2⟩
  | _ => cases z
end
/-- truth -/
def truD (h : IH) : D → Option Bool
  | .non => some false
  | .bl b => some b
  | .int i => some (i != 0)
  | .str x => if x.length ≤ sizeLine then some ((x.length : Int) != 0) else none
  | .tup ds => some !ds.isEmpty
  | .fl ds => some !ds.isEmpty
  | .ref n => match h[n]? with
    | some (.lst ds) => some !ds.isEmpty
    | _ => none
  | .op _ => none
  | .gl _ => none
theorem Rps.isEmpty {K : KX} {H : Hp} {μ : List Addr} {vs : List V} {ds : List D} (r : Rps K H μ vs ds) : vs.isEmpty = ds.isEmpty := by
  cases r <;> rfl
theorem truD_ok {K : KX} {H : Hp} {μ : List Addr} {h : IH} {v : V} {d : D} {k : Bool} (rl : Rl K H μ h) (r : Rp K H μ v d) (z : truD h d = some k) : TruV K v H k := by
  cases r with
  | non =>
    cases z
    rfl
  | bl b =>
    cases z
    rfl
  | int i =>
    cases z
    rfl
  | str x =>
    simp only [truD] at z
    split at z
    · cases z
      exact ⟨by assumption, rfl⟩
    · cases z
  | tup s q =>
    cases z
    exact .inr (.inl ⟨_, s, by rw [q.isEmpty]⟩)
  | fl s q =>
    cases z
    exact .inl ⟨_, s.sq, by rw [q.isEmpty]⟩
  | ref e =>
    obtain ⟨o, ho, q⟩ := rl.at e
    simp only [truD, ho] at z
    cases o with
    | lst es =>
      cases z
      obtain ⟨vs, h1, h2⟩ := q
      exact .inl ⟨vs, SqL.of h1, by rw [h2.isEmpty]⟩
    | dic lk es => cases z
    | ins c fs => cases z
  | op v => cases z
  | gl e => cases z

/-! ### displays, tests, conditional values -/
def mTup (m : MA) : ME := fun env h => (m env h).bind fun ds h1 => if ds.length ≤ sizeLine then .val (.tup ds) h1 else .stk
def mLst (m : MA) : ME := fun env h => (m env h).bind fun ds h1 => if ds.length ≤ sizeLine then .val (.ref h1.length) (h1 ++ [.lst ds]) else .stk
def mTru (a : ME) : MT := fun env h => (a env h).bind fun d h1 => match truD h1 d with
  | some b => .val b h1
  | none => .stk
def mTst (a : ME) : MT := fun env h => (a env h).bind fun d h1 => match d with
  | .bl b => .val b h1
  | _ => .stk
def mAnd (a b : MT) : MT := fun env h => (a env h).bind fun k h1 => if k then b env h1 else .val false h1
def mOr (a b : MT) : MT := fun env h => (a env h).bind fun k h1 => if k then .val true h1 else b env h1
def mNot (a : MT) : MT := fun env h => (a env h).bind fun k h1 => .val (!k) h1
def mAndV (a b : ME) : ME := fun env h => (a env h).bind fun d h1 => match truD h1 d with
  | some true => b env h1
  | some false => .val d h1
  | none => .stk
def mOrV (a b : ME) : ME := fun env h => (a env h).bind fun d h1 => match truD h1 d with
  | some true => .val d h1
  | some false => b env h1
  | none => .stk
def mNotV (a : ME) : ME := fun env h => (a env h).bind fun d h1 => match truD h1 d with
  | some k => .val (.bl !k) h1
  | none => .stk
def mIf (c : MT) (a b : ME) : ME := fun env h => (c env h).bind fun k h1 => if k then a env h1 else b env h1
def mChain (f f' : D → D → IH → Res D) (a b c : ME) : ME := fun env h => (a env h).bind fun x h1 => (b env h1).bind fun y h2 => (f x y h2).bind fun z h3 => match z with
  | .bl true => (c env h3).bind fun w h4 => f' y w h4
  | .bl false => .val (.bl false) h3
  | _ => .stk
section
variable {K : KX} {H H' : Hp} {μ μ' : List Addr} {h : IH}
theorem new_lst {vs : List V} {ds : List D} {p : Addr} (rl : Rl K H μ h) (r : Rps K H μ vs ds) (hp : H p = none) : Ext K H μ (upd H p (.lst vs)) (μ ++ [p]) ∧ Rl K (upd H p (.lst vs)) (μ ++ [p]) (h ++ [.lst ds]) ∧ Rp K (upd H p (.lst vs)) (μ ++ [p]) (.ref p) (.ref h.length) := by
  have x : Ext K H μ (upd H p (.lst vs)) (μ ++ [p]) := Ext.newM hp
  refine ⟨x, rl.newM hp ⟨vs, upd_same, r.mono x⟩, .ref ?_⟩
  rw [← rl.len, List.getElem?_append_right (Nat.le_refl _), Nat.sub_self]
  rfl
theorem new_tup {vs : List V} {ds : List D} {p : Addr} (rl : Rl K H μ h) (r : Rps K H μ vs ds) (hp : H p = none) : Ext K H μ (upd H p (.tup vs)) μ ∧ Rl K (upd H p (.tup vs)) μ h ∧ Rp K (upd H p (.tup vs)) μ (.ref p) (.tup ds) :=
  ⟨Ext.new hp, rl.new hp, .tup (SqT.of upd_same) (r.mono (Ext.new hp))⟩
end
section
variable {X : Cx} {W : WX} {a b c : Expr} {ma mb mc : ME} {pos : Pos} {es : List Expr} {mr : MA}
theorem Rp.bl_inv {K : KX} {H : Hp} {μ : List Addr} {v : V} {b : Bool} (r : Rp K H μ v (.bl b)) : v = .bl b := by
  cases r
  rfl
theorem qe_tup {k : Nat} (ha : QA X W es mr) : QE X W (.Tuple es k pos) (mTup mr) := PE.imp (pe_tup ha) fun σ H Q ⟨μ, h, env, rl, er, p⟩ =>
  ⟨μ, h, env, rl, er, Po.then (R := Rps X.kx) p fun ds h1 vs μ1 H1 x1 rl1 rp1 p1 => by
    split at p1
    · rename_i z
      refine ⟨by rw [rp1.length]; exact z, fun p hp => ?_⟩
      obtain ⟨x2, rl2, rp2⟩ := new_tup rl1 rp1 hp
      exact p1 _ _ _ x2 rl2 rp2
    · exact p1.elim⟩
theorem qe_lst (ha : QA X W es mr) : QE X W (.List es pos) (mLst mr) := PE.imp (pe_lst ha) fun σ H Q ⟨μ, h, env, rl, er, p⟩ =>
  ⟨μ, h, env, rl, er, Po.then (R := Rps X.kx) p fun ds h1 vs μ1 H1 x1 rl1 rp1 p1 => by
    split at p1
    · rename_i z
      refine ⟨by rw [rp1.length]; exact z, fun p hp => ?_⟩
      obtain ⟨x2, rl2, rp2⟩ := new_lst rl1 rp1 hp
      exact p1 _ _ _ x2 rl2 rp2
    · exact p1.elim⟩
theorem qt_tru (ha : QE X W a ma) (he : ∀ whole, isTrue a X.env whole = (do let v ← whole; standAt a.pos; holding [v] (truthy v)) := by intro _; rfl) : QT X W a (mTru ma) := PT.imp (pt_truth ha he) fun σ H Q ⟨μ, h, env, rl, er, p⟩ =>
  ⟨μ, h, env, rl, er, Po.then (R := Rp X.kx) p fun d h1 v μ1 H1 x1 rl1 rp1 p1 => by
    split at p1
    · rename_i k z
      exact ⟨k, truD_ok rl1 rp1 z, p1 _ _ _ .refl rl1 rfl⟩
    · exact p1.elim⟩
theorem tst_imp {t : TE} {m : ME} (i : ∀ σ H Q, RE X.mg X.kx W m σ H Q → t σ H Q) : ∀ σ H Q, RT X.mg X.kx W (mTst m) σ H Q → tTest t σ H Q := fun σ H Q ⟨μ, h, env, rl, er, p⟩ =>
  i σ H _ ⟨μ, h, env, rl, er, Po.then (R := Rp X.kx) p fun d h1 v μ1 H1 x1 rl1 rp1 p1 => by
    split at p1
    · rename_i k
      exact ⟨k, rp1.bl_inv, p1 _ _ _ .refl rl1 rfl⟩
    · exact p1.elim⟩
theorem qt_cmp {op : CmpOp} {r : R2} {f : D → D → IH → Res D} (ho : OpR X (compareOp op) r) (sd : Sd2 X r f) (ha : QE X W a ma) (hb : QE X W b mb) (hm : behindInMarks op b = false) : QT X W (.Compare a [op] [b] pos) (mTst (mBin f ma mb)) :=
  PT.imp (pt_cmpR ho ha hb hm) (tst_imp (op2 sd))
theorem chain_imp {r r' : R2} {f f' : D → D → IH → Res D} (sd : Sd2 X r f) (sd' : Sd2 X r' f') : ∀ σ H Q, RE X.mg X.kx W (mChain f f' ma mb mc) σ H Q → tChain r r' (RE X.mg X.kx W ma) (RE X.mg X.kx W mb) (RE X.mg X.kx W mc) σ H Q := fun σ H Q ⟨μ, h, env, rl, er, p⟩ =>
  ⟨μ, h, env, rl, er, Po.then (R := Rp X.kx) p fun x h1 v μ1 H1 x1 rl1 rp1 p1 => ⟨μ1, h1, env, rl1, er.mono x1, Po.then (R := Rp X.kx) p1 fun y h2 v2 μ2 H2 x2 rl2 rp2 p2 =>
    sd W σ v v2 x y H2 μ2 h2 _ rl2 (rp1.mono x2) rp2 (Po.then (R := Rp X.kx) p2 fun z h3 v3 μ3 H3 x3 rl3 rp3 p3 => by
      split at p3
      · refine ⟨true, rp3.bl_inv, ?_⟩
        rw [if_pos rfl]
        exact ⟨μ3, h3, env, rl3, (er.mono x1).mono (x2.trans x3), Po.then (R := Rp X.kx) p3 fun w h4 v4 μ4 H4 x4 rl4 rp4 p4 => sd' W σ v2 v4 y w H4 μ4 h4 Q rl4 (rp2.mono (x3.trans x4)) rp4 p4⟩
      · refine ⟨false, rp3.bl_inv, ?_⟩
        rw [if_neg Bool.false_ne_true]
        exact p3 _ _ _ .refl rl3 (.bl false)
      · exact p3.elim)⟩⟩
theorem qe_chain {op op' : CmpOp} {r r' : R2} {f f' : D → D → IH → Res D} (ho : OpR X (compareOp op) r) (sd : Sd2 X r f) (ho' : OpR X (compareOp op') r') (sd' : Sd2 X r' f') (ha : QE X W a ma) (hb : QE X W b mb) (hc : QE X W c mc)
    (hm : lastMarks [op, op'] [b, c] = false := by with_unfolding_all rfl) : QE X W (.Compare a [op, op'] [b, c] pos) (mChain f f' ma mb mc) := PE.imp (pe_chain ho ho' ha hb hc hm) (chain_imp sd sd')
theorem qt_chain {op op' : CmpOp} {r r' : R2} {f f' : D → D → IH → Res D} (ho : OpR X (compareOp op) r) (sd : Sd2 X r f) (ho' : OpR X (compareOp op') r') (sd' : Sd2 X r' f') (ha : QE X W a ma) (hb : QE X W b mb) (hc : QE X W c mc)
    (hm : lastMarks [op, op'] [b, c] = false := by with_unfolding_all rfl) : QT X W (.Compare a [op, op'] [b, c] pos) (mTst (mChain f f' ma mb mc)) := PT.imp (pt_chain ho ho' ha hb hc hm) (tst_imp (chain_imp sd sd'))
def QW (X : Cx) (W : WX) (e : Expr) (m : MT) : Prop := PW X e (RT X.mg X.kx W m)
variable {ta tb : MT} {rest : List Expr}
theorem QW.qt {e : Expr} {m : MT} (h : QW X W e m) : QT X W e m := PW.pt h
theorem qw_and1 (ha : QT X W a ta) : QW X W (.BoolOp .And [a] pos) ta := pw_and1 ha
theorem qw_or1 (ha : QT X W a ta) : QW X W (.BoolOp .Or [a] pos) ta := pw_or1 ha
theorem qw_and (ha : QT X W a ta) (hb : QW X W (.BoolOp .And (b :: rest) pos) tb) : QW X W (.BoolOp .And (a :: b :: rest) pos) (mAnd ta tb) := PW.imp (pw_and ha hb) fun σ H Q ⟨μ, h, env, rl, er, p⟩ =>
  ⟨μ, h, env, rl, er, Po.then (R := RpT) p fun k h1 v μ1 H1 x1 rl1 e p1 => by
    subst e
    cases v with
    | true =>
      rw [if_pos rfl] at p1 ⊢
      exact ⟨μ1, h1, env, rl1, er.mono x1, p1⟩
    | false =>
      rw [if_neg Bool.false_ne_true] at p1 ⊢
      exact p1 _ _ _ .refl rl1 rfl⟩
theorem qw_or (ha : QT X W a ta) (hb : QW X W (.BoolOp .Or (b :: rest) pos) tb) : QW X W (.BoolOp .Or (a :: b :: rest) pos) (mOr ta tb) := PW.imp (pw_or ha hb) fun σ H Q ⟨μ, h, env, rl, er, p⟩ =>
  ⟨μ, h, env, rl, er, Po.then (R := RpT) p fun k h1 v μ1 H1 x1 rl1 e p1 => by
    subst e
    cases v with
    | false =>
      rw [if_neg Bool.false_ne_true] at p1 ⊢
      exact ⟨μ1, h1, env, rl1, er.mono x1, p1⟩
    | true =>
      rw [if_pos rfl] at p1 ⊢
      exact p1 _ _ _ .refl rl1 rfl⟩
theorem qt_not (ha : QT X W a ta) : QT X W (.UnaryOp .Not a pos) (mNot ta) := PT.imp (pt_not ha) fun σ H Q ⟨μ, h, env, rl, er, p⟩ =>
  ⟨μ, h, env, rl, er, Po.then (R := RpT) p fun k h1 v μ1 H1 x1 rl1 e p1 => by
    subst e
    exact p1 _ _ _ .refl rl1 rfl⟩
theorem qe_one {op} (h : QE X W a ma) : QE X W (.BoolOp op [a] pos) ma := pe_one h
theorem qe_and (ha : QE X W a ma) (hb : QE X W (.BoolOp .And (b :: rest) pos) mb) : QE X W (.BoolOp .And (a :: b :: rest) pos) (mAndV ma mb) := PE.imp (pe_andT ha hb) fun σ H Q ⟨μ, h, env, rl, er, p⟩ =>
  ⟨μ, h, env, rl, er, Po.then (R := Rp X.kx) p fun d h1 v μ1 H1 x1 rl1 rp1 p1 => by
    split at p1
    · rename_i z
      refine ⟨true, truD_ok rl1 rp1 z, ?_⟩
      rw [if_pos rfl]
      exact ⟨μ1, h1, env, rl1, er.mono x1, p1⟩
    · rename_i z
      refine ⟨false, truD_ok rl1 rp1 z, ?_⟩
      rw [if_neg Bool.false_ne_true]
      exact p1 _ _ _ .refl rl1 rp1
    · exact p1.elim⟩
theorem qe_or (ha : QE X W a ma) (hb : QE X W (.BoolOp .Or (b :: rest) pos) mb) : QE X W (.BoolOp .Or (a :: b :: rest) pos) (mOrV ma mb) := PE.imp (pe_orT ha hb) fun σ H Q ⟨μ, h, env, rl, er, p⟩ =>
  ⟨μ, h, env, rl, er, Po.then (R := Rp X.kx) p fun d h1 v μ1 H1 x1 rl1 rp1 p1 => by
    split at p1
    · rename_i z
      refine ⟨true, truD_ok rl1 rp1 z, ?_⟩
      rw [if_pos rfl]
      exact p1 _ _ _ .refl rl1 rp1
    · rename_i z
      refine ⟨false, truD_ok rl1 rp1 z, ?_⟩
      rw [if_neg Bool.false_ne_true]
      exact ⟨μ1, h1, env, rl1, er.mono x1, p1⟩
    · exact p1.elim⟩
theorem qe_not (ha : QE X W a ma) : QE X W (.UnaryOp .Not a pos) (mNotV ma) := PE.imp (pe_notT ha) fun σ H Q ⟨μ, h, env, rl, er, p⟩ =>
  ⟨μ, h, env, rl, er, Po.then (R := Rp X.kx) p fun d h1 v μ1 H1 x1 rl1 rp1 p1 => by
    split at p1
    · rename_i k z
      exact ⟨k, truD_ok rl1 rp1 z, p1 _ _ _ .refl rl1 (.bl _)⟩
    · exact p1.elim⟩
theorem qe_if (hc : QT X W c ta) (ha : QE X W a ma) (hb : QE X W b mb) : QE X W (.IfExp c a b pos) (mIf ta ma mb) := PE.imp (pe_ifExp hc ha hb) fun σ H Q ⟨μ, h, env, rl, er, p⟩ =>
  ⟨μ, h, env, rl, er, Po.then (R := RpT) p fun k h1 v μ1 H1 x1 rl1 e p1 => by
    subst e
    cases v with
    | true =>
      rw [if_pos rfl] at p1 ⊢
      exact ⟨μ1, h1, env, rl1, er.mono x1, p1⟩
    | false =>
      rw [if_neg Bool.false_ne_true] at p1 ⊢
      exact ⟨μ1, h1, env, rl1, er.mono x1, p1⟩⟩
end

/-! ### statements -/
abbrev MTg := D → En → IH → Option (En × IH)
abbrev MTs := List D → En → IH → Option (En × IH)
def Out.then (o : Out) (f : En → IH → Out) : Out := match o with
  | .nx e h => f e h
  | .rt d h => .rt d h
  | .bk e h => .bk e h
  | .ct e h => .ct e h
  | .exc x e h => .exc x e h
  | .stk => .stk
section
variable (K : KX)
def PoG (H : Hp) (μ : List Addr) : Option (En × IH) → (L2.St → Hp → Prop) → Prop
  | some (e, h'), Q => ∀ σ' μ' H', Ext K H μ H' μ' → Rl K H' μ' h' → EnvR K H' μ' σ' e → Q σ' H'
  | none, _ => False
def RG (m : MTg) : TG := fun v σ H Q => ∃ μ h env d, Rl K H μ h ∧ EnvR K H μ σ env ∧ Rp K H μ v d ∧ PoG K H μ (m d env h) Q
def RGs (m : MTs) : TGs := fun v σ H Q => ∃ μ h env d, Rl K H μ h ∧ EnvR K H μ σ env ∧ Rps K H μ v d ∧ PoG K H μ (m d env h) Q
end
theorem PoG.ext {K : KX} {H H' : Hp} {μ μ' : List Addr} {o : Option (En × IH)} {Q : L2.St → Hp → Prop} (x : Ext K H μ H' μ') (p : PoG K H μ o Q) : PoG K H' μ' o Q := by
  cases o with
  | some z => exact fun σ2 μ2 H2 y a b => p σ2 μ2 H2 (x.trans y) a b
  | none => exact p
def QG (X : Cx) (e : Expr) (m : MTg) : Prop := PG X e (RG X.kx m)
def QGs (X : Cx) (e : List Expr) (m : MTs) : Prop := PGs X e (RGs X.kx m)
def gN (i : Nat) : MTg := fun d env h => some (env.set i (some d), h)
def gsNil : MTs := fun ds env h => match ds with
  | [] => some (env, h)
  | _ => none
def gsCons (t : MTg) (r : MTs) : MTs := fun ds env h => match ds with
  | d :: ds => match t d env h with
    | some (e, h1) => r ds e h1
    | none => none
  | [] => none
def gT (n : Nat) (r : MTs) : MTg := fun d env h => match d with
  | .tup ds => if ds.length = n then r ds env h else none
  | _ => none
def toOut : Option (En × IH) → Out
  | some (e, h) => .nx e h
  | none => .stk
def sNil : MS := fun env h => .nx env h
def sSeq (a b : MS) : MS := fun env h => (a env h).then b
def sAsg (e : ME) (t : MTg) : MS := fun env h => (e env h).bindS env fun d h1 => toOut (t d env h1)
def sExpr (e : ME) : MS := fun env h => (e env h).bindS env fun _ h1 => .nx env h1
def sRet (e : ME) : MS := fun env h => (e env h).bindS env fun d h1 => .rt d h1
def sRetN : MS := fun _ h => .rt .non h
def sIf (c : MT) (a b : MS) : MS := fun env h => (c env h).bindS env fun k h1 => if k then a env h1 else b env h1
def sBrk : MS := fun env h => .bk env h
def sCnt : MS := fun env h => .ct env h
def sAug (i : Nat) (f : D → D → IH → Res D) (e : ME) : MS := fun env h => (mBin f (mVar i) e env h).bindS env fun d h1 => .nx (env.set i (some d)) h1
def sPar (i j : Nat) (m : MA) : MS := fun env h => (m env h).bindS env fun ds h1 => match ds with
  | [d, e] => .nx ((env.set i (some d)).set j (some e)) h1
  | _ => .stk
def sPar3 (i j k : Nat) (m : MA) : MS := fun env h => (m env h).bindS env fun ds h1 => match ds with
  | [d, e, f] => .nx (((env.set i (some d)).set j (some e)).set k (some f)) h1
  | _ => .stk
def whileM : Nat → MT → MS → MS
  | 0, _, _ => fun _ _ => .stk
  | n + 1, c, b => fun env h => (c env h).bindS env fun t h1 => if t then (match b env h1 with
    | .nx e h2 => whileM n c b e h2
    | .ct e h2 => whileM n c b e h2
    | .bk e h2 => .nx e h2
    | .rt d h2 => .rt d h2
    | .exc x e h2 => .exc x e h2
    | .stk => .stk) else .nx env h1

section
variable {X : Cx} {W : WX} {pos : Pos} {st : Stmt} {rest : List Stmt} {m m' : MS}
theorem PoS.then {mg : MG} {K : KX} {W : WX} {H : Hp} {μ : List Addr} {o : Out} {f : En → IH → Out} {Z : Ends} {Q : L2.St → Hp → Prop} (p : PoS mg K W H μ (o.then f) Z)
    (q : ∀ e h σ' μ' H', Ext K H μ H' μ' → Rl K H' μ' h → EnvR K H' μ' σ' e → PoS mg K W H' μ' (f e h) Z → Q σ' H') : PoS mg K W H μ o { Z with nx := Q } := by
  cases o with
  | nx e h => exact fun σ' μ' H' x rl er => q e h σ' μ' H' x rl er (PoS.ext x p)
  | rt d h => exact p
  | bk e h => exact p
  | ct e h => exact p
  | exc z e h => exact p
  | stk => exact p
theorem qss_nil : QSs X W [] sNil := PSs.imp pss_nil fun Z σ H ⟨μ, h, env, rl, er, p⟩ => p σ μ H .refl rl er
theorem qss_one (h : QS X W st m) : QSs X W [st] m := pss_one h
theorem qss_cons (h1 : QS X W st m) (h2 : QSs X W rest m') : QSs X W (st :: rest) (sSeq m m') := PSs.imp (pss_cons h1 h2) fun Z σ H ⟨μ, h, env, rl, er, p⟩ =>
  ⟨μ, h, env, rl, er, PoS.then p fun e h' σ' μ' H' x rl' er' p' => ⟨μ', h', e, rl', er', p'⟩⟩
variable {e : Expr} {me : ME}
theorem qs_expr (he : QE X W e me) (hs : swapsWith e none pos.line X.env = pure false := by rfl) : QS X W (.Expr e pos) (sExpr me) := PS.imp (ps_expr he hs) fun Z σ H ⟨μ, h, env, rl, er, p⟩ =>
  ⟨μ, h, env, rl, er, Po.thenS er p fun d h1 v μ1 H1 x1 rl1 rp1 p1 => p1 σ μ1 H1 .refl rl1 (er.mono x1)⟩
theorem qs_ret (he : QE X W e me) : QS X W (.Return (some e) pos) (sRet me) := PS.imp (ps_ret he) fun Z σ H ⟨μ, h, env, rl, er, p⟩ =>
  ⟨μ, h, env, rl, er, Po.thenS er p fun d h1 v μ1 H1 x1 rl1 rp1 p1 => p1 v μ1 H1 .refl rl1 rp1⟩
theorem qs_retN : QS X W (.Return none pos) sRetN := PS.imp ps_retN fun Z σ H ⟨μ, h, env, rl, er, p⟩ => p .non μ H .refl rl .non
theorem qs_pass : QS X W (.Pass pos) sNil := PS.imp ps_pass fun Z σ H ⟨μ, h, env, rl, er, p⟩ => p σ μ H .refl rl er
theorem qs_brk : QS X W (.Break pos) sBrk := PS.imp ps_break fun Z σ H ⟨μ, h, env, rl, er, p⟩ => p σ μ H .refl rl er
theorem qs_cnt : QS X W (.Continue pos) sCnt := PS.imp ps_continue fun Z σ H ⟨μ, h, env, rl, er, p⟩ => p σ μ H .refl rl er
theorem qs_if {c : Expr} {a b : List Stmt} {tc : MT} (hc : QT X W c tc) (ha : QSs X W a m) (hb : QSs X W b m') : QS X W (.If c a b pos) (sIf tc m m') := PS.imp (ps_if hc ha hb) fun Z σ H ⟨μ, h, env, rl, er, p⟩ =>
  ⟨μ, h, env, rl, er, Po.thenS er p fun k h1 v μ1 H1 x1 rl1 e1 p1 => by
    have e2 : v = k := e1
    subst e2
    cases v with
    | true =>
      rw [if_pos rfl] at p1 ⊢
      exact ⟨μ1, h1, env, rl1, er.mono x1, p1⟩
    | false =>
      rw [if_neg Bool.false_ne_true] at p1 ⊢
      exact ⟨μ1, h1, env, rl1, er.mono x1, p1⟩⟩
/-- a statement that is never reached -/
theorem qs_never : QS X W st (fun _ _ => .stk) := PS.imp ps_never fun Z σ H ⟨μ, h, env, rl, er, p⟩ => p
theorem qg_name (i : Nat) {x : Str} (hN : X.N.Nodup) (hi : X.N[i]? = some x := by rfl) (hx : Loc X.env.scope x := by first | exact Or.inl rfl | exact Or.inr rfl) (hf : X.fn x = true ∨ X.env.scope.names.lookup x = some .local := by first | exact .inl rfl | exact .inr rfl | assumption) : QG X (.Name x pos) (gN i) :=
  ⟨fun pins s σ H v u Q I r ⟨μ, h, env, d, rl, er, rp, p⟩ => (pg_name hN hi hx hf).run pins s σ H v u Q I r (p _ μ H .refl rl (er.set rp))⟩
theorem qgs_nil : QGs X [] gsNil := ⟨fun pins s σ H vs us Q I r ⟨μ, h, env, d, rl, er, rp, p⟩ => pgs_nil.run pins s σ H vs us Q I r (by
  cases rp with
  | nil => exact ⟨rfl, p σ μ H .refl rl er⟩
  | cons a b => exact p.elim)⟩
theorem qgs_cons {tg : Expr} {ts : List Expr} {g : MTg} {gs : MTs} (h1 : QG X tg g) (h2 : QGs X ts gs) (hs : (assignEach (tg :: ts) X.env).map (·.2) = assign tg X.env :: (assignEach ts X.env).map (·.2) := by rfl) : QGs X (tg :: ts) (gsCons g gs) :=
  ⟨fun pins s σ H vs us Q I r ⟨μ, h, env, ds, rl, er, rp, p⟩ => (pgs_cons h1 h2 hs).run pins s σ H vs us Q I r (by
    cases rp with
    | nil => exact p.elim
    | cons a b =>
      refine ⟨_, _, rfl, μ, h, env, _, rl, er, a, ?_⟩
      simp only [gsCons] at p
      split at p
      · rename_i e h3 z
        rw [z]
        exact fun σ' μ' H' x rl' er' => ⟨μ', h3, e, _, rl', er', b.mono x, PoG.ext x p⟩
      · exact p.elim)⟩
theorem qg_tup {ts : List Expr} {k n : Nat} {gs : MTs} (hc : X.calm = true) (h : QGs X ts gs) (hn : (assignEach ts X.env).length = n := by rfl) (hst : (assignEach ts X.env).findIdx? (·.1) = none := by rfl) : QG X (.Tuple ts k pos) (gT n gs) :=
  ⟨fun pins s σ H v u Q I r ⟨μ, h', env, d, rl, er, rp, p⟩ => (pg_tup hc h hn hst).run pins s σ H v u Q I r (by
    cases rp with
    | tup s1 q =>
      simp only [gT] at p
      split at p
      · rename_i z
        exact ⟨_, _, rfl, s1, by rw [q.length]; exact z, μ, h', env, _, rl, er, q, p⟩
      · exact p.elim
    | _ => exact p.elim)⟩
theorem PoS.tg {mg : MG} {K : KX} {W : WX} {H : Hp} {μ : List Addr} {o : Option (En × IH)} {Z : Ends} (p : PoS mg K W H μ (toOut o) Z) : PoG K H μ o Z.nx := by
  cases o with
  | some z => exact p
  | none => exact p
theorem qs_asg {tg : Expr} {g : MTg} (he : QE X W e me) (hg : QG X tg g) (hs : swapsWithSole [tg] e pos.line X.env = pure false := by rfl) (hw : swappedStores [tg] e X.env = pure none := by rfl)
    (h1 : (assignEach [tg] X.env).map (·.2) = [assign tg X.env] := by rfl) : QS X W (.Assign [tg] e pos) (sAsg me g) := PS.imp (ps_asg he hg hs hw h1) fun Z σ H ⟨μ, h, env, rl, er, p⟩ =>
  ⟨μ, h, env, rl, er, Po.thenS er p fun d h2 v μ1 H1 x1 rl1 rp1 p1 => ⟨μ1, h2, env, d, rl1, er.mono x1, rp1, p1.tg⟩⟩
theorem qs_set (i : Nat) {x : Str} {pos' : Pos} (hN : X.N.Nodup) (he : QE X W e me) (hi : X.N[i]? = some x := by rfl) (hx : Loc X.env.scope x := by first | exact Or.inl rfl | exact Or.inr rfl) (hs : swapsWith e (some (.Name x pos')) pos.line X.env = pure false := by rfl)
    (hf : X.fn x = true ∨ X.env.scope.names.lookup x = some .local := by first | exact .inl rfl | exact .inr rfl | assumption) : QS X W (.Assign [.Name x pos'] e pos) (sAsg me (gN i)) := PS.imp (ps_set hN hi hx he hs hf) fun Z σ H ⟨μ, h, env, rl, er, p⟩ =>
  ⟨μ, h, env, rl, er, Po.thenS er p fun d h2 v μ1 H1 x1 rl1 rp1 p1 => p1 _ _ _ .refl rl1 ((er.mono x1).set rp1)⟩
theorem qs_par (i j : Nat) {x y : Str} {a b : Expr} {ma : MA} {px py pt : Pos} {kt k2 pt2} (hc : X.calm = true) (hN : X.N.Nodup) (ha : QA X W [a, b] ma) (hi : X.N[i]? = some x := by rfl) (hj : X.N[j]? = some y := by rfl) (hij : i ≠ j := by decide)
    (hx : X.env.scope.names.lookup x = some .local := by rfl) (hy : X.env.scope.names.lookup y = some .local := by rfl) (hw : swappedStores [.Tuple [.Name x px, .Name y py] kt pt] (.Tuple [a, b] k2 pt2) X.env = pure (some [x, y]) := by rfl)
    (hs : swapsWithSole [.Tuple [.Name x px, .Name y py] kt pt] (.Tuple [a, b] k2 pt2) pos.line X.env = pure false := by rfl) : QS X W (.Assign [.Tuple [.Name x px, .Name y py] kt pt] (.Tuple [a, b] k2 pt2) pos) (sPar i j ma) :=
  PS.imp (ps_par hc hN hi hj hij hx hy ha hw hs) fun Z σ H ⟨μ, h, env, rl, er, p⟩ => ⟨μ, h, env, rl, er, Po.thenS er p fun ds h1 vs μ1 H1 x1 rl1 rp1 p1 => by
    split at p1
    · cases rp1 with
      | cons r1 q1 =>
        cases q1 with
        | cons r2 q2 =>
          cases q2
          exact ⟨_, _, rfl, p1 _ _ _ .refl rl1 (((er.mono x1).set r1).set r2)⟩
    · exact p1.elim⟩
theorem qs_par3 (i j l : Nat) {x y z : Str} {a b c : Expr} {ma : MA} {px py pz pt : Pos} {kt k2 pt2} (hc : X.calm = true) (hN : X.N.Nodup) (ha : QA X W [a, b, c] ma) (hi : X.N[i]? = some x := by rfl) (hj : X.N[j]? = some y := by rfl) (hl : X.N[l]? = some z := by rfl)
    (hij : i ≠ j := by decide) (hil : i ≠ l := by decide) (hjl : j ≠ l := by decide)
    (hx : X.env.scope.names.lookup x = some .local := by rfl) (hy : X.env.scope.names.lookup y = some .local := by rfl) (hz : X.env.scope.names.lookup z = some .local := by rfl) (hw : swappedStores [.Tuple [.Name x px, .Name y py, .Name z pz] kt pt] (.Tuple [a, b, c] k2 pt2) X.env = pure (some [x, y, z]) := by rfl)
    (hs : swapsWithSole [.Tuple [.Name x px, .Name y py, .Name z pz] kt pt] (.Tuple [a, b, c] k2 pt2) pos.line X.env = pure false := by rfl) : QS X W (.Assign [.Tuple [.Name x px, .Name y py, .Name z pz] kt pt] (.Tuple [a, b, c] k2 pt2) pos) (sPar3 i j l ma) :=
  PS.imp (ps_par3 hc hN hi hj hl hij hil hjl hx hy hz ha hw hs) fun Z σ H ⟨μ, h, env, rl, er, p⟩ => ⟨μ, h, env, rl, er, Po.thenS er p fun ds h1 vs μ1 H1 x1 rl1 rp1 p1 => by
    split at p1
    · cases rp1 with
      | cons r1 q1 =>
        cases q1 with
        | cons r2 q2 =>
          cases q2 with
          | cons r3 q3 =>
            cases q3
            exact ⟨_, _, _, rfl, p1 _ _ _ .refl rl1 ((((er.mono x1).set r1).set r2).set r3)⟩
    · exact p1.elim⟩
/-- name op= e -/
theorem qs_aug (i : Nat) {x : Str} {op : Operator} {r : TIp} {f : D → D → IH → Res D} {pos' : Pos} (hN : X.N.Nodup) (ho : PIp X op r) (sd : Sd2 X r f) (he : QE X W e me) (hi : X.N[i]? = some x := by rfl) (hx : Loc X.env.scope x := by first | exact Or.inl rfl | exact Or.inr rfl)
    (hf : X.fn x = true ∨ X.env.scope.names.lookup x = some .local := by first | exact .inl rfl | exact .inr rfl | assumption) : QS X W (.AugAssign (.Name x pos') op e pos) (sAug i f me) := PS.imp (ps_aug hN hi hx he ho hf) fun Z σ H ⟨μ, h, env, rl, er, p⟩ => by
  simp only [sAug, mBin, mVar] at p
  split at p
  · rename_i d z
    obtain ⟨v, h1, h2⟩ := er.2 i d z
    have p' : PoS X.mg X.kx W H μ (((me env h).bind fun y h2 => f d y h2).bindS env fun d h1 => .nx (env.set i (some d)) h1) Z := p
    refine ⟨v, h1, μ, h, env, rl, er, ?_⟩
    have key := Po.thenS (R := Rp X.kx) er p' (Q' := fun w H' => Z.nx (σ.set i (some w)) H') fun d' h3 v3 μ3 H3 x3 rl3 rp3 p3 => p3 _ _ _ .refl rl3 ((er.mono x3).set rp3)
    exact Po.then (R := Rp X.kx) key fun y h4 v4 μ4 H4 x4 rl4 rp4 p4 => sd W σ v v4 d y H4 μ4 h4 _ rl4 (h2.mono x4) rp4 p4
  · exact p.elim
/-- while -/
theorem qs_while {k : Nat} {c : Expr} {body : List Stmt} {mc : MT} {mb : MS} (fuel : Nat) (C : Ctx X W k) (hc : QT X W c mc) (hb : QSs X W body mb) : QS X W (.While c body [] pos) (whileM fuel mc mb) := PS.imp (ps_while C.po hc hb) fun Z σ H ⟨μ, h, env, rl, er, p⟩ => by
  refine ⟨fun n σ H => ∃ μ h env, Rl X.kx H μ h ∧ EnvR X.kx H μ σ env ∧ PoS X.mg X.kx W H μ (whileM n mc mb env h) Z, ⟨fuel, μ, h, env, rl, er, p⟩, fun n σ H hw => ?_⟩
  obtain ⟨μ, h, env, rl, er, p⟩ := hw
  cases n with
  | zero => exact p.elim
  | succ n =>
    simp only [whileM] at p
    refine ⟨μ, h, env, rl, er, Po.thenS er p fun t h1 v μ1 H1 x1 rl1 e1 p1 => ?_⟩
    have e2 : v = t := e1
    subst e2
    cases v with
    | false =>
      rw [if_neg Bool.false_ne_true] at p1 ⊢
      exact p1 _ _ _ .refl rl1 (er.mono x1)
    | true =>
      rw [if_pos rfl] at p1 ⊢
      refine ⟨fun σ' H' => ∃ μ h env, Rl X.kx H' μ h ∧ EnvR X.kx H' μ σ' env ∧ PoS X.mg X.kx W H' μ (whileM n mc mb env h) Z, fun σ' H' q => ⟨n, Nat.lt_succ_self n, q⟩, μ1, h1, env, rl1, er.mono x1, ?_⟩
      revert p1
      cases mb env h1 with
      | nx e h2 => exact fun q σ' μ' H' x rl er => ⟨μ', h2, e, rl, er, PoS.ext x q⟩
      | ct e h2 => exact fun q σ' μ' H' x rl er => ⟨μ', h2, e, rl, er, PoS.ext x q⟩
      | bk e h2 => exact fun q => q
      | rt d h2 => exact fun q => q
      | exc z e h2 => exact fun q => q
      | stk => exact fun q => q
end
end DD
set_option Elab.async false
set_option linter.all false
set_option maxRecDepth 100000
namespace DD
open PySem PySem.Spec L2 PyProof.Rows

/-! ### what is walked -/
inductive Src where
  | st (ds : List D) | lv (get : IH → Option (List D))
def Src.get : Src → IH → Option (List D)
  | .st ds, _ => some ds
  | .lv g, h => g h
def Src.endAt (s : Src) (n i : Nat) : Prop := match s with
  | .st _ => i = n
  | .lv _ => n ≤ i
def JOk (K : KX) (H0 : Hp) (μ0 : List Addr) (J : It) (s : Src) : Prop := ∀ H μ h es, Mn K H0 μ0 H μ → Rl K H μ h → s.get h = some es →
  (∀ (i : Nat) d, es[i]? = some d → J.go i H ∧ ∀ x H', J.yld i H x H' → Ext K H μ H' μ ∧ Rl K H' μ h ∧ Rp K H' μ x d) ∧ ∀ i, s.endAt es.length i → J.stop i H
abbrev MI := En → IH → Res Src
def RI (mg : MG) (K : KX) (W : WX) (m : MI) : TI := fun σ H R => ∃ μ h env, Rl K H μ h ∧ EnvR K H μ σ env ∧ Po mg K W (JOk K) σ H μ (m env h) R
def QI (X : Cx) (W : WX) (tg iter : Expr) (m : MI) : Prop := PI X tg iter (RI X.mg X.kx W m)
theorem PI.imp {X : Cx} {tg iter : Expr} {t t' : TI} (h : PI X tg iter t) (i : ∀ σ H R, t' σ H R → t σ H R) : PI X tg iter t' := ⟨fun pins s σ H R I q => h.run pins s σ H R I (i σ H R q)⟩
theorem PI.or {X : Cx} {tg iter : Expr} {t t' : TI} (h : PI X tg iter t) (h' : PI X tg iter t') : PI X tg iter (fun σ H R => t σ H R ∨ t' σ H R) := ⟨fun pins s σ H R I q => q.elim (h.run pins s σ H R I) (h'.run pins s σ H R I)⟩

/-! ### for -/
def forS (t : MTg) (b : MS) : List D → MS
  | [] => fun env h => .nx env h
  | d :: ds => fun env h => match t d env h with
    | none => .stk
    | some (e, h1) => match b e h1 with
      | .nx e h2 => forS t b ds e h2
      | .ct e h2 => forS t b ds e h2
      | .bk e h2 => .nx e h2
      | .rt d h2 => .rt d h2
      | .exc x e h2 => .exc x e h2
      | .stk => .stk
def forL (get : IH → Option (List D)) (t : MTg) (b : MS) : Nat → Nat → MS
  | 0, _ => fun _ _ => .stk
  | n + 1, i => fun env h => match get h with
    | none => .stk
    | some es => match es[i]? with
      | none => .nx env h
      | some d => match t d env h with
        | none => .stk
        | some (e, h1) => match b e h1 with
          | .nx e h2 => forL get t b n (i + 1) e h2
          | .ct e h2 => forL get t b n (i + 1) e h2
          | .bk e h2 => .nx e h2
          | .rt d h2 => .rt d h2
          | .exc x e h2 => .exc x e h2
          | .stk => .stk
def sFor (it : MI) (t : MTg) (b : MS) : MS := fun env h => (it env h).bindS env fun s h1 => match s with
  | .st ds => forS t b ds env h1
  | .lv get => match get h1 with
    | some es => forL get t b (es.length + 1) 0 env h1
    | none => .stk
section
variable {X : Cx} {W : WX} {pos : Pos}
theorem qs_for {k : Nat} {tg iter : Expr} {body : List Stmt} {mi : MI} {g : MTg} {mb : MS} (C : Ctx X W k) (hi : QI X W tg iter mi) (hg : QG X tg g) (hb : QSs X W body mb) (hs : ∀ x, foldedSetIterable iter X.env x = pure x := by intro _; rfl) :
    QS X W (.For tg iter body [] pos) (sFor mi g mb) := PS.imp (ps_for C.po C.calm hi hg hb hs) fun Z σ H ⟨μ, h, env, rl, er, p⟩ => by
  refine ⟨μ, h, env, rl, er, Po.thenS er p fun s h1 J μ1 H1 x1 rl1 jo p1 => ?_⟩
  cases s with
  | st ds =>
    refine ⟨fun i m σ H => ∃ μ h env, Ext X.kx H1 μ1 H μ ∧ Rl X.kx H μ h ∧ EnvR X.kx H μ σ env ∧ i + m = ds.length ∧ PoS X.mg X.kx W H μ (forS g mb (ds.drop i) env h) Z,
      ⟨ds.length, μ1, h1, env, .refl, rl1, er.mono x1, Nat.zero_add _, p1⟩, fun i m σ H hw => ?_⟩
    obtain ⟨μ, h, env, x, rl, er, em, p⟩ := hw
    obtain ⟨j1, j2⟩ := jo H μ h ds x.toMn rl rfl
    by_cases hlt : i < ds.length
    · refine .inr ⟨(j1 i ds[i] (List.getElem?_eq_getElem hlt)).1, fun σ' H' => ∃ μ h env, Ext X.kx H1 μ1 H' μ ∧ Rl X.kx H' μ h ∧ EnvR X.kx H' μ σ' env ∧ PoS X.mg X.kx W H' μ (forS g mb (ds.drop (i + 1)) env h) Z, fun σ' H' hn => ?_, fun v H' hy => ?_⟩
      · obtain ⟨μ, h, env, x, rl, er, p⟩ := hn
        exact ⟨m - 1, by omega, μ, h, env, x, rl, er, by omega, p⟩
      · obtain ⟨y1, y2, y3⟩ := (j1 i ds[i] (List.getElem?_eq_getElem hlt)).2 v H' hy
        refine ⟨μ, h, env, ds[i], y2, er.mono y1, y3, ?_⟩
        rw [List.drop_eq_getElem_cons hlt] at p
        simp only [forS] at p
        revert p
        cases g ds[i] env h with
        | none => exact fun q => q
        | some eh =>
          obtain ⟨e, h2⟩ := eh
          intro q σ2 μ2 H2 x2 rl2 er2
          refine ⟨μ2, h2, e, rl2, er2, ?_⟩
          revert q
          show PoS X.mg X.kx W H μ (match mb e h2 with
            | .nx e h2 => forS g mb (ds.drop (i + 1)) e h2
            | .ct e h2 => forS g mb (ds.drop (i + 1)) e h2
            | .bk e h2 => .nx e h2
            | .rt d h2 => .rt d h2
            | .exc x e h2 => .exc x e h2
            | .stk => .stk) Z → _
          cases mb e h2 with
          | nx e h3 => exact fun q σ' μ' H' x3 rl er => ⟨μ', h3, e, x.trans (y1.trans (x2.trans x3)), rl, er, PoS.ext (y1.trans (x2.trans x3)) q⟩
          | ct e h3 => exact fun q σ' μ' H' x3 rl er => ⟨μ', h3, e, x.trans (y1.trans (x2.trans x3)), rl, er, PoS.ext (y1.trans (x2.trans x3)) q⟩
          | bk e h3 => exact fun q => PoS.ext (y1.trans x2) q
          | rt d h3 => exact fun q => PoS.ext (y1.trans x2) q
          | exc z e h3 => exact fun q => PoS.ext (y1.trans x2) q
          | stk => exact fun q => q
    · rw [List.drop_eq_nil_of_le (by omega)] at p
      exact .inl ⟨j2 i (show i = ds.length by omega), p σ μ H .refl rl er⟩
  | lv get =>
    simp only at p1
    split at p1
    · rename_i es0 z0
      refine ⟨fun i m σ H => ∃ μ h env, Ext X.kx H1 μ1 H μ ∧ Rl X.kx H μ h ∧ EnvR X.kx H μ σ env ∧ PoS X.mg X.kx W H μ (forL get g mb m i env h) Z,
        ⟨es0.length + 1, μ1, h1, env, .refl, rl1, er.mono x1, p1⟩, fun i m σ H hw => ?_⟩
      obtain ⟨μ, h, env, x, rl, er, p⟩ := hw
      cases m with
      | zero => exact p.elim
      | succ m =>
        simp only [forL] at p
        cases zg : get h with
        | none =>
          rw [zg] at p
          exact p.elim
        | some es =>
          rw [zg] at p
          obtain ⟨j1, j2⟩ := jo H μ h es x.toMn rl zg
          simp only at p
          cases zi : es[i]? with
          | none =>
            rw [zi] at p
            exact .inl ⟨j2 i (List.getElem?_eq_none_iff.mp zi), p σ μ H .refl rl er⟩
          | some d =>
            rw [zi] at p
            refine .inr ⟨(j1 i d zi).1, fun σ' H' => ∃ μ h env, Ext X.kx H1 μ1 H' μ ∧ Rl X.kx H' μ h ∧ EnvR X.kx H' μ σ' env ∧ PoS X.mg X.kx W H' μ (forL get g mb m (i + 1) env h) Z, fun σ' H' hn => ⟨m, Nat.lt_succ_self m, hn⟩, fun v H' hy => ?_⟩
            obtain ⟨y1, y2, y3⟩ := (j1 i d zi).2 v H' hy
            refine ⟨μ, h, env, d, y2, er.mono y1, y3, ?_⟩
            revert p
            simp only
            cases g d env h with
            | none => exact fun q => q
            | some eh =>
              obtain ⟨e, h2⟩ := eh
              intro q σ2 μ2 H2 x2 rl2 er2
              refine ⟨μ2, h2, e, rl2, er2, ?_⟩
              revert q
              simp only
              cases mb e h2 with
              | nx e h3 => exact fun q σ' μ' H' x3 rl er => ⟨μ', h3, e, x.trans (y1.trans (x2.trans x3)), rl, er, PoS.ext (y1.trans (x2.trans x3)) q⟩
              | ct e h3 => exact fun q σ' μ' H' x3 rl er => ⟨μ', h3, e, x.trans (y1.trans (x2.trans x3)), rl, er, PoS.ext (y1.trans (x2.trans x3)) q⟩
              | bk e h3 => exact fun q => PoS.ext (y1.trans x2) q
              | rt d h3 => exact fun q => PoS.ext (y1.trans x2) q
              | exc z e h3 => exact fun q => PoS.ext (y1.trans x2) q
              | stk => exact fun q => q
    · exact p1.elim
end

/-! ### comprehensions: the new list is laid down behind the last item -/
def wipeE (env : En) : List Nat → En
  | [] => env
  | v :: vs => (wipeE env vs).set v none
theorem wipeE_length (env : En) : ∀ vs : List Nat, (wipeE env vs).length = env.length
  | [] => rfl
  | v :: vs => by
    unfold wipeE
    rw [List.length_set, wipeE_length env vs]
theorem wipeE_some {env : En} {i : Nat} {d : D} : ∀ {vs : List Nat}, (wipeE env vs)[i]? = some (some d) → env[i]? = some (some d) ∧ i ∉ vs
  | [], h => ⟨h, by simp⟩
  | v :: vs, h => by
    unfold wipeE at h
    rw [List.getElem?_set] at h
    split at h
    · split at h <;> cases h
    · rename_i hv
      obtain ⟨h1, h2⟩ := wipeE_some h
      exact ⟨h1, fun z => (List.mem_cons.mp z).elim (fun z => hv z.symm) h2⟩
theorem wipe_get {σ : L2.St} {i : Nat} : ∀ {vs : List Nat}, i ∉ vs → (wipe σ vs)[i]? = σ[i]?
  | [], _ => rfl
  | v :: vs, h => by
    unfold wipe
    rw [List.getElem?_set_ne (fun z => h (by rw [z]; exact List.mem_cons_self)), wipe_get fun z => h (List.mem_cons_of_mem _ z)]
theorem wipe_set {σ : L2.St} {i : Nat} {x : Option V} : ∀ {vs : List Nat}, i ∈ vs → wipe (σ.set i x) vs = wipe σ vs
  | [], h => by simp at h
  | v :: vs, h => by
    have key : ∀ (ws : List Nat) (i : Nat), wipe (σ.set i x) ws = (if i ∈ ws then wipe σ ws else (wipe σ ws).set i x) := by
      intro ws
      induction ws with
      | nil =>
        intro i
        rfl
      | cons w ws ih =>
        intro i
        unfold wipe
        rw [ih i]
        by_cases h1 : i ∈ ws
        · rw [if_pos h1, if_pos (List.mem_cons_of_mem _ h1)]
        · rw [if_neg h1]
          by_cases h2 : i = w
          · subst h2
            rw [if_pos List.mem_cons_self, List.set_set]
          · rw [if_neg (fun z => (List.mem_cons.mp z).elim h2 h1), List.set_comm _ _ h2]
    rw [key, if_pos h]
theorem wipe_wipe {σ : L2.St} {vs : List Nat} : wipe (wipe σ vs) vs = wipe σ vs := by
  have key : ∀ ws : List Nat, (∀ i ∈ ws, i ∈ vs) → wipe (wipe σ ws) vs = wipe σ vs := by
    intro ws
    induction ws with
    | nil =>
      intro _
      rfl
    | cons w ws ih =>
      intro h
      show wipe ((wipe σ ws).set w none) vs = _
      rw [wipe_set (h w List.mem_cons_self)]
      exact ih fun i hi => h i (List.mem_cons_of_mem _ hi)
  exact key vs fun _ h => h
theorem EnvR.wipe {K : KX} {H : Hp} {μ : List Addr} {σ : L2.St} {env : En} (er : EnvR K H μ σ env) (vs : List Nat) : EnvR K H μ (L2.wipe σ vs) (wipeE env vs) := by
  refine ⟨by rw [wipe_length, wipeE_length]; exact er.1, fun i d e => ?_⟩
  obtain ⟨h1, h2⟩ := wipeE_some e
  rw [wipe_get h2]
  exact er.2 i d h1
/-- a target whose names are the block's own -/
def RX (K : KX) (own : List Nat) (m : MTg) : TG := fun v σ H Q => ∃ μ h env d, Rl K H μ h ∧ EnvR K H μ σ env ∧ Rp K H μ v d ∧ PoG K H μ (m d env h) fun σ' H' => L2.wipe σ' own = L2.wipe σ own → Q σ' H'
def RXs (K : KX) (own : List Nat) (m : MTs) : TGs := fun v σ H Q => ∃ μ h env d, Rl K H μ h ∧ EnvR K H μ σ env ∧ Rps K H μ v d ∧ PoG K H μ (m d env h) fun σ' H' => L2.wipe σ' own = L2.wipe σ own → Q σ' H'
def QX (X : Cx) (own : List Nat) (e : Expr) (m : MTg) : Prop := PG X e (RX X.kx own m)
def QXs (X : Cx) (own : List Nat) (e : List Expr) (m : MTs) : Prop := PGs X e (RXs X.kx own m)
section
variable {X : Cx} {pos : Pos} {own : List Nat}
theorem qx_name (i : Nat) {x : Str} (hN : X.N.Nodup) (ho : i ∈ own := by decide) (hi : X.N[i]? = some x := by rfl) (hx : Loc X.env.scope x := by first | exact Or.inl rfl | exact Or.inr rfl) (hf : X.fn x = true ∨ X.env.scope.names.lookup x = some .local := by first | exact .inl rfl | exact .inr rfl | assumption) : QX X own (.Name x pos) (gN i) :=
  ⟨fun pins s σ H v u Q I r ⟨μ, h, env, d, rl, er, rp, p⟩ => (pg_name hN hi hx hf).run pins s σ H v u Q I r (p _ μ H .refl rl (er.set rp) (wipe_set ho))⟩
theorem qxs_nil : QXs X own [] gsNil := ⟨fun pins s σ H vs us Q I r ⟨μ, h, env, d, rl, er, rp, p⟩ => pgs_nil.run pins s σ H vs us Q I r (by
  cases rp with
  | nil => exact ⟨rfl, p σ μ H .refl rl er rfl⟩
  | cons a b => exact p.elim)⟩
theorem qxs_cons {tg : Expr} {ts : List Expr} {g : MTg} {gs : MTs} (h1 : QX X own tg g) (h2 : QXs X own ts gs) (hs : (assignEach (tg :: ts) X.env).map (·.2) = assign tg X.env :: (assignEach ts X.env).map (·.2) := by rfl) : QXs X own (tg :: ts) (gsCons g gs) :=
  ⟨fun pins s σ H vs us Q I r ⟨μ, h, env, ds, rl, er, rp, p⟩ => (pgs_cons h1 h2 hs).run pins s σ H vs us Q I r (by
    cases rp with
    | nil => exact p.elim
    | cons a b =>
      refine ⟨_, _, rfl, μ, h, env, _, rl, er, a, ?_⟩
      simp only [gsCons] at p
      split at p
      · rename_i e h3 z
        rw [z]
        refine fun σ' μ' H' x rl' er' ew => ⟨μ', h3, e, _, rl', er', b.mono x, ?_⟩
        have p2 := PoG.ext x p
        revert p2
        cases gs _ e h3 with
        | none => exact fun q => q
        | some z => exact fun q σ2 μ2 H2 x2 rl2 er2 ew2 => q σ2 μ2 H2 x2 rl2 er2 (ew2.trans ew)
      · exact p.elim)⟩
theorem qx_tup {ts : List Expr} {k n : Nat} {gs : MTs} (hc : X.calm = true) (h : QXs X own ts gs) (hn : (assignEach ts X.env).length = n := by rfl) (hst : (assignEach ts X.env).findIdx? (·.1) = none := by rfl) : QX X own (.Tuple ts k pos) (gT n gs) :=
  ⟨fun pins s σ H v u Q I r ⟨μ, h', env, d, rl, er, rp, p⟩ => (pg_tup hc h hn hst).run pins s σ H v u Q I r (by
    cases rp with
    | tup s1 q =>
      simp only [gT] at p
      split at p
      · rename_i z
        exact ⟨_, _, rfl, s1, by rw [q.length]; exact z, μ, h', env, _, rl, er, q, p⟩
      · exact p.elim
    | _ => exact p.elim)⟩
end
/-- one turn -/
def lcT (t : MTg) (c : MT) (e : ME) (env : En) (d : D) (acc : List D) (h : IH) : Res (List D) := match t d env h with
  | none => .stk
  | some (e1, h1) => match c e1 h1 with
    | .val true h2 => (match e e1 h2 with
      | .val y h3 => if acc.length < sizeLine then .val (acc ++ [y]) h3 else .stk
      | _ => .stk)
    | .val false h2 => .val acc h2
    | _ => .stk
def lcS (t : MTg) (c : MT) (e : ME) (env : En) : List D → List D → IH → Res (List D)
  | [], acc, h => .val acc h
  | d :: ds, acc, h => match lcT t c e env d acc h with
    | .val acc' h' => lcS t c e env ds acc' h'
    | _ => .stk
def lcL (get : IH → Option (List D)) (t : MTg) (c : MT) (e : ME) (env : En) : Nat → Nat → List D → IH → Res (List D)
  | 0, _, _, _ => .stk
  | n + 1, i, acc, h => match get h with
    | none => .stk
    | some es => match es[i]? with
      | none => .val acc h
      | some d => match lcT t c e env d acc h with
        | .val acc' h' => lcL get t c e env n (i + 1) acc' h'
        | _ => .stk
def lcRun (t : MTg) (c : MT) (e : ME) (env : En) (s : Src) (h1 : IH) : Res (List D) := match s with
  | .st ds => lcS t c e env ds [] h1
  | .lv get => match get h1 with
    | some es => lcL get t c e env (es.length + 1) 0 [] h1
    | none => .stk
def mLc (it : MI) (t : MTg) (c : MT) (e : ME) (own : List Nat) : ME := fun env h => (it env h).bind fun s h1 => (lcRun t c e (wipeE env own) s h1).bind fun ys h2 => .val (.ref h2.length) (h2 ++ [.lst ys])
def mYes : MT := fun _ h => .val true h
/-- the state between two turns: the new list stands at p, outside the own heap -/
structure LcI (K : KX) (H1 : Hp) (μ1 : List Addr) (p : Addr) (H : Hp) (μ : List Addr) (h : IH) (acc : List D) : Prop where
  x : Ext K H1 μ1 H μ
  rl : Rl K H μ h
  np : p ∉ μ
  l : ∃ avs, H p = some (.lst avs) ∧ Rps K H μ avs acc
section
variable {K : KX} {H1 H H2 : Hp} {μ1 μ μ2 : List Addr} {p : Addr} {h h2 : IH} {acc : List D}
theorem LcI.go (s : LcI K H1 μ1 p H μ h acc) (x : Ext K H μ H2 μ2) (rl : Rl K H2 μ2 h2) : LcI K H1 μ1 p H2 μ2 h2 acc := by
  obtain ⟨avs, h1, h3⟩ := s.l
  refine ⟨s.x.trans x, rl, fun z => ?_, avs, x.keep p _ h1 s.np, h3.mono x⟩
  have := x.fresh p z s.np
  rw [h1] at this
  cases this
theorem LcI.start (rl : Rl K H1 μ1 h) (hp : H1 p = none) : LcI K H1 μ1 p (upd H1 p (.lst [])) μ1 h [] := by
  refine ⟨Ext.new hp, rl.new hp, fun z => ?_, [], upd_same, .nil⟩
  obtain ⟨n, hn, e⟩ := List.mem_iff_getElem.mp z
  exact rl.old (n := n) (by rw [List.getElem?_eq_getElem hn, e]) hp rfl
theorem LcI.app {y : V} {d : D} (s : LcI K H1 μ1 p H μ h acc) (hp : H1 p = none) (r : Rp K H μ y d) : ∃ avs, H p = some (.lst avs) ∧ avs.length = acc.length ∧ LcI K H1 μ1 p (upd H p (.lst (avs ++ [y]))) μ h (acc ++ [d]) := by
  obtain ⟨avs, h1, h3⟩ := s.l
  have m : Mn K H μ (upd H p (.lst (avs ++ [y]))) μ := ⟨fun _ _ q => sqT_upd_mut q h1 (fun _ z => nomatch z) (fun _ _ z => nomatch z), fun _ _ q => frzL_upd_mut q h1 (fun _ _ z => nomatch z), fun _ _ q => q, fun a b z q => by rw [upd_ne (ne_of q h1 fun e => nomatch e)]; exact q⟩
  refine ⟨avs, h1, h3.length, ⟨⟨fun a xs q => m.tup a xs (s.x.tup a xs q), fun a xs q => m.frz a xs (s.x.frz a xs q), s.x.pre, fun a b z q => m.fro a b z (s.x.fro a b z q)⟩, fun a o q g => ?_, s.x.fresh⟩, ⟨s.rl.nd, s.rl.len, fun n a o e1 e2 => ?_⟩, s.np, _, upd_same, (h3.append (.cons r .nil)).mn m⟩
  · rw [upd_ne (ne_of_none q hp)]
    exact s.x.keep a o q g
  · refine (s.rl.ok n a o e1 e2).mn m (upd_ne fun z => s.np ?_)
    rw [← z]
    exact List.mem_of_getElem? e1
theorem LcI.fin (s : LcI K H1 μ1 p H μ h acc) (hp : H1 p = none) : Ext K H1 μ1 H (μ ++ [p]) ∧ Rl K H (μ ++ [p]) (h ++ [.lst acc]) ∧ Rp K H (μ ++ [p]) (.ref p) (.ref h.length) := by
  obtain ⟨avs, h1, h3⟩ := s.l
  have m : Mn K H μ H (μ ++ [p]) := ⟨fun _ _ q => q, fun _ _ q => q, fun n a q => by
    rw [List.getElem?_append_left (List.getElem?_eq_some_iff.mp q).1]
    exact q, fun _ _ _ q => q⟩
  refine ⟨⟨⟨s.x.tup, s.x.frz, fun n a q => m.pre n a (s.x.pre n a q), s.x.fro⟩, s.x.keep, fun a q g => ?_⟩, ⟨?_, by rw [List.length_append, List.length_append, s.rl.len]; rfl, fun n a o e1 e2 => ?_⟩, .ref ?_⟩
  · rcases List.mem_append.mp q with q | q
    · exact s.x.fresh a q g
    · rw [List.mem_singleton.mp q]
      exact hp
  · rw [List.nodup_append]
    exact ⟨s.rl.nd, by simp, fun a ha b hb z => s.np (by rw [← List.mem_singleton.mp hb, ← z]; exact ha)⟩
  · by_cases hn : n < μ.length
    · rw [List.getElem?_append_left hn] at e1
      rw [List.getElem?_append_left (by rw [← s.rl.len]; exact hn)] at e2
      exact (s.rl.ok n a o e1 e2).mn m rfl
    · rw [List.getElem?_append_right (by omega)] at e1
      rw [List.getElem?_append_right (by rw [← s.rl.len]; omega), ← s.rl.len] at e2
      have hz : n - μ.length = 0 := by
        have := (List.getElem?_eq_some_iff.mp e1).1
        rw [List.length_singleton] at this
        omega
      rw [hz] at e1 e2
      cases e1
      cases e2
      exact ⟨avs, h1, h3.mn m⟩
  · rw [← s.rl.len, List.getElem?_append_right (Nat.le_refl _), Nat.sub_self]
    rfl
theorem LcI.turn {mg : MG} {t : MTg} {c : MT} {e : ME} {own : List Nat} {env : En} {σ : L2.St} {d : D} {v : V} {acc' : List D} {h' : IH} (s : LcI K H1 μ1 p H μ h acc) (hp : H1 p = none) (er : EnvR K H1 μ1 (wipe σ own) env) (r : Rp K H μ v d) (z : lcT t c e env d acc h = .val acc' h') :
    RX K own t v (wipe σ own) H fun σ2 H2 => wipe σ2 own = wipe σ own ∧ RT mg K W0 c σ2 H2 fun b H3 => if b = true then RE mg K W0 e σ2 H3 fun y H4 => ∃ ac, H4 p = some (.lst ac) ∧ ac.length < sizeLine ∧ (∃ μ5, LcI K H1 μ1 p (upd H4 p (.lst (ac ++ [y]))) μ5 h' acc')
      else ∃ μ5, LcI K H1 μ1 p H3 μ5 h' acc' := by
  refine ⟨μ, h, env, d, s.rl, er.mono s.x, r, ?_⟩
  unfold lcT at z
  split at z
  · cases z
  · rename_i e1 h1 z1
    rw [z1]
    refine fun σ2 μ2 H2 x2 rl2 er2 ew => ⟨ew.trans wipe_wipe, μ2, h1, e1, rl2, er2, ?_⟩
    split at z
    · rename_i h3 z3
      rw [z3]
      refine fun b μ3 H3 x3 rl3 eb => ?_
      have eb2 : b = true := eb
      subst eb2
      dsimp only
      rw [if_pos rfl]
      refine ⟨μ3, h3, e1, rl3, er2.mono x3, ?_⟩
      split at z
      · rename_i y h4 z4
        rw [z4]
        split at z
        · rename_i z5
          cases z
          refine fun v4 μ4 H4 x4 rl4 r4 => ?_
          obtain ⟨avs, q1, q2, q3⟩ := ((s.go (x2.trans (x3.trans x4)) rl4).app hp r4)
          exact ⟨avs, q1, by rw [q2]; exact z5, μ4, q3⟩
        · cases z
      · cases z
    · rename_i h3 z3
      rw [z3]
      cases z
      refine fun b μ3 H3 x3 rl3 eb => ?_
      have eb2 : b = false := eb
      subst eb2
      dsimp only
      rw [if_neg Bool.false_ne_true]
      exact ⟨μ3, s.go (x2.trans x3) rl3⟩
    · cases z
end
def QTs (X : Cx) (W : WX) (es : List Expr) (m : MT) : Prop := PTs X es (RT X.mg X.kx W m)
theorem qts_nil {X : Cx} {W : WX} : QTs X W [] mYes := ⟨fun pins s σ H Q I ⟨μ, h, env, rl, er, p⟩ => pts_nil.run pins s σ H Q I (p true μ H .refl rl rfl)⟩
theorem qts_one {X : Cx} {W : WX} {c : Expr} {m : MT} (h : QT X W c m) : QTs X W [c] m := pts_one h
theorem lc_imp {mg : MG} {K : KX} {W : WX} {mi : MI} {t : MTg} {c : MT} {e : ME} {own : List Nat} : ∀ σ H Q, RE mg K W (mLc mi t c e own) σ H Q → tLc (RI mg K W mi) (RX K own t) (RT mg K W0 c) (RE mg K W0 e) own σ H Q := fun σ H Q ⟨μ, h, env, rl, er, po⟩ => by
  refine ⟨μ, h, env, rl, er, Po.then (R := JOk K) po fun s h1 J μ1 H1 x1 rl1 jo p1 p hp => ?_⟩
  have er1 : EnvR K H1 μ1 (L2.wipe σ own) (wipeE env own) := (er.mono x1).wipe own
  cases s with
  | st ds =>
    refine ⟨fun i m H => ∃ μ h acc, LcI K H1 μ1 p H μ h acc ∧ i + m = ds.length ∧ Po mg K W (Rp K) σ H1 μ1 ((lcS t c e (wipeE env own) (ds.drop i) acc h).bind fun ys h2 => .val (.ref h2.length) (h2 ++ [IO.lst ys])) Q,
      ⟨ds.length, μ1, h1, [], LcI.start rl1 hp, Nat.zero_add _, p1⟩, fun i m H hw => ?_⟩
    obtain ⟨μ, h, acc, s, em, po⟩ := hw
    obtain ⟨j1, j2⟩ := jo H μ h ds s.x.toMn s.rl rfl
    by_cases hlt : i < ds.length
    · rw [List.drop_eq_getElem_cons hlt] at po
      simp only [lcS] at po
      cases z : lcT t c e (wipeE env own) ds[i] acc h with
      | val acc' h' =>
        rw [z] at po
        refine .inr ⟨(j1 i ds[i] (List.getElem?_eq_getElem hlt)).1, fun H' => ∃ μ5, LcI K H1 μ1 p H' μ5 h' acc', fun H' hn => ?_, fun v H' hy => ?_⟩
        · obtain ⟨μ5, s5⟩ := hn
          exact ⟨m - 1, by omega, μ5, h', acc', s5, by omega, po⟩
        · obtain ⟨y1, y2, y3⟩ := (j1 i ds[i] (List.getElem?_eq_getElem hlt)).2 v H' hy
          exact (s.go y1 y2).turn hp er1 y3 z
      | exc x hh =>
        rw [z] at po
        exact po.elim
      | stk =>
        rw [z] at po
        exact po.elim
    · rw [List.drop_eq_nil_of_le (by omega)] at po
      obtain ⟨f1, f2, f3⟩ := s.fin hp
      exact .inl ⟨j2 i (show i = ds.length by omega), po _ _ _ f1 f2 f3⟩
  | lv get =>
    simp only [lcRun] at p1
    cases z0 : get h1 with
    | none =>
      rw [z0] at p1
      exact p1.elim
    | some es0 =>
      rw [z0] at p1
      refine ⟨fun i m H => ∃ μ h acc, LcI K H1 μ1 p H μ h acc ∧ Po mg K W (Rp K) σ H1 μ1 ((lcL get t c e (wipeE env own) m i acc h).bind fun ys h2 => .val (.ref h2.length) (h2 ++ [IO.lst ys])) Q,
        ⟨es0.length + 1, μ1, h1, [], LcI.start rl1 hp, p1⟩, fun i m H hw => ?_⟩
      obtain ⟨μ, h, acc, s, po⟩ := hw
      cases m with
      | zero => exact po.elim
      | succ m =>
        simp only [lcL] at po
        cases zg : get h with
        | none =>
          rw [zg] at po
          exact po.elim
        | some es =>
          rw [zg] at po
          obtain ⟨j1, j2⟩ := jo H μ h es s.x.toMn s.rl zg
          simp only at po
          cases zi : es[i]? with
          | none =>
            rw [zi] at po
            obtain ⟨f1, f2, f3⟩ := s.fin hp
            exact .inl ⟨j2 i (List.getElem?_eq_none_iff.mp zi), po _ _ _ f1 f2 f3⟩
          | some d =>
            rw [zi] at po
            simp only at po
            cases z : lcT t c e (wipeE env own) d acc h with
            | val acc' h' =>
              rw [z] at po
              refine .inr ⟨(j1 i d zi).1, fun H' => ∃ μ5, LcI K H1 μ1 p H' μ5 h' acc', fun H' hn => ?_, fun v H' hy => ?_⟩
              · obtain ⟨μ5, s5⟩ := hn
                exact ⟨m, Nat.lt_succ_self m, μ5, h', acc', s5, po⟩
              · obtain ⟨y1, y2, y3⟩ := (j1 i d zi).2 v H' hy
                exact (s.go y1 y2).turn hp er1 y3 z
            | exc x hh =>
              rw [z] at po
              exact po.elim
            | stk =>
              rw [z] at po
              exact po.elim
section
variable {X : Cx} {W : WX} {pos : Pos}
theorem qe_lc {k : Nat} {elt tg iter : Expr} {ifs : List Expr} {scope : Scope} (own : List (Str × Nat)) {mi : MI} {t : MTg} {c : MT} {e : ME} (C : Ctx X W k) (hi : QI X W tg iter mi) (ok : BlkOk X.N X.env.scope scope own)
    (hg : ∀ (s : Shared) (H : Hp) (c : Addr) (cl : List (Str × Addr)) (fp : List Addr), Ctx (X.blk s H scope (compEnvC scope cl c X.env) fp) W0 k → QX (X.blk s H scope (compEnvC scope cl c X.env) fp) (own.map (·.2)) tg t)
    (ht : ∀ (s : Shared) (H : Hp) (b : Addr) (cl : List (Str × Addr)) (fp : List Addr), Ctx (X.blk s H scope (compEnvC scope cl b X.env) fp) W0 k → QTs (X.blk s H scope (compEnvC scope cl b X.env) fp) W0 ifs c)
    (he : ∀ (s : Shared) (H : Hp) (b : Addr) (cl : List (Str × Addr)) (fp : List Addr), Ctx (X.blk s H scope (compEnvC scope cl b X.env) fp) W0 k → QE (X.blk s H scope (compEnvC scope cl b X.env) fp) W0 elt e)
    (hs : ∀ x, foldedSetIterable iter X.env x = pure x := by intro _; rfl) : QE X W (.ListComp elt [⟨tg, iter, ifs, 0⟩] scope pos) (mLc mi t c e (own.map (·.2))) :=
  PE.imp (pe_lc (own := own) (g := RX X.kx (own.map (fun z : Str × Nat => z.2)) t) (tt := RT X.mg X.kx W0 c) (te := RE X.mg X.kx W0 e) C.calm C.nd hi ok (fun s H b cl fp => hg s H b cl fp C.blk) (fun s H b cl fp => ht s H b cl fp C.blk) (fun s H b cl fp => he s H b cl fp C.blk) hs) lc_imp
theorem qs_setLc (i : Nat) {y : Str} {py spos : Pos} {k : Nat} {elt tg iter : Expr} {ifs : List Expr} {scope : Scope} (own : List (Str × Nat)) {mi : MI} {t : MTg} {c : MT} {e : ME} (C : Ctx X W k) (hi : QI X W tg iter mi) (ok : BlkOk X.N X.env.scope scope own)
    (hg : ∀ (s : Shared) (H : Hp) (c : Addr) (cl : List (Str × Addr)) (fp : List Addr), Ctx (X.blk s H scope (compEnvC scope cl c X.env) fp) W0 k → QX (X.blk s H scope (compEnvC scope cl c X.env) fp) (own.map (·.2)) tg t)
    (ht : ∀ (s : Shared) (H : Hp) (b : Addr) (cl : List (Str × Addr)) (fp : List Addr), Ctx (X.blk s H scope (compEnvC scope cl b X.env) fp) W0 k → QTs (X.blk s H scope (compEnvC scope cl b X.env) fp) W0 ifs c)
    (he : ∀ (s : Shared) (H : Hp) (b : Addr) (cl : List (Str × Addr)) (fp : List Addr), Ctx (X.blk s H scope (compEnvC scope cl b X.env) fp) W0 k → QE (X.blk s H scope (compEnvC scope cl b X.env) fp) W0 elt e)
    (hy : X.N[i]? = some y := by rfl) (hyl : X.env.scope.names.lookup y = some .local := by rfl) (hsw : swapsWith (.ListComp elt [⟨tg, iter, ifs, 0⟩] scope pos) (some (.Name y py)) spos.line X.env = pure true := by exact sw_true rfl rfl rfl (by decide +kernel))
    (hs : ∀ x, foldedSetIterable iter X.env x = pure x := by intro _; rfl) : QS X W (.Assign [.Name y py] (.ListComp elt [⟨tg, iter, ifs, 0⟩] scope pos) spos) (sAsg (mLc mi t c e (own.map (·.2))) (gN i)) :=
  PS.imp (ps_setLc (own := own) (g := RX X.kx (own.map (fun z : Str × Nat => z.2)) t) (tt := RT X.mg X.kx W0 c) (te := RE X.mg X.kx W0 e) C.calm C.nd hy hyl hsw hi ok (fun s H b cl fp => hg s H b cl fp C.blk) (fun s H b cl fp => ht s H b cl fp C.blk) (fun s H b cl fp => he s H b cl fp C.blk) hs) fun Z σ H ⟨μ, h, env, rl, er, p⟩ =>
    lc_imp (W := W) (mg := X.mg) σ H _ ⟨μ, h, env, rl, er, Po.thenS er p fun d h2 v μ1 H1 x1 rl1 rp1 p1 => p1 _ _ _ .refl rl1 ((er.mono x1).set rp1)⟩
end
end DD
set_option Elab.async false
set_option linter.all false
set_option maxRecDepth 100000
namespace DD
open PySem PySem.Spec L2 PyProof.Rows

section
variable {X : Cx} {W : WX}
theorem OpR.or {f : Value → Value → Sem Value} {r r' : R2} (h : OpR X f r) (h' : OpR X f r') : OpR X f (fun x y H Q => r x y H Q ∨ r' x y H Q) := fun pins s σ H x y v u Q I rx ry q =>
  q.elim (h pins s σ H x y v u Q I rx ry) (h' pins s σ H x y v u Q I rx ry)
theorem CallR.or {f : Value} {r r' : List V → Hp → VK → Prop} (h : CallR X f r) (h' : CallR X f r') : CallR X f (fun xs H Q => r xs H Q ∨ r' xs H Q) := fun pins s σ H xs us Q I rv q =>
  q.elim (h pins s σ H xs us Q I rv) (h' pins s σ H xs us Q I rv)
/-- nothing new, nothing changed -/
theorem Po.at {mg : MG} {K : KX} {σ : L2.St} {H : Hp} {μ : List Addr} {d : D} {v : V} {h : IH} {Q : VK} (p : Po mg K W (Rp K) σ H μ (.val d h) Q) (rl : Rl K H μ h) (r : Rp K H μ v d) : Q v H := p v μ H .refl rl r

/-! ### ints -/
def pySub : D → D → IH → Res D
  | .int i, .int j, h => .val (.int (i - j)) h
  | _, _, _ => .stk
def pyMod : D → D → IH → Res D
  | .int i, .int j, h => if 0 < j then .val (.int (i % j)) h else .stk
  | _, _, _ => .stk
def pyDiv : D → D → IH → Res D
  | .int i, .int j, h => if 0 < j ∧ (j < 1073741824 ∨ j.natAbs.log2 < 9000) then .val (.int (i / j)) h else .stk
  | _, _, _ => .stk
def pyPow : D → D → IH → Res D
  | .int i, .int j, h => if 0 ≤ j ∧ j ≤ 1000000 ∧ i.natAbs < 2 ^ 64 then .val (.int (i ^ j.toNat)) h else .stk
  | _, _, _ => .stk
def pyNeg : D → IH → Res D
  | .int i, h => .val (.int (-i)) h
  | _, _ => .stk
def pyCmp (p : Int → Int → Bool) : D → D → IH → Res D
  | .int i, .int j, h => .val (.bl (p i j)) h
  | _, _, _ => .stk
abbrev pyLt := pyCmp fun i j => decide (i < j)
abbrev pyLe := pyCmp fun i j => decide (i ≤ j)
abbrev pyGt := pyCmp fun i j => decide (j < i)
abbrev pyGe := pyCmp fun i j => decide (j ≤ i)
theorem sd_sub : Sd2 X (rI0 fun i j => .int (i - j)) pySub := by
  intro W σ x y a b H μ h Q rl ra rb p
  cases ra <;> first | exact p.elim | skip
  cases rb <;> first | exact p.elim | skip
  exact ⟨_, _, rfl, rfl, p.at rl (.int _)⟩
theorem sd_mod : Sd2 X (rI (fun _ j => 0 < j) fun i j => .int (i % j)) pyMod := by
  intro W σ x y a b H μ h Q rl ra rb p
  cases ra <;> first | exact p.elim | skip
  cases rb <;> first | exact p.elim | skip
  simp only [pyMod] at p
  split at p
  · exact ⟨_, _, rfl, rfl, by assumption, p.at rl (.int _)⟩
  · exact p.elim
theorem sd_div : Sd2 X (rI CDivW fun i j => .int (i / j)) pyDiv := by
  intro W σ x y a b H μ h Q rl ra rb p
  cases ra <;> first | exact p.elim | skip
  cases rb <;> first | exact p.elim | skip
  simp only [pyDiv] at p
  split at p
  · rename_i j z
    refine ⟨_, _, rfl, rfl, ⟨z.1, ?_⟩, p.at rl (.int _)⟩
    rcases z.2 with z2 | z2
    · have z1 := z.1
      refine Nat.lt_of_lt_of_le ((Nat.log2_lt (k := 30) (by omega)).mpr ?_) (by decide)
      have : (2 ^ 30 : Nat) = 1073741824 := by decide
      omega
    · exact z2
  · exact p.elim
theorem sd_pow : Sd2 X (rI CPow fun i j => .int (i ^ j.toNat)) pyPow := by
  intro W σ x y a b H μ h Q rl ra rb p
  cases ra <;> first | exact p.elim | skip
  cases rb <;> first | exact p.elim | skip
  simp only [pyPow] at p
  split at p
  · exact ⟨_, _, rfl, rfl, by assumption, p.at rl (.int _)⟩
  · exact p.elim
theorem sd_neg : Sd1 X (rU fun i => .int (-i)) pyNeg := by
  intro W σ x a H μ h Q rl ra p
  cases ra <;> first | exact p.elim | skip
  exact ⟨_, rfl, p.at rl (.int _)⟩
theorem sd_cmp {p : Int → Int → Bool} : Sd2 X (rI0 fun i j => .bl (p i j)) (pyCmp p) := by
  intro W σ x y a b H μ h Q rl ra rb p
  cases ra <;> first | exact p.elim | skip
  cases rb <;> first | exact p.elim | skip
  exact ⟨_, _, rfl, rfl, p.at rl (.bl _)⟩
theorem units_of {k : Nat} (C : Ctx X W k) : X.A.units + 64 < cLine := C.room.units
theorem units1_of {k : Nat} (C : Ctx X W k) : X.A.units + 1 < cLine := by
  have := C.room.units
  omega

/-! ### + * -/
def pyAdd : D → D → IH → Res D
  | .int i, .int j, h => .val (.int (i + j)) h
  | .str x, .str y, h => if x.length + y.length ≤ sizeLine then .val (.str (x ++ y)) h else .stk
  | .tup xs, .tup ys, h => if xs.length + ys.length ≤ sizeLine then .val (.tup (xs ++ ys)) h else .stk
  | .ref n, .ref m, h => match lstAt h n, lstAt h m with
    | some xs, some ys => if xs.length + ys.length ≤ sizeLine then .val (.ref h.length) (h ++ [.lst (xs ++ ys)]) else .stk
    | _, _ => .stk
  | _, _, _ => .stk
def rAddD (X : Cx) : R2 := fun x y H Q => (rI0 (fun i j => .int (i + j)) x y H Q ∨ (∃ i j, x = .str i ∧ y = .str j ∧ i.length + j.length ≤ sizeLine ∧ Q (.str (i ++ j)) H)) ∨ (rCatA X.K x y H Q ∨ rCat x y H Q)
theorem op_addD : OpR X (binaryOp .Add) (rAddD X) := (op_add.or op_add_str).or (op_catA.or op_cat)
theorem Rps.ne_nil {K : KX} {H : Hp} {μ : List Addr} {vs : List V} {ds : List D} (r : Rps K H μ vs ds) : vs = [] ↔ ds = [] := by
  cases r <;> simp
theorem sd_add : Sd2 X (rAddD X) pyAdd := by
  intro W σ x y a b H μ h Q rl ra rb p
  cases ra with
  | int i =>
    cases rb <;> first | exact p.elim | skip
    exact .inl (.inl ⟨_, _, rfl, rfl, p.at rl (.int _)⟩)
  | str i =>
    cases rb <;> first | exact p.elim | skip
    simp only [pyAdd] at p
    split at p
    · exact .inl (.inr ⟨_, _, rfl, rfl, by assumption, p.at rl (.str _)⟩)
    · exact p.elim
  | @tup a vs ds s1 q1 =>
    cases rb <;> first | exact p.elim | skip
    rename_i b ws es s2 q2
    simp only [pyAdd] at p
    split at p
    · rename_i z
      refine .inr (.inl ⟨_, _, _, _, rfl, rfl, s1, s2, by rw [q1.length, q2.length]; exact z, fun e => ?_, fun _ e => ?_, fun _ _ pp hp => ?_⟩)
      · rw [q1.ne_nil.mp e, List.nil_append] at p
        exact p.at rl (.tup s2 q2)
      · rw [q2.ne_nil.mp e, List.append_nil] at p
        exact p.at rl (.tup s1 q1)
      · obtain ⟨x2, rl2, rp2⟩ := new_tup rl (q1.append q2) hp
        exact p _ _ _ x2 rl2 rp2
    · exact p.elim
  | ref e1 =>
    cases rb <;> first | exact p.elim | skip
    rename_i m b e2
    simp only [pyAdd] at p
    split at p
    · rename_i xs ys z1 z2
      obtain ⟨vs, h1, r1⟩ := lstAt_ok rl e1 z1
      obtain ⟨ws, h2, r2⟩ := lstAt_ok rl e2 z2
      split at p
      · rename_i z
        refine .inr (.inr ⟨_, _, vs, ws, rfl, rfl, h1, h2, by rw [r1.length, r2.length]; exact z, fun pp hp => ?_⟩)
        obtain ⟨x2, rl2, rp2⟩ := new_lst rl (r1.append r2) hp
        exact p _ _ _ x2 rl2 rp2
      · exact p.elim
    · exact p.elim
  | _ => exact p.elim
def pyMul : D → D → IH → Res D
  | .int i, .int j, h => if (-(2 ^ 64) < i ∧ i < 2 ^ 64) ∨ (-(2 ^ 64) < j ∧ j < 2 ^ 64) then .val (.int (i * j)) h else .stk
  | .str z, .int k, h => if -1000000 ≤ k ∧ k ≤ 1000000 ∧ z.length ≤ 1000000 ∧ z.length * k.toNat ≤ sizeLine then .val (.str (Txt.mul z k)) h else .stk
  | .tup ds, .int k, h => if 0 < ds.length ∧ 2 ≤ k ∧ k ≤ 1000 ∧ ds.length ≤ 1000 then .val (.tup (List.replicate k.toNat ds).flatten) h else .stk
  | .ref n, .int k, h => match lstAt h n with
    | some xs => if -(2 ^ 63) ≤ k ∧ k < 2 ^ 63 ∧ xs.length * k.toNat ≤ sizeLine then .val (.ref h.length) (h ++ [.lst (List.replicate k.toNat xs).flatten]) else .stk
    | none => .stk
  | _, _, _ => .stk
theorem Rps.replicate {K : KX} {H : Hp} {μ : List Addr} {vs : List V} {ds : List D} (r : Rps K H μ vs ds) : ∀ n : Nat, Rps K H μ (List.replicate n vs).flatten (List.replicate n ds).flatten
  | 0 => .nil
  | n + 1 => by
    rw [List.replicate_succ, List.replicate_succ, List.flatten_cons, List.flatten_cons]
    exact r.append (r.replicate n)
theorem mulOk_of {z : Str} {k : Int} (h1 : -1000000 ≤ k) (h2 : k ≤ 1000000) (h3 : z.length ≤ 1000000) (h4 : z.length * k.toNat ≤ sizeLine) : MulOk z k := by
  refine ⟨?_, fun h _ => ?_, fun _ _ => PyProof.Rows.short24 (by have e := sizeLine_eq; omega)⟩
  · rw [decide_eq_false (by omega), decide_eq_false (by omega)]
    rfl
  · intro g
    have hk : 0 < k := by omega
    have e : (1000000 : Int) ≤ (2 ^ 63 - 1) / k := by
      rw [Int.le_ediv_iff_mul_le hk]
      have : 1000000 * k ≤ 1000000 * 1000000 := Int.mul_le_mul_of_nonneg_left h2 (by decide)
      omega
    omega
def rMulS : R2 := fun x y H Q => ∃ z k, x = .str z ∧ y = .int k ∧ MulOk z k ∧ Q (.str (Txt.mul z k)) H
theorem op_mulS : OpR X (binaryOp .Mult) rMulS := by
  intro pins s σ H x y v u Q I rx ry h
  obtain ⟨i, j, rfl, rfl, hz, q⟩ := h
  obtain ⟨t, rfl⟩ := rx
  obtain ⟨t', rfl⟩ := ry
  exact SB.mul hz fun t' k => ⟨.str _, H, I.tok _, ⟨_, rfl⟩, q⟩
def rMulA (X : Cx) : R2 := fun x y H Q => (rI CMul (fun i j => .int (i * j)) x y H Q ∨ rRep x y H Q) ∨ (rMulS x y H Q ∨ rRepT X.K x y H Q)
theorem op_mulD : OpR X (binaryOp .Mult) (rMulA X) := (op_mul.or op_rep).or (op_mulS.or op_repT)
theorem sd_mul : Sd2 X (rMulA X) pyMul := by
  intro W σ x y a b H μ h Q rl ra rb p
  cases ra with
  | int i =>
    cases rb <;> first | exact p.elim | skip
    simp only [pyMul] at p
    split at p
    · exact .inl (.inl ⟨_, _, rfl, rfl, by assumption, p.at rl (.int _)⟩)
    · exact p.elim
  | str z =>
    cases rb <;> first | exact p.elim | skip
    simp only [pyMul] at p
    split at p
    · rename_i c
      exact .inr (.inl ⟨_, _, rfl, rfl, mulOk_of c.1 c.2.1 c.2.2.1 c.2.2.2, p.at rl (.str _)⟩)
    · exact p.elim
  | tup s q =>
    cases rb <;> first | exact p.elim | skip
    simp only [pyMul] at p
    split at p
    · rename_i c
      refine .inr (.inr ⟨_, _, _, rfl, rfl, s, ?_, c.2.1, c.2.2.1, by rw [q.length]; exact c.2.2.2, fun pp hp => ?_⟩)
      · intro e
        have := q.length
        rw [e] at this
        have := c.1
        simp at *
        omega
      · obtain ⟨x2, rl2, rp2⟩ := new_tup rl (q.replicate _) hp
        exact p _ _ _ x2 rl2 rp2
    · exact p.elim
  | ref e1 =>
    cases rb <;> first | exact p.elim | skip
    simp only [pyMul] at p
    split at p
    · rename_i xs z1
      obtain ⟨vs, h1, r1⟩ := lstAt_ok rl e1 z1
      split at p
      · rename_i z
        refine .inl (.inr ⟨_, _, vs, rfl, rfl, h1, z.1, z.2.1, by rw [r1.length]; exact z.2.2, fun pp hp => ?_⟩)
        obtain ⟨x2, rl2, rp2⟩ := new_lst rl (r1.replicate _) hp
        exact p _ _ _ x2 rl2 rp2
      · exact p.elim
    · exact p.elim
  | _ => exact p.elim

/-! ### data as one tree -/
def mapO {α β : Type} (f : α → Option β) : List α → Option (List β)
  | [] => some []
  | d :: ds => match f d, mapO f ds with
    | some a, some b => some (a :: b)
    | _, _ => none
def toPy : Nat → IH → D → Option PyData
  | 0, _, _ => none
  | n + 1, h, d => match d with
    | .non => some .none
    | .bl b => some (.bool b)
    | .int i => some (.int i)
    | .str x => some (.str x)
    | .tup ds => (mapO (toPy n h) ds).map .tuple
    | .fl ds => (mapO (toPy n h) ds).map .list
    | .ref k => match lstAt h k with
      | some ds => (mapO (toPy n h) ds).map .list
      | none => none
    | .op _ => none
    | .gl _ => none
theorem toPys_ok {K : KX} {H : Hp} {μ : List Addr} {f : D → Option PyData} (hf : ∀ v d p, Rp K H μ v d → f d = some p → Dp K H v p) : ∀ {vs : List V} {ds : List D} {ps : List PyData}, Rps K H μ vs ds → mapO f ds = some ps → DpAll K H vs ps
  | _, _, _, .nil, e => by
    cases e
    exact .nil
  | _, _, _, .cons a b, e => by
    unfold mapO at e
    split at e
    · rename_i p ps z1 z2
      cases e
      exact .cons (hf _ _ _ a z1) (toPys_ok hf b z2)
    · cases e
theorem toPy_ok {K : KX} {H : Hp} {μ : List Addr} {h : IH} (rl : Rl K H μ h) : ∀ (n : Nat) (v : V) (d : D) (p : PyData), Rp K H μ v d → toPy n h d = some p → Dp K H v p
  | 0, _, _, _, _, e => by cases e
  | n + 1, v, d, p, r, e => by
    cases r with
    | non =>
      cases e
      exact .non
    | bl b =>
      cases e
      exact .bl b
    | int i =>
      cases e
      exact .int i
    | str x =>
      cases e
      exact .str x
    | tup s q =>
      simp only [toPy] at e
      obtain ⟨ps, z, e⟩ := Option.map_eq_some_iff.mp e
      subst e
      exact .tup s (toPys_ok (toPy_ok rl n) q z)
    | fl s q =>
      simp only [toPy] at e
      obtain ⟨ps, z, e⟩ := Option.map_eq_some_iff.mp e
      subst e
      exact .lst s.sq (toPys_ok (toPy_ok rl n) q z)
    | ref e1 =>
      simp only [toPy] at e
      split at e
      · rename_i ds z1
        obtain ⟨ps, z, e⟩ := Option.map_eq_some_iff.mp e
        subst e
        obtain ⟨vs, h1, q⟩ := lstAt_ok rl e1 z1
        exact .lst (SqL.of h1) (toPys_ok (toPy_ok rl n) q z)
      · cases e
    | op v => cases e
    | gl q => cases e
def eqT (h : IH) (a b : D) : Option Bool := match toPy 12 h a, toPy 12 h b with
  | some p, some q => if (SeqAt.shaped p && SeqAt.shaped q) = true then some (PyData.eqv p q) else none
  | _, _ => none
def eqO (h : IH) (a b : D) : Option Bool := match a, b with
  | .int i, .int j => some (decide (i = j))
  | .str x, .str y => some (decide (x = y))
  | a, b => eqT h a b
def pyEq (a b : D) (h : IH) : Res D := match eqO h a b with
  | some k => .val (.bl k) h
  | none => .stk
def pyNe (a b : D) (h : IH) : Res D := match eqO h a b with
  | some k => .val (.bl !k) h
  | none => .stk
theorem eqT_ok {K : KX} {H : Hp} {μ : List Addr} {h : IH} {x y : V} {a b : D} {k : Bool} (rl : Rl K H μ h) (ra : Rp K H μ x a) (rb : Rp K H μ y b) (e : eqT h a b = some k) : ∃ d e, Dp K H x d ∧ Dp K H y e ∧ SeqAt.shaped d = true ∧ SeqAt.shaped e = true ∧ PyData.eqv d e = k := by
  unfold eqT at e
  split at e
  · rename_i p q z1 z2
    split at e
    · rename_i z
      rw [Bool.and_eq_true] at z
      cases e
      exact ⟨p, q, toPy_ok rl 12 _ _ _ ra z1, toPy_ok rl 12 _ _ _ rb z2, z.1, z.2, rfl⟩
    · cases e
  · cases e
theorem eqO_ok {K : KX} {H : Hp} {μ : List Addr} {h : IH} {x y : V} {a b : D} {k : Bool} (rl : Rl K H μ h) (ra : Rp K H μ x a) (rb : Rp K H μ y b) (e : eqO h a b = some k) : (scal x y = true ∧ decide (x = y) = k) ∨ ∃ d e, Dp K H x d ∧ Dp K H y e ∧ SeqAt.shaped d = true ∧ SeqAt.shaped e = true ∧ PyData.eqv d e = k := by
  unfold eqO at e
  split at e
  · cases e
    cases ra
    cases rb
    refine .inl ⟨rfl, ?_⟩
    simp
  · cases e
    cases ra
    cases rb
    refine .inl ⟨rfl, ?_⟩
    simp
  · exact .inr (eqT_ok rl ra rb e)
def rEqA (X : Cx) : R2 := fun x y H Q => rEq x y H Q ∨ rEqD X.K x y H Q
def rNeA (X : Cx) : R2 := fun x y H Q => rNe x y H Q ∨ rNeD X.K x y H Q
theorem op_eqA (hu : X.A.units + 64 < cLine) : OpR X (compareOp .Eq) (rEqA X) := OpR.or op_eq (op_eqD hu)
theorem op_neA (hu : X.A.units + 64 < cLine) : OpR X (compareOp .NotEq) (rNeA X) := OpR.or op_ne (op_neD hu)
theorem sd_eq : Sd2 X (rEqA X) pyEq := by
  intro W σ x y a b H μ h Q rl ra rb p
  unfold pyEq at p
  split at p
  · rename_i k z
    rcases eqO_ok rl ra rb z with ⟨h1, h2⟩ | ⟨d, e, h1, h2, h3, h4, rfl⟩
    · subst h2
      exact .inl ⟨h1, p.at rl (.bl _)⟩
    · exact .inr ⟨d, e, h1, h2, h3, h4, p.at rl (.bl _)⟩
  · exact p.elim
theorem sd_ne : Sd2 X (rNeA X) pyNe := by
  intro W σ x y a b H μ h Q rl ra rb p
  unfold pyNe at p
  split at p
  · rename_i k z
    rcases eqO_ok rl ra rb z with ⟨h1, h2⟩ | ⟨d, e, h1, h2, h3, h4, rfl⟩
    · subst h2
      exact .inl ⟨h1, p.at rl (.bl _)⟩
    · exact .inr ⟨d, e, h1, h2, h3, h4, p.at rl (.bl _)⟩
  · exact p.elim
def isNon : D → Option Bool
  | .non => some true
  | .op v => none
  | _ => some false
def pyIs : D → D → IH → Res D := fun a b h => match isNon a, b with
  | some k, .non => .val (.bl k) h
  | _, _ => .stk
def pyIsNot : D → D → IH → Res D := fun a b h => match isNon a, b with
  | some k, .non => .val (.bl !k) h
  | _, _ => .stk
theorem isNon_ok {K : KX} {H : Hp} {μ : List Addr} {x : V} {a : D} {k : Bool} (r : Rp K H μ x a) (e : isNon a = some k) : decide (x = .non) = k := by
  cases r <;> cases e <;> rfl
theorem sd_is : Sd2 X (fun x y H Q => y = V.non ∧ Q (V.bl (decide (x = V.non))) H) pyIs := by
  intro W σ x y a b H μ h Q rl ra rb p
  unfold pyIs at p
  split at p
  · rename_i k z
    cases rb
    rw [isNon_ok ra z]
    exact ⟨rfl, p.at rl (.bl _)⟩
  · exact p.elim
theorem sd_isNot : Sd2 X (fun x y H Q => y = V.non ∧ Q (V.bl (!decide (x = V.non))) H) pyIsNot := by
  intro W σ x y a b H μ h Q rl ra rb p
  unfold pyIsNot at p
  split at p
  · rename_i k z
    cases rb
    rw [isNon_ok ra z]
    exact ⟨rfl, p.at rl (.bl _)⟩
  · exact p.elim

/-! ### built-ins of one value -/
def tyD (h : IH) : D → Option String
  | .non => some "NoneType"
  | .bl _ => some "bool"
  | .int _ => some "int"
  | .str _ => some "str"
  | .tup _ => some "tuple"
  | .fl _ => some "list"
  | .ref n => match h[n]? with
    | some (.lst _) => some "list"
    | some (.dic _ kvs) => if (kvs.all fun p => kk p.1) = true then some "dict" else none
    | _ => none
  | .op _ => none
  | .gl _ => none
theorem tyD_ok {K : KX} {H : Hp} {μ : List Addr} {h : IH} {v : V} {d : D} {t : String} (rl : Rl K H μ h) (r : Rp K H μ v d) (e : tyD h d = some t) : TyX K H v (.type t) := by
  cases r with
  | non =>
    cases e
    exact .base .non
  | bl b =>
    cases e
    exact .base (.bl b)
  | int i =>
    cases e
    exact .base (.int i)
  | str x =>
    cases e
    exact .base (.str x)
  | tup s q =>
    cases e
    rcases s with (s | ⟨o, s⟩) | ⟨o, its, n, s1, s2, _⟩
    · exact .base (.tup s)
    · exact .fTuple s
    · exact .kTuple s1 s2
  | fl s q =>
    cases e
    rcases s with ⟨o, s⟩ | ⟨o, its, n, s1, s2, _⟩
    · exact .base (.frz s)
    · exact .kList s1 s2
  | ref e1 =>
    obtain ⟨o, ho, q⟩ := rl.at e1
    simp only [tyD, ho] at e
    cases o with
    | lst ds =>
      cases e
      obtain ⟨vs, h1, _⟩ := q
      exact .base (.lst h1)
    | dic lk ds =>
      simp only at e
      split at e
      · rename_i hk
        cases e
        obtain ⟨vs, h1, _⟩ := OkO.dk q hk
        cases lk with
        | false => exact .base (.dK h1)
        | true =>
          obtain ⟨o, h1⟩ := h1
          exact .fDict h1
      · cases e
    | ins c fs => cases e
  | op v => cases e
  | gl q => cases e
def isiB (t u : String) : Bool := t == u || (t == "bool" && u == "int")
def knownT (t : String) : Bool := t == "NoneType" || t == "bool" || t == "int" || t == "str" || t == "tuple" || t == "list" || t == "dict"
theorem isiB_ok {t u : String} (h1 : knownT t = true) (h2 : knownT u = true) (h3 : u ≠ "NoneType") : kitB t u = some (isiB t u) := by
  simp only [knownT, Bool.or_eq_true, beq_iff_eq] at h1 h2
  rcases h1 with (((((rfl | rfl) | rfl) | rfl) | rfl) | rfl) | rfl <;> rcases h2 with (((((rfl | rfl) | rfl) | rfl) | rfl) | rfl) | rfl <;> first | exact absurd rfl h3 | decide +kernel
def pyIsi : List D → IH → Res D := fun as h => match as with
  | [x, .op (.ty u)] => match tyD h x with
    | some t => if (knownT t && knownT u && u != "NoneType") = true then .val (.bl (isiB t u)) h else .stk
    | none => .stk
  | _ => .stk
theorem sd_isi : SdC X (rIsi X.K) pyIsi := by
  intro W σ xs as H μ h Q rl rs p
  unfold pyIsi at p
  split at p
  · rename_i x u
    split at p
    · rename_i t z
      split at p
      · rename_i zz
        simp only [Bool.and_eq_true, bne_iff_ne, ne_eq] at zz
        cases rs with
        | cons r1 q1 =>
          cases q1 with
          | cons r2 q2 =>
            cases q2
            cases r2
            exact ⟨_, _, _, _, _, rfl, .ty u, tyD_ok rl r1 z, kit_ty (isiB_ok zz.1.1 zz.1.2 zz.2), p.at rl (.bl _)⟩
      · exact p.elim
    · exact p.elim
  · exact p.elim
def lenD (h : IH) : D → Option Nat
  | .str x => if x.length ≤ sizeLine then some x.length else none
  | .tup ds => some ds.length
  | .fl ds => some ds.length
  | .ref n => (lstAt h n).map List.length
  | _ => none
def pyLen : List D → IH → Res D := fun as h => match as with
  | [x] => match lenD h x with
    | some n => .val (.int n) h
    | none => .stk
  | _ => .stk
theorem lenD_ok {K : KX} {H : Hp} {μ : List Addr} {h : IH} {v : V} {d : D} {n : Nat} (rl : Rl K H μ h) (r : Rp K H μ v d) (e : lenD h d = some n) : LenV K v H n := by
  cases r with
  | str x =>
    simp only [lenD] at e
    split at e
    · cases e
      exact ⟨by assumption, rfl⟩
    · cases e
  | tup s q =>
    cases e
    exact .inr ⟨_, s, q.length.symm⟩
  | fl s q =>
    cases e
    exact .inl ⟨_, s.sq, q.length.symm⟩
  | ref e1 =>
    obtain ⟨ds, z, rfl⟩ := Option.map_eq_some_iff.mp e
    obtain ⟨vs, h1, q⟩ := lstAt_ok rl e1 z
    exact .inl ⟨vs, SqL.of h1, q.length.symm⟩
  | _ => cases e
theorem sd_len : SdC X (fun xs H Q => ∃ x n, xs = [x] ∧ LenV X.K x H n ∧ Q (V.int (n : Nat)) H) pyLen := by
  intro W σ xs as H μ h Q rl rs p
  unfold pyLen at p
  split at p
  · split at p
    · rename_i n z
      cases rs with
      | cons r1 q1 =>
        cases q1
        exact ⟨_, n, rfl, lenD_ok rl r1 z, p.at rl (.int _)⟩
    · exact p.elim
  · exact p.elim
def pyInt : List D → IH → Res D := fun as h => match as with
  | [.int i] => .val (.int i) h
  | [.bl k] => .val (.int (if k = true then 1 else 0)) h
  | _ => .stk
theorem sd_int : SdC X (fun xs H Q => (∃ i, xs = [V.int i] ∧ Q (V.int i) H) ∨ ∃ k, xs = [V.bl k] ∧ Q (V.int (if k = true then 1 else 0)) H) pyInt := by
  intro W σ xs as H μ h Q rl rs p
  unfold pyInt at p
  split at p
  · cases rs with
    | cons r1 q1 =>
      cases q1
      cases r1
      exact .inl ⟨_, rfl, p.at rl (.int _)⟩
  · cases rs with
    | cons r1 q1 =>
      cases q1
      cases r1
      exact .inr ⟨_, rfl, p.at rl (.int _)⟩
  · exact p.elim
/-- a list or a tuple, read as a whole -/
def seqD (h : IH) : D → Option (List D)
  | .tup ds => some ds
  | d => seqL h d
theorem seqD_ok {K : KX} {H : Hp} {μ : List Addr} {h : IH} {v : V} {d : D} {ds : List D} (rl : Rl K H μ h) (r : Rp K H μ v d) (e : seqD h d = some ds) : ∃ a vs, v = .ref a ∧ (SqL K H a vs ∨ SqT K H a vs) ∧ Rps K H μ vs ds := by
  cases r with
  | tup s q =>
    cases e
    exact ⟨_, _, rfl, .inr s, q⟩
  | fl s q =>
    cases e
    exact ⟨_, _, rfl, .inl s.sq, q⟩
  | ref e1 =>
    obtain ⟨vs, h1, q⟩ := lstAt_ok rl e1 e
    exact ⟨_, vs, rfl, .inl (SqL.of h1), q⟩
  | _ => cases e
def pyTuple : List D → IH → Res D := fun as h => match as with
  | [.tup ds] => .val (.tup ds) h
  | [x] => match seqL h x with
    | some ds => .val (.tup ds) h
    | none => .stk
  | _ => .stk
theorem sd_tuple : SdC X (fun xs H Q => ∃ p ys, xs = [V.ref p] ∧ ((SqL X.K H p ys ∧ ∀ (l : Addr), H l = none → Q (V.ref l) (upd H l (HO.tup ys))) ∨ SqT X.K H p ys ∧ Q (V.ref p) H)) pyTuple := by
  intro W σ xs as H μ h Q rl rs p
  unfold pyTuple at p
  split at p
  · cases rs with
    | cons r1 q1 =>
      cases q1
      cases r1 with
      | tup s q => exact ⟨_, _, rfl, .inr ⟨s, p.at rl (.tup s q)⟩⟩
  · split at p
    · rename_i z
      cases rs with
      | cons r1 q1 =>
        cases q1
        obtain ⟨a, vs, rfl, s, q⟩ := seqL_ok rl r1 z
        refine ⟨a, vs, rfl, .inl ⟨s, fun l hl => ?_⟩⟩
        obtain ⟨x2, rl2, rp2⟩ := new_tup rl q hl
        exact p _ _ _ x2 rl2 rp2
    · exact p.elim
  · exact p.elim
def pyList : List D → IH → Res D := fun as h => match as with
  | [x] => match seqD h x with
    | some ds => .val (.ref h.length) (h ++ [.lst ds])
    | none => .stk
  | _ => .stk
theorem sd_list : SdC X (fun xs H Q => ∃ p ys, xs = [V.ref p] ∧ (SqL X.K H p ys ∨ SqT X.K H p ys) ∧ ∀ (l : Addr), H l = none → Q (V.ref l) (upd H l (HO.lst ys))) pyList := by
  intro W σ xs as H μ h Q rl rs p
  unfold pyList at p
  split at p
  · split at p
    · rename_i z
      cases rs with
      | cons r1 q1 =>
        cases q1
        obtain ⟨a, vs, rfl, s, q⟩ := seqD_ok rl r1 z
        refine ⟨a, vs, rfl, s, fun l hl => ?_⟩
        obtain ⟨x2, rl2, rp2⟩ := new_lst rl q hl
        exact p _ _ _ x2 rl2 rp2
    · exact p.elim
  · exact p.elim
/-- all ints -/
def intsD : List D → Option (List Int) := mapO fun d => match d with
  | .int i => some i
  | _ => none
def boolsD : List D → Option (List Bool) := mapO fun d => match d with
  | .bl i => some i
  | _ => none
theorem intsD_ok {K : KX} {H : Hp} {μ : List Addr} : ∀ {vs : List V} {ds : List D} {ns : List Int}, Rps K H μ vs ds → intsD ds = some ns → vs = ns.map V.int ∧ ds = ns.map D.int
  | _, _, _, .nil, e => by
    cases e
    exact ⟨rfl, rfl⟩
  | _, _, _, .cons (d := d) a b, e => by
    unfold intsD mapO at e
    split at e
    · rename_i p ps z1 z2
      cases e
      cases d <;> first | cases z1 | skip
      cases a
      obtain ⟨e1, e2⟩ := intsD_ok b z2
      rw [e1, e2]
      exact ⟨rfl, rfl⟩
    · cases e
theorem boolsD_ok {K : KX} {H : Hp} {μ : List Addr} : ∀ {vs : List V} {ds : List D} {ns : List Bool}, Rps K H μ vs ds → boolsD ds = some ns → vs = ns.map V.bl ∧ ds = ns.map D.bl
  | _, _, _, .nil, e => by
    cases e
    exact ⟨rfl, rfl⟩
  | _, _, _, .cons (d := d) a b, e => by
    unfold boolsD mapO at e
    split at e
    · rename_i p ps z1 z2
      cases e
      cases d <;> first | cases z1 | skip
      cases a
      obtain ⟨e1, e2⟩ := boolsD_ok b z2
      rw [e1, e2]
      exact ⟨rfl, rfl⟩
    · cases e
end
end DD
set_option Elab.async false
set_option linter.all false
set_option maxRecDepth 100000
/-! enumerate of a tuple, of a text -/
namespace DD
open PySem PySem.Spec L2 PyProof.Rows

theorem meets_en1 {v : Value} {o : Obj} {G : Heap → Prop} (B : Begins v o G) :
    Meets (Builtin.«enumerate.__new__» ⟨[.type "enumerate", v], []⟩) (fun _ R s => G s.heap ∧
      R (.ok (.ret (.ref (s.heap.push o).objs.size))) { s with heap := (s.heap.push o).push { cls := .type "enumerate", data := .fields #[.none, .bool false, .ref s.heap.objs.size, rawInt 0, .none, .none] } }) :=
  .of_wp fun P w A R s h => by
    obtain ⟨hp, g, d, tk, os⟩ := s
    obtain ⟨h1, h⟩ := h
    have hsub := sub_enumerate
    have q1 : ∀ {A' : Around} {E : Value → Shared → Prop} {Q : Value → Shared → Prop}, Q (.ref hp.objs.size) ⟨hp.push o, g, d, tk, os⟩ → wpAny (model P w) A' (pyIter v) Q E ⟨hp, g, d, tk, os⟩ :=
      fun q => B.iter P w _ _ ⟨hp, g, d, tk, os⟩ _ h1 q
    wp_walk using q1
    refine wpAny_stack_any fun st => wpAny_pure ?_
    split
    · rename_i c _ _ _ _ _
      cases (c == Value.type "enumerate") <;> (wp_walk using q1; exact ⟨_, rfl, h⟩)
    · wp_walk using q1
      exact ⟨_, rfl, h⟩
theorem en1 {P : Program} {w : World} {A : Around} {E : Value → Shared → Prop} {s : Shared} {v : Value} {o : Obj} {G : Heap → Prop} {Q : Value → Shared → Prop} (B : Begins v o G) (h1 : G s.heap)
    (h : ∀ h', IsEnum h' (s.heap.objs.size + 1) s.heap.objs.size 0 .none → h'.get? s.heap.objs.size = some o → h'.objs.size = s.heap.objs.size + 2 → (∀ b u, s.heap.get? b = some u → h'.get? b = some u) → Q (.ref (s.heap.objs.size + 1)) { s with heap := h' }) :
    wpAny (model P w) A (call (.type "enumerate") [v]) Q E s := by
  refine callType_new F.called_enumerate (by decide) (F.typeCall_enumerate_1 _) (F.newCall_enumerate_1 _) (fun ob => F.args_object_init_2 ob _) F.entry_enumerate_new (meets_en1 B) ⟨h1, ?_⟩
  have hz : (s.heap.push o).objs.size = s.heap.objs.size + 1 := Heap.size_push ..
  show _ ∧ _
  rw [hz]
  have e1 : IsEnum ((s.heap.push o).push { cls := .type "enumerate", data := .fields #[.none, .bool false, .ref s.heap.objs.size, rawInt 0, .none, .none] }) (s.heap.objs.size + 1) s.heap.objs.size 0 .none := by
    have z := Heap.get?_push_size (s.heap.push o) (o := { cls := .type "enumerate", data := .fields #[.none, .bool false, .ref s.heap.objs.size, rawInt 0, .none, .none] }) rfl
    rw [hz] at z
    exact z
  exact ⟨⟨_, e1, rfl⟩, h _ e1 (Heap.get?_push_of_some _ (Heap.get?_push_size _ B.free)) (by rw [Heap.size_push, hz]) fun b u x => Heap.get?_push_of_some _ (Heap.get?_push_of_some _ x)⟩
/-- the tuple at a, each item in a new pair -/
def IenT (K : PySem.W.Frag) (a : Addr) : It :=
  ⟨fun i H => ∃ (xs : List V) (x : V), SqT K H a xs ∧ xs[i]? = some x, fun i H v H' => ∃ T x, v = .ref T ∧ H T = none ∧ H' = upd H T (.tup [.int (i : Nat), x]) ∧ ∀ xs, SqT K H a xs → xs[i]? = some x, fun i H => ∃ xs : List V, SqT K H a xs ∧ xs.length = i⟩
/-- a text -/
def IenS (z : Str) : It :=
  ⟨fun i _ => i < z.cps.size, fun i H v H' => ∃ T c, v = .ref T ∧ H T = none ∧ H' = upd H T (.tup [.int (i : Nat), .str ⟨#[c]⟩]) ∧ z.cps[i]? = some c, fun i _ => i = z.cps.size⟩
section
variable {P : Program} {w : World} {K : PySem.W.Frag} {elts : List Expr} {kk : Nat} {tpos : Pos}
theorem turn_enT (a e it : Addr) (hai : a ≠ it) (hae : a ≠ e) :
    Turn P w K (.Tuple elts kk tpos) (IenT K a) [e, it] e (fun i h => (∃ old, IsEnum h e it ((i : Nat) : Int) old) ∧ h.IsTupleIter it a i ∧ e ≠ it) where
  mem := by simp
  obj := fun i h st b hb => by
    obtain ⟨⟨old, he⟩, ⟨o, ho, hc, hd⟩, _⟩ := st
    have e1 : b = e ∨ b = it := by simpa using hb
    rcases e1 with z | z
    · rw [z]
      exact ⟨_, he, fun v q => nomatch q⟩
    · rw [z]
      exact ⟨o, ho, fun v q => by
        rw [hd] at q
        cases q⟩
  keep := fun i h h' st k => let ⟨⟨old, he⟩, hi, hne⟩ := st; ⟨⟨old, k e (by simp) _ he⟩, hi.at fun o q => k it (by simp) o q, hne⟩
  item := by
    intro X hP hw hK hc i pins s σ H E I hf st hg
    subst hP hw hK
    obtain ⟨⟨old, he⟩, hit, hne⟩ := st
    obtain ⟨xs, x, hq, hx⟩ := hg
    obtain ⟨its, rv, pt, hz⟩ := I.tuple hq
    obtain ⟨u, hu, ru⟩ := rv.get hx
    have hel : e < s.heap.objs.size := Heap.lt_size he
    have hil : it < s.heap.objs.size := by
      obtain ⟨_, q, _⟩ := hit
      exact Heap.lt_size q
    have hul : i < its.length := (List.getElem?_eq_some_iff.mp hu).1
    refine wpAny_pyNext_enum_itemD (i := i) (Draws.tuple (A := X.A.in1) (I.ok.hd hc) it a hai its.toArray) he ⟨hit, pt⟩ (by simpa using hul) hne (by simp [hne, Ne.symm hae]) fun y h' tk hP ho hst hT hsz hk => ?_
    have ey : y = u := by
      have z : its[i]? = some y := by simpa using hP
      rw [hu] at z
      exact (Option.some.inj z).symm
    subst ey
    refine ⟨_, rfl, wpAny_letOwnedTupleGo_enum (s := { s with heap := h', toks := tk + 1 }) ho fun h'' he' sb => ?_⟩
    have hT2 : h''.get? s.heap.objs.size = some { cls := .type "tuple", data := .seq #[.int i tk, y] } := (sb.2 _ (Nat.ne_of_gt hel)).trans hT
    have new : ObjOk X.prog X.w (upd H s.heap.objs.size (.tup [.int (i : Nat), x])) h'' s.heap.objs.size (.tup [.int (i : Nat), x]) :=
      ⟨by show 2 ≤ sizeLine; decide, [.int i tk, y], .cons ⟨_, rfl⟩ (.cons ru .nil), ⟨_, hT2, rfl, _, rfl⟩⟩
    have I1 : Inv X pins σ (upd H s.heap.objs.size (.tup [.int (i : Nat), x])) { s with heap := h'', toks := tk + 1 } :=
      I.turnedNew (ch := [e, it]) (fun b ob hb q => (sb.2 b (fun z => hb (by simp [z]))).trans (hk b ob (fun z => hb (by simp [z])) (fun z => hb (by simp [z])) q)) hf (Nat.le_refl _) new
    refine ⟨.ref s.heap.objs.size, _, I1, rfl, ⟨_, x, rfl, I.hok.fresh (Nat.le_refl _), rfl, fun ys hy => by rw [I.tuple_inj hy hq]; exact hx⟩, ⟨⟨y, ?_⟩, hst.1.at fun o q => (sb.2 it (Ne.symm hne)).trans q, hne⟩, fun b hb => ?_⟩
    · have e1 : ((i + 1 : Nat) : Int) = (i : Int) + 1 := by omega
      rw [e1]
      exact he'
    · have hb' : b < s.heap.objs.size := by
        have e' : b = e ∨ b = it := by simpa using hb
        rcases e' with z | z
        · rw [z]
          exact hel
        · rw [z]
          exact hil
      rw [upd_ne (Nat.ne_of_lt hb')]
      exact (hf b hb).1
  done := by
    intro X hP hw hK hc i pins s σ H E I hf st hg
    subst hP hw hK
    obtain ⟨⟨old, he⟩, hit, hne⟩ := st
    obtain ⟨xs, hq, hx⟩ := hg
    obtain ⟨its, rv, pt, hz⟩ := I.tuple hq
    obtain ⟨f0, f1, f2, f3, f4, f5⟩ := hf it (by simp)
    have hl : i = its.toArray.size := by
      rw [List.size_toArray, ← rv.length]
      exact hx.symm
    exact wpAny_pyNext_enum_endD (Draws.tuple (A := X.A.in1) (I.ok.hd hc) it a hai its.toArray) he ⟨by rw [← hl]; exact hit, pt⟩ fun h' eb => ⟨rfl, I.turned (t' := s.toks) (fun b o hb q => eb b o hb q) f0 f1 f3 f4 f5⟩
  self := fun A i s Q E st h => let ⟨⟨_, he⟩, _⟩ := st; wpAny_pyIter_enum he h
theorem turn_enS (x : Str) (t : Tok) (e it : Addr) :
    Turn P w K (.Tuple elts kk tpos) (IenS x) [e, it] e (fun i h => (∃ old, IsEnum h e it ((i : Nat) : Int) old) ∧ h.IsStrIter it (strIterType x) x t i ∧ e ≠ it) where
  mem := by simp
  obj := fun i h st b hb => by
    obtain ⟨⟨old, he⟩, ⟨o, ho, hc, hd⟩, _⟩ := st
    have e1 : b = e ∨ b = it := by simpa using hb
    rcases e1 with z | z
    · rw [z]
      exact ⟨_, he, fun v q => nomatch q⟩
    · rw [z]
      exact ⟨o, ho, fun v q => by
        rw [hd] at q
        cases q⟩
  keep := fun i h h' st k => let ⟨⟨old, he⟩, hi, hne⟩ := st; ⟨⟨old, k e (by simp) _ he⟩, (let ⟨o, q1, q2⟩ := hi; ⟨o, k it (by simp) o q1, q2⟩), hne⟩
  item := by
    intro X hP hw hK hc i pins s σ H E I hf st hg
    subst hP hw hK
    obtain ⟨⟨old, he⟩, hit, hne⟩ := st
    have hlt : i < x.cps.size := hg
    have hel : e < s.heap.objs.size := Heap.lt_size he
    have hil : it < s.heap.objs.size := by
      obtain ⟨_, q, _⟩ := hit
      exact Heap.lt_size q
    refine wpAny_pyNext_enum_itemD (i := i) (Draws.text (A := X.A.in1) (I.ok.hd hc) it x t) he hit hlt hne (by simp [hne]) fun y h' tk hP ho hst hT hsz hk => ?_
    obtain ⟨c, u, hc1, rfl⟩ := hP
    refine ⟨_, rfl, wpAny_letOwnedTupleGo_enum (s := { s with heap := h', toks := tk + 1 }) ho fun h'' he' sb => ?_⟩
    have hT2 : h''.get? s.heap.objs.size = some { cls := .type "tuple", data := .seq #[.int i tk, .str ⟨#[c]⟩ u] } := (sb.2 _ (Nat.ne_of_gt hel)).trans hT
    have new : ObjOk X.prog X.w (upd H s.heap.objs.size (.tup [.int (i : Nat), .str ⟨#[c]⟩])) h'' s.heap.objs.size (.tup [.int (i : Nat), .str ⟨#[c]⟩]) :=
      ⟨by show 2 ≤ sizeLine; decide, [.int i tk, .str ⟨#[c]⟩ u], .cons ⟨_, rfl⟩ (.cons ⟨_, rfl⟩ .nil), ⟨_, hT2, rfl, _, rfl⟩⟩
    have I1 : Inv X pins σ (upd H s.heap.objs.size (.tup [.int (i : Nat), .str ⟨#[c]⟩])) { s with heap := h'', toks := tk + 1 } :=
      I.turnedNew (ch := [e, it]) (fun b ob hb q => (sb.2 b (fun z => hb (by simp [z]))).trans (hk b ob (fun z => hb (by simp [z])) (fun z => hb (by simp [z])) q)) hf (Nat.le_refl _) new
    refine ⟨.ref s.heap.objs.size, _, I1, rfl, ⟨_, c, rfl, I.hok.fresh (Nat.le_refl _), rfl, hc1⟩, ⟨⟨.str ⟨#[c]⟩ u, ?_⟩, (let ⟨o, q1, q2⟩ := hst; ⟨o, (sb.2 it (Ne.symm hne)).trans q1, q2⟩), hne⟩, fun b hb => ?_⟩
    · have e1 : ((i + 1 : Nat) : Int) = (i : Int) + 1 := by omega
      rw [e1]
      exact he'
    · have hb' : b < s.heap.objs.size := by
        have e' : b = e ∨ b = it := by simpa using hb
        rcases e' with z | z
        · rw [z]
          exact hel
        · rw [z]
          exact hil
      rw [upd_ne (Nat.ne_of_lt hb')]
      exact (hf b hb).1
  done := by
    intro X hP hw hK hc i pins s σ H E I hf st hg
    subst hP hw hK
    obtain ⟨⟨old, he⟩, hit, hne⟩ := st
    have hx : i = x.cps.size := hg
    subst hx
    obtain ⟨f0, f1, f2, f3, f4, f5⟩ := hf it (by simp)
    exact wpAny_pyNext_enum_endD (Draws.text (A := X.A.in1) (I.ok.hd hc) it x t) he hit fun h' eb => ⟨rfl, I.turned (t' := s.toks) (fun b o hb q => eb b o hb q) f0 f1 f3 f4 f5⟩
  self := fun A i s Q E st h => let ⟨⟨_, he⟩, _⟩ := st; wpAny_pyIter_enum he h
end
def iEnT (K : PySem.W.Frag) (ta : TA) : TI := fun σ H R => ta σ H fun vs H1 => ∃ a xs, vs = [.ref a] ∧ SqT K H1 a xs ∧ R (IenT K a) H1
def iEnS (ta : TA) : TI := fun σ H R => ta σ H fun vs H1 => ∃ z, vs = [.str z] ∧ R (IenS z) H1
section
variable {X : Cx} {e : Expr} {ta : TA} {p pos tpos : Pos} {elts : List Expr} {kk : Nat}
theorem pi_enT (hg : Gl X "enumerate") (hm : X.mg "enumerate" = none) (ha : PA X [e] ta) (hs : starEach [e] X.env = [(false, eval e X.env)] := by rfl) : PI X (.Tuple elts kk tpos) (.Call (.Name "enumerate" p) [e] [] pos) (iEnT X.K ta) := by
  refine ⟨fun pins s σ H R I h => ?_⟩
  refine Call_ (ld_blt I hg hm boot_enumerate (PyProof.Rows.callWith_type1 (thn (ha.run pos pins s σ H _ I h) fun us s1 ⟨vs, H1, I1, r1, q1⟩ => ?_) hs rfl))
  obtain ⟨a, xs, ex, hq, q⟩ := q1
  subst ex
  cases r1 with
  | cons r rr =>
    cases rr
    cases r
    obtain ⟨its, rv, pt, hz⟩ := I1.tuple hq
    have hal : a < s1.heap.objs.size := by
      obtain ⟨o, ho, _⟩ := pt
      exact Heap.lt_size ho
    refine en1 (begins_tuple a its.toArray) pt fun h' he hit hsz hk => wpAny_pyIter_enum he ?_
    have I2 : Inv X pins σ H1 { s1 with heap := h' } := I1.kept (t' := s1.toks) hk
    refine ⟨s1.heap.objs.size + 1, [s1.heap.objs.size + 1, s1.heap.objs.size], _, _, H1, rfl, I2, turn_enT a (s1.heap.objs.size + 1) s1.heap.objs.size (Nat.ne_of_lt hal) (Nat.ne_of_lt (Nat.lt_succ_of_lt hal)), ⟨⟨.none, he⟩, ⟨_, hit, rfl, rfl⟩, Nat.succ_ne_self _⟩, fun b hb => ?_, q⟩
    have e' : b = s1.heap.objs.size + 1 ∨ b = s1.heap.objs.size := by simpa using hb
    have hle : s1.heap.objs.size ≤ b := by
      rcases e' with z | z
      · rw [z]
        exact Nat.le_succ _
      · rw [z]
        exact Nat.le_refl _
    exact I1.fpOk hle (I1.hok.fresh hle)
theorem pi_enS (hg : Gl X "enumerate") (hm : X.mg "enumerate" = none) (ha : PA X [e] ta) (hs : starEach [e] X.env = [(false, eval e X.env)] := by rfl) : PI X (.Tuple elts kk tpos) (.Call (.Name "enumerate" p) [e] [] pos) (iEnS ta) := by
  refine ⟨fun pins s σ H R I h => ?_⟩
  refine Call_ (ld_blt I hg hm boot_enumerate (PyProof.Rows.callWith_type1 (thn (ha.run pos pins s σ H _ I h) fun us s1 ⟨vs, H1, I1, r1, q1⟩ => ?_) hs rfl))
  obtain ⟨z, ex, q⟩ := q1
  subst ex
  cases r1 with
  | cons r rr =>
    cases rr
    obtain ⟨t, rfl⟩ := r
    refine en1 (begins_text z t) trivial fun h' he hit hsz hk => wpAny_pyIter_enum he ?_
    have I2 : Inv X pins σ H1 { s1 with heap := h' } := I1.kept (t' := s1.toks) hk
    refine ⟨s1.heap.objs.size + 1, [s1.heap.objs.size + 1, s1.heap.objs.size], _, _, H1, rfl, I2, turn_enS z t (s1.heap.objs.size + 1) s1.heap.objs.size, ⟨⟨.none, he⟩, ⟨_, hit, rfl, rfl⟩, Nat.succ_ne_self _⟩, fun b hb => ?_, q⟩
    have e' : b = s1.heap.objs.size + 1 ∨ b = s1.heap.objs.size := by simpa using hb
    have hle : s1.heap.objs.size ≤ b := by
      rcases e' with z | z
      · rw [z]
        exact Nat.le_succ _
      · rw [z]
        exact Nat.le_refl _
    exact I1.fpOk hle (I1.hok.fresh hle)
end
end DD
set_option Elab.async false
set_option linter.all false
set_option maxRecDepth 100000
namespace DD
open PySem PySem.Spec L2 PyProof.Rows

section
variable {X : Cx} {W : WX}
/-! ### sum, all, any, min, max -/
def rSumT (K : PySem.W.Frag) : List V → Hp → VK → Prop := fun vs H Q => ∃ (a : Addr) (ns : List Int), vs = [V.ref a] ∧ SqT K H a (ns.map V.int) ∧ Q (.int ns.sum) H
theorem cr_sumT (hc : X.calm = true) : CallR X (.builtin "sum") (rSumT X.K) := by
  intro pins s σ H vs us Q I r h
  obtain ⟨a, ns, rfl, hs, q⟩ := h
  obtain ⟨its, rv, hl, _⟩ := I.tuple hs
  rw [Vals.ref1 r]
  have hi : IntsAre its ns := rv.ints
  obtain ⟨xs, e⟩ := hi.allInts.items
  have hn : numsOf (intItems xs).toList = ns := by
    rw [← e]
    exact hi.numsOf
  rw [nums_intItems] at hn
  have hl2 : s.heap.IsTuple a (intItems xs) := by
    rw [← e]
    exact hl
  refine PySem.W.ktm_sumG (I.ok.hd hc) hl2 fun h' tk t' hk => ?_
  rw [preSum_eq, List.take_of_length_le (by simp), hn]
  exact ⟨.int _, H, I.kept hk, ⟨_, rfl⟩, q⟩
def pySum : List D → IH → Res D := fun as h => match as with
  | [x] => match seqD h x with
    | some ds => match intsD ds with
      | some ns => .val (.int ns.sum) h
      | none => .stk
    | none => .stk
  | _ => .stk
theorem cr_sumD (hc : X.calm = true) : CallR X (.builtin "sum") (fun xs H Q => rSum X.K xs H Q ∨ rSumT X.K xs H Q) := CallR.or (cr_sum hc) (cr_sumT hc)
theorem sd_sum : SdC X (fun xs H Q => rSum X.K xs H Q ∨ rSumT X.K xs H Q) pySum := by
  intro W σ xs as H μ h Q rl rs p
  unfold pySum at p
  split at p
  · split at p
    · rename_i z
      split at p
      · rename_i ns z2
        cases rs with
        | cons r1 q1 =>
          cases q1
          obtain ⟨a, vs, rfl, s, q⟩ := seqD_ok rl r1 z
          obtain ⟨rfl, _⟩ := intsD_ok q z2
          rcases s with s | s
          · exact .inl ⟨a, ns, rfl, s, p.at rl (.int _)⟩
          · exact .inr ⟨a, ns, rfl, s, p.at rl (.int _)⟩
      · exact p.elim
    · exact p.elim
  · exact p.elim
def pyAll : List D → IH → Res D := fun as h => match as with
  | [x] => match seqL h x with
    | some ds => match boolsD ds with
      | some ns => .val (.bl (ns.all id)) h
      | none => .stk
    | none => .stk
  | _ => .stk
def pyAny : List D → IH → Res D := fun as h => match as with
  | [x] => match seqL h x with
    | some ds => match boolsD ds with
      | some ns => .val (.bl (ns.any id)) h
      | none => .stk
    | none => .stk
  | _ => .stk
theorem sd_all : SdC X (rAll X.K) pyAll := by
  intro W σ xs as H μ h Q rl rs p
  unfold pyAll at p
  split at p
  · split at p
    · rename_i z
      split at p
      · rename_i ns z2
        cases rs with
        | cons r1 q1 =>
          cases q1
          obtain ⟨a, vs, rfl, s, q⟩ := seqL_ok rl r1 z
          obtain ⟨rfl, _⟩ := boolsD_ok q z2
          exact ⟨a, ns, rfl, s, p.at rl (.bl _)⟩
      · exact p.elim
    · exact p.elim
  · exact p.elim
theorem sd_any : SdC X (rAny X.K) pyAny := by
  intro W σ xs as H μ h Q rl rs p
  unfold pyAny at p
  split at p
  · split at p
    · rename_i z
      split at p
      · rename_i ns z2
        cases rs with
        | cons r1 q1 =>
          cases q1
          obtain ⟨a, vs, rfl, s, q⟩ := seqL_ok rl r1 z
          obtain ⟨rfl, _⟩ := boolsD_ok q z2
          exact ⟨a, ns, rfl, s, p.at rl (.bl _)⟩
      · exact p.elim
    · exact p.elim
  · exact p.elim
def alikeB (xs : List PyData) : Bool := (xs.all fun x => xs.all fun y => PySem.W.alike x y) && xs.all fun x => match x with
  | .none => false
  | _ => true
theorem alikeB_ok {xs : List PyData} (h : alikeB xs = true) : PySem.W.AlikeAll xs := by
  unfold alikeB at h
  rw [Bool.and_eq_true] at h
  refine ⟨fun x hx y hy => List.all_eq_true.mp (List.all_eq_true.mp h.1 x hx) y hy, fun x hx e => ?_⟩
  have := List.all_eq_true.mp h.2 x hx
  subst e
  cases this
theorem DpAll.get {K : PySem.W.Frag} {H : Hp} : ∀ {vs : List V} {ds : List PyData} {i : Nat} {v : V}, DpAll K H vs ds → vs[i]? = some v → ∃ d, ds[i]? = some d ∧ Dp K H v d
  | _, _, _, _, .nil, e => by simp at e
  | _, _, 0, _, .cons a _, e => by
    simp at e
    subst e
    exact ⟨_, rfl, a⟩
  | _, _, i + 1, _, .cons _ b, e => by
    obtain ⟨d, h1, h2⟩ := DpAll.get (i := i) b (by simpa using e)
    exact ⟨d, by simpa using h1, h2⟩
def rBest (K : PySem.W.Frag) (g : PyData → List PyData → PyData) : List V → Hp → VK → Prop := fun vs H Q => ∃ (a : Addr) (xs : List V) (p : PyData) (ps : List PyData), vs = [V.ref a] ∧ SqL K H a xs ∧ DpAll K H xs (p :: ps) ∧ PySem.W.AlikeAll (p :: ps) ∧ PyData.canLayAll0 (p :: ps) = true ∧ PyData.depthAll (p :: ps) ≤ 60 ∧
  ∀ (i : Nat) v, xs[i]? = some v → (p :: ps)[i]? = some (g p ps) → Q v H
theorem canLay_get : ∀ {ps : List PyData} {i : Nat} {d : PyData}, PyData.canLayAll0 ps = true → ps[i]? = some d → d.canLay0 = true
  | [], _, _, _, e => by simp at e
  | p :: ps, 0, d, h, e => by
    simp at e
    subst e
    unfold PyData.canLayAll0 at h
    exact (Bool.and_eq_true_iff.mp h).1
  | p :: ps, i + 1, d, h, e => by
    unfold PyData.canLayAll0 at h
    exact canLay_get (i := i) (Bool.and_eq_true_iff.mp h).2 (by simpa using e)
theorem cr_minD (hc : X.calm = true) (hu : X.A.units + 64 < cLine) : CallR X (.builtin "min") (rBest X.K PySem.W.minD) := by
  intro pins s σ H vs us Q I r h
  obtain ⟨a, xs, p, ps, rfl, hs, hd, ha, hcl, hdp, q⟩ := h
  obtain ⟨its, rv, hl, _⟩ := I.list hs
  rw [Vals.ref1 r]
  obtain ⟨as, hr⟩ := Dp.readsAll I _ _ _ hd rv
  refine PySem.W.min_list_data (I.ok.hd hc) hl.isList (by simpa using hr) ha (by omega) fun i v h' tk bs hv hb hk => ?_
  have hv2 : its[i]? = some v := by simpa using hv
  have hil : i < xs.length := by
    rw [rv.length]
    exact (List.getElem?_eq_some_iff.mp hv2).1
  obtain ⟨u, hu1, ru⟩ := rv.get (List.getElem?_eq_getElem hil)
  rw [hv2] at hu1
  cases hu1
  obtain ⟨d, hd1, hd2⟩ := DpAll.get hd (List.getElem?_eq_getElem hil)
  obtain ⟨as2, r2⟩ := Dp.reads I d _ v hd2 ru
  have e := (Reads.unique (PySem.W.reads_keeps hk r2) _ _ hb).1
  subst e
  exact ⟨xs[i], H, I.kept hk, ru, q i _ (List.getElem?_eq_getElem hil) hd1⟩
theorem cr_maxD (hc : X.calm = true) (hu : X.A.units + 64 < cLine) : CallR X (.builtin "max") (rBest X.K PySem.W.maxD) := by
  intro pins s σ H vs us Q I r h
  obtain ⟨a, xs, p, ps, rfl, hs, hd, ha, hcl, hdp, q⟩ := h
  obtain ⟨its, rv, hl, _⟩ := I.list hs
  rw [Vals.ref1 r]
  obtain ⟨as, hr⟩ := Dp.readsAll I _ _ _ hd rv
  refine PySem.W.max_list_data (I.ok.hd hc) hl.isList (by simpa using hr) ha (by omega) fun i v h' tk bs hv hb hk => ?_
  have hv2 : its[i]? = some v := by simpa using hv
  have hil : i < xs.length := by
    rw [rv.length]
    exact (List.getElem?_eq_some_iff.mp hv2).1
  obtain ⟨u, hu1, ru⟩ := rv.get (List.getElem?_eq_getElem hil)
  rw [hv2] at hu1
  cases hu1
  obtain ⟨d, hd1, hd2⟩ := DpAll.get hd (List.getElem?_eq_getElem hil)
  obtain ⟨as2, r2⟩ := Dp.reads I d _ v hd2 ru
  have e := (Reads.unique (PySem.W.reads_keeps hk r2) _ _ hb).1
  subst e
  exact ⟨xs[i], H, I.kept hk, ru, q i _ (List.getElem?_eq_getElem hil) hd1⟩
/-- data without lists, back -/
def ofPy : Nat → PyData → Option D
  | 0, _ => none
  | n + 1, p => match p with
    | .none => some .non
    | .bool b => some (.bl b)
    | .int i => some (.int i)
    | .str x => some (.str x)
    | .tuple ps => (mapO (ofPy n) ps).map .tup
    | _ => none
theorem mapO_back {n m : Nat} {h : IH} (ih : ∀ (d d' : D) (p : PyData), toPy m h d = some p → ofPy n p = some d' → d' = d) : ∀ {ds ds' : List D} {ps : List PyData}, mapO (toPy m h) ds = some ps → mapO (ofPy n) ps = some ds' → ds' = ds
  | [], _, _, e1, e2 => by
    cases e1
    cases e2
    rfl
  | d :: ds, _, _, e1, e2 => by
    unfold mapO at e1
    split at e1
    · rename_i p ps z1 z2
      cases e1
      unfold mapO at e2
      split at e2
      · rename_i d' ds' y1 y2
        cases e2
        rw [ih _ _ _ z1 y1, mapO_back ih z2 y2]
      · cases e2
    · cases e1
theorem ofPy_toPy {h : IH} : ∀ (n m : Nat) (d d' : D) (p : PyData), toPy m h d = some p → ofPy n p = some d' → d' = d
  | 0, _, _, _, _, _, e => by cases e
  | n + 1, 0, _, _, _, e, _ => by cases e
  | n + 1, m + 1, d, d', p, e1, e2 => by
    cases d with
    | non =>
      cases e1
      cases e2
      rfl
    | bl b =>
      cases e1
      cases e2
      rfl
    | int i =>
      cases e1
      cases e2
      rfl
    | str x =>
      cases e1
      cases e2
      rfl
    | tup ds =>
      simp only [toPy] at e1
      obtain ⟨ps, z, rfl⟩ := Option.map_eq_some_iff.mp e1
      simp only [ofPy] at e2
      obtain ⟨es, y, rfl⟩ := Option.map_eq_some_iff.mp e2
      rw [mapO_back (ofPy_toPy n m) z y]
    | fl ds =>
      simp only [toPy] at e1
      obtain ⟨ps, z, rfl⟩ := Option.map_eq_some_iff.mp e1
      cases e2
    | ref k =>
      simp only [toPy] at e1
      split at e1
      · obtain ⟨ps, z, rfl⟩ := Option.map_eq_some_iff.mp e1
        cases e2
      · cases e1
    | op v => cases e1
    | gl q => cases e1
def bestO (g : PyData → List PyData → PyData) (h : IH) (ds : List D) : Option D := match mapO (toPy 12 h) ds with
  | some (p :: ps) => if (alikeB (p :: ps) && PyData.canLayAll0 (p :: ps) && decide (PyData.depthAll (p :: ps) ≤ 60)) = true then ofPy 12 (g p ps) else none
  | _ => none
def pyMin : List D → IH → Res D := fun as h => match as with
  | [.int i, .int j] => .val (.int (if j < i then j else i)) h
  | [x] => match seqL h x with
    | some ds => match bestO PySem.W.minD h ds with
      | some d => .val d h
      | none => .stk
    | none => .stk
  | _ => .stk
def pyMax : List D → IH → Res D := fun as h => match as with
  | [.int i, .int j] => .val (.int (if j > i then j else i)) h
  | [x] => match seqL h x with
    | some ds => match bestO PySem.W.maxD h ds with
      | some d => .val d h
      | none => .stk
    | none => .stk
  | _ => .stk
theorem mapO_get {α β : Type} {f : α → Option β} : ∀ {ds : List α} {ps : List β} {i : Nat} {p : β}, mapO f ds = some ps → ps[i]? = some p → ∃ d, ds[i]? = some d ∧ f d = some p
  | [], _, _, _, e, q => by
    cases e
    simp at q
  | d :: ds, _, i, p, e, q => by
    unfold mapO at e
    split at e
    · rename_i a b z1 z2
      cases e
      cases i with
      | zero =>
        simp at q
        subst q
        exact ⟨d, rfl, z1⟩
      | succ i =>
        obtain ⟨d', h1, h2⟩ := mapO_get (i := i) z2 (by simpa using q)
        exact ⟨d', by simpa using h1, h2⟩
    · cases e
theorem bestO_ok {g : PyData → List PyData → PyData} {K : KX} {H : Hp} {μ : List Addr} {h : IH} {v : V} {x d : D} {ds : List D} {mg : MG} {W : WX} {σ : L2.St} {Q : VK} (rl : Rl K H μ h) (r : Rp K H μ v x) (z : seqL h x = some ds) (e : bestO g h ds = some d) (p : Po mg K W (Rp K) σ H μ (.val d h) Q) : rBest K g [v] H Q := by
  obtain ⟨a, vs, rfl, s, q⟩ := seqL_ok rl r z
  unfold bestO at e
  split at e
  · rename_i y ys zz
    split at e
    · rename_i c
      simp only [Bool.and_eq_true, decide_eq_true_eq] at c
      refine ⟨a, vs, y, ys, rfl, s, toPys_ok (toPy_ok rl 12) q zz, alikeB_ok c.1.1, c.1.2, c.2, fun i w h1 h2 => ?_⟩
      obtain ⟨d2, h3, h4⟩ := q.getV h1
      obtain ⟨d3, h5, h6⟩ := mapO_get zz h2
      rw [h3] at h5
      cases h5
      rw [ofPy_toPy _ _ _ _ _ h6 e] at p
      exact p.at rl h4
    · cases e
  · cases e
theorem cr_minA {k : Nat} (C : Ctx X W k) : CallR X (.builtin "min") (fun xs H Q => (∃ i j, xs = [V.int i, V.int j] ∧ Q (V.int (if j < i then j else i)) H) ∨ rBest X.K PySem.W.minD xs H Q) := CallR.or (call_min2 C.calm) (cr_minD C.calm (units_of C))
theorem cr_maxA {k : Nat} (C : Ctx X W k) : CallR X (.builtin "max") (fun xs H Q => (∃ i j, xs = [V.int i, V.int j] ∧ Q (V.int (if j > i then j else i)) H) ∨ rBest X.K PySem.W.maxD xs H Q) := CallR.or (call_max2 C.calm) (cr_maxD C.calm (units_of C))
theorem sd_min : SdC X (fun xs H Q => (∃ i j, xs = [V.int i, V.int j] ∧ Q (V.int (if j < i then j else i)) H) ∨ rBest X.K PySem.W.minD xs H Q) pyMin := by
  intro W σ xs as H μ h Q rl rs p
  unfold pyMin at p
  split at p
  · cases rs with
    | cons r1 q1 =>
      cases q1 with
      | cons r2 q2 =>
        cases q2
        cases r1
        cases r2
        exact .inl ⟨_, _, rfl, p.at rl (.int _)⟩
  · split at p
    · rename_i z
      split at p
      · rename_i z2
        cases rs with
        | cons r1 q1 =>
          cases q1
          exact .inr (bestO_ok rl r1 z z2 p)
      · exact p.elim
    · exact p.elim
  · exact p.elim
theorem sd_max : SdC X (fun xs H Q => (∃ i j, xs = [V.int i, V.int j] ∧ Q (V.int (if j > i then j else i)) H) ∨ rBest X.K PySem.W.maxD xs H Q) pyMax := by
  intro W σ xs as H μ h Q rl rs p
  unfold pyMax at p
  split at p
  · cases rs with
    | cons r1 q1 =>
      cases q1 with
      | cons r2 q2 =>
        cases q2
        cases r1
        cases r2
        exact .inl ⟨_, _, rfl, p.at rl (.int _)⟩
  · split at p
    · rename_i z
      split at p
      · rename_i z2
        cases rs with
        | cons r1 q1 =>
          cases q1
          exact .inr (bestO_ok rl r1 z z2 p)
      · exact p.elim
    · exact p.elim
  · exact p.elim

/-! ### repr -/
def rRepr (K : PySem.W.Frag) : List V → Hp → VK → Prop := fun vs H Q => ∃ a p, vs = [V.ref a] ∧ Dp K H (.ref a) p ∧ p.showable = true ∧ p.hasDict = false ∧ p.depth ≤ 60 ∧ p.shown.length ≤ sizeLine ∧ Q (.str p.shown) H
theorem cr_repr {k : Nat} (C : Ctx X W k) : CallR X (.builtin "repr") (rRepr X.K) := by
  intro pins s σ H vs us Q I r h
  obtain ⟨a, p, rfl, hd, h1, h2, h3, h4, q⟩ := h
  rw [Vals.ref1 r]
  obtain ⟨as, hr⟩ := Dp.reads I p _ (.ref a) hd rfl
  refine repr_of_reads' hr h1 (fun z => by rw [h2] at z; cases z) C.gd (by have := units_of C; omega) (fun _ _ z => z) (fun h' u tk hk => ?_) h4
  exact ⟨.str p.shown, H, I.kept hk, ⟨_, rfl⟩, q⟩
def pyRepr : List D → IH → Res D := fun as h => match as with
  | [x] => match toPy 12 h x with
    | some p => match p with
      | .list _ | .tuple _ => if (p.showable && !p.hasDict && decide (p.depth ≤ 60) && decide (p.shown.length ≤ sizeLine)) = true then .val (.str p.shown) h else .stk
      | _ => .stk
    | none => .stk
  | _ => .stk
theorem sd_repr : SdC X (rRepr X.K) pyRepr := by
  intro W σ xs as H μ h Q rl rs p
  unfold pyRepr at p
  split at p
  · split at p
    · rename_i q z
      cases rs with
      | cons r1 q1 =>
        cases q1
        have hd := toPy_ok rl 12 _ _ _ r1 z
        have key : ∀ {v : V} {a : Addr}, v = .ref a → Dp X.K H v q → Po X.mg X.kx W (Rp X.kx) σ H μ (if (q.showable && !q.hasDict && decide (q.depth ≤ 60) && decide (q.shown.length ≤ sizeLine)) = true then .val (.str q.shown) h else .stk) Q → rRepr X.K [v] H Q := by
          intro v a e hd p
          subst e
          split at p
          · rename_i c
            simp only [Bool.and_eq_true, decide_eq_true_eq, Bool.not_eq_true'] at c
            exact ⟨a, q, rfl, hd, c.1.1.1, c.1.1.2, c.1.2, c.2, p.at rl (.str _)⟩
          · exact p.elim
        split at p
        · cases hd with
          | lst s1 s2 => exact key rfl (.lst s1 s2) p
        · cases hd with
          | tup s1 s2 => exact key rfl (.tup s1 s2) p
        · exact p.elim
    · exact p.elim
  · exact p.elim
end
end DD
set_option Elab.async false
set_option linter.all false
set_option maxRecDepth 100000
/-! dicts whose keys are tuples of any depth -/
namespace DD
open PySem PySem.Spec L2 PyProof.Rows

section
variable (K : PySem.W.Frag) (H : Hp)
mutual
/-- the value is the key -/
inductive NkR : NestedKey → V → Prop
  | non : NkR .none .non
  | bl (b : Bool) : NkR (.num (if b = true then 1 else 0)) (.bl b)
  | int (i : Int) : NkR (.num i) (.int i)
  | str (x : Str) : NkR (.text x) (.str x)
  | tup {a : Addr} {vs : List V} {ks : List NestedKey} : SqT K H a vs → NkRs ks vs → NkR (.tup ks) (.ref a)
inductive NkRs : List NestedKey → List V → Prop
  | nil : NkRs [] []
  | cons {k : NestedKey} {v : V} {ks : List NestedKey} {vs : List V} : NkR k v → NkRs ks vs → NkRs (k :: ks) (v :: vs)
end
end
mutual
theorem nkR_of {K : KX} {H : Hp} {μ : List Addr} : ∀ {k : KD} {v : V}, Rp K H μ v (unk k) → NkR K.F H (nk k) v
  | .non, _, r => by
    cases r
    exact .non
  | .bl b, _, r => by
    cases r
    exact .bl b
  | .int b, _, r => by
    cases r
    exact .int b
  | .str b, _, r => by
    cases r
    exact .str b
  | .tup ks, _, r => by
    cases r with
    | tup s q => exact .tup s (nkRs_of q)
theorem nkRs_of {K : KX} {H : Hp} {μ : List Addr} : ∀ {ks : List KD} {vs : List V}, Rps K H μ vs (unks ks) → NkRs K.F H (nks ks) vs
  | [], _, r => by
    cases r
    exact .nil
  | k :: ks, _, r => by
    cases r with
    | cons a b => exact .cons (nkR_of a) (nkRs_of b)
end
section
variable {X : Cx} {pins : List (Addr × Obj)} {σ : L2.St} {H : Hp} {s : Shared}
mutual
theorem NkR.is (I : Inv X pins σ H s) : ∀ {k : NestedKey} {v : V} {u : Value}, NkR X.K H k v → RelV v u → NestedIs s.heap k u
  | _, _, _, .non, r => by
    cases (show _ = Value.none from r)
    exact .none
  | _, _, _, .bl b, r => by
    cases (show _ = Value.bool b from r)
    exact .bool rfl
  | _, _, _, .int i, r => by
    obtain ⟨t, e⟩ := (show ∃ t, _ = Value.int i t from r)
    subst e
    exact .int i t
  | _, _, _, .str x, r => by
    obtain ⟨t, e⟩ := (show ∃ t, _ = Value.str x t from r)
    subst e
    exact .text x t
  | _, _, _, .tup (a := a) q t, r => by
    cases (show _ = Value.ref a from r)
    obtain ⟨its, rv, ⟨o, h1, h2, n, h3⟩, _⟩ := I.tuple q
    exact .tup h1 h2 h3 (by simpa using NkRs.is I t rv)
theorem NkRs.is (I : Inv X pins σ H s) : ∀ {ks : List NestedKey} {vs : List V} {us : List Value}, NkRs X.K H ks vs → Vals vs us → NestedAll s.heap ks us
  | _, _, _, .nil, r => by
    cases r
    exact .nil
  | _, _, _, .cons a b, r => by
    cases r with
    | cons x y => exact .cons (NkR.is I a x) (NkRs.is I b y)
end
end
abbrev KN : List (NestedKey × Addr × V) → List (NestedKey × Addr × Value) → Prop := Paired fun p q => p.1 = q.1 ∧ p.2.1 = q.2.1 ∧ RelV p.2.2 q.2.2
def valN (kws : List (NestedKey × Addr × V)) (k : NestedKey) : Option V := (kws.find? fun p => decide (p.1 = k)).map (·.2.2)
def setN (kws : List (NestedKey × Addr × V)) (k : NestedKey) (v : V) : List (NestedKey × Addr × V) := kws.map fun p => if p.1 = k then (p.1, p.2.1, v) else p
def putN (kws : List (NestedKey × Addr × V)) (k : NestedKey) (b : Addr) (v : V) : List (NestedKey × Addr × V) := if (valN kws k).isSome = true then setN kws k v else kws ++ [(k, b, v)]
theorem valN_pos {p : NestedKey × Addr × V} {r : List (NestedKey × Addr × V)} {k : NestedKey} (e : p.1 = k) : valN (p :: r) k = some p.2.2 := by simp [valN, List.find?_cons, e]
theorem valN_neg {p : NestedKey × Addr × V} {r : List (NestedKey × Addr × V)} {k : NestedKey} (e : ¬ p.1 = k) : valN (p :: r) k = valN r k := by simp [valN, List.find?_cons, e]
theorem KN.val {kws : List (NestedKey × Addr × V)} {xs : List (NestedKey × Addr × Value)} (r : KN kws xs) (k : NestedKey) : RelO (valN kws k) ((atKey xs k).map (·.2)) := by
  induction r with
  | nil => exact True.intro
  | @cons p q ps qs h t ih =>
    obtain ⟨h1, _, h2⟩ := h
    by_cases e : p.1 = k
    · have e' : q.1 = k := h1.symm.trans e
      have b : atKey (q :: qs) k = some q.2 := by simp [atKey, List.find?_cons, e']
      rw [valN_pos e, b]
      exact h2
    · have e' : ¬ q.1 = k := fun z => e (h1.trans z)
      have b : atKey (q :: qs) k = atKey qs k := by simp [atKey, List.find?_cons, e']
      rw [valN_neg e, b]
      exact ih
theorem KN.repl {kws : List (NestedKey × Addr × V)} {xs : List (NestedKey × Addr × Value)} (r : KN kws xs) (k : NestedKey) {y : V} {u : Value} (ry : RelV y u) : KN (setN kws k y) (xs.map (putAt k u)) := by
  unfold setN
  induction r with
  | nil => exact .nil
  | @cons p q ps qs h t ih =>
    rw [List.map_cons, List.map_cons]
    refine .cons ?_ ih
    obtain ⟨h1, h2, h3⟩ := h
    unfold putAt
    by_cases e : p.1 = k
    · rw [if_pos e, if_pos (h1.symm.trans e)]
      exact ⟨h1, h2, ry⟩
    · rw [if_neg e, if_neg (fun z => e (h1.trans z))]
      exact ⟨h1, h2, h3⟩
theorem KN.put {kws : List (NestedKey × Addr × V)} {xs : List (NestedKey × Addr × Value)} (r : KN kws xs) (k : NestedKey) {b : Addr} {y : V} {u : Value} (ry : RelV y u) : KN (putN kws k b y) (storedH xs k b u) := by
  have e : (valN kws k).isSome = (atKey xs k).isSome := by rw [(r.val k).isSome_eq, Option.isSome_map]
  unfold putN storedH
  rw [e]
  by_cases q : (atKey xs k).isSome = true
  · rw [if_pos q, if_pos q]
    exact r.repl k ry
  · rw [if_neg q, if_neg q]
    exact Paired.snoc r ⟨rfl, rfl, ry⟩
theorem length_putN (kws : List (NestedKey × Addr × V)) (k : NestedKey) (b : Addr) (v : V) : (putN kws k b v).length ≤ kws.length + 1 := by
  unfold putN setN
  split
  · rw [List.length_map]
    omega
  · rw [List.length_append, List.length_cons, List.length_nil]
    omega
/-- a dict of tuple keys; an empty one -/
def NDic (X : Cx) (H : Hp) (a : Addr) (kws : List (NestedKey × Addr × V)) : Prop :=
  (Rd H a (DN X.prog X.w a kws) ∧ ∀ p ∈ kws, NkR X.K H p.1 (.ref p.2.1) ∧ p.1.depth ≤ 8) ∨ (kws = [] ∧ Rd H a (.dK []))
/-- .. that may be written -/
def NDicW (X : Cx) (H : Hp) (a : Addr) (kws : List (NestedKey × Addr × V)) : Prop :=
  (H a = some (DN X.prog X.w a kws) ∧ ∀ p ∈ kws, NkR X.K H p.1 (.ref p.2.1) ∧ p.1.depth ≤ 8) ∨ (kws = [] ∧ H a = some (.dK []))
def NKey (X : Cx) (H : Hp) (k : NestedKey) (y : V) : Prop := ∃ b, y = .ref b ∧ NkR X.K H k y ∧ k.depth ≤ 8
section
variable {X : Cx} {pins : List (Addr × Obj)} {σ : L2.St} {H : Hp} {s : Shared} {a : Addr} {kws : List (NestedKey × Addr × V)} {k : NestedKey} {y v : V} {u r : Value} {A : Around} {E : Value → Shared → Prop}
theorem NDicW.rd (d : NDicW X H a kws) : NDic X H a kws := d.imp (fun z => ⟨.inl z.1, z.2⟩) fun z => ⟨z.1, .inl z.2⟩
theorem NDic.dict (I : Inv X pins σ H s) (d : NDic X H a kws) : kws.length ≤ sizeLine ∧ (a == sysModules) = false ∧ ∃ xs, KN kws xs ∧ s.heap.DictOfH (nestedKind X.prog X.w) a xs := by
  rcases d with ⟨d, hk⟩ | ⟨rfl, d⟩
  · obtain ⟨⟨z, y, xs, r, o, es, ep, h1, h2, h3, h4, h5⟩, _⟩ := (show ObjOk X.prog X.w H s.heap a (DN X.prog X.w a kws) from d.ok I.hok)
    refine ⟨z, y, xs, r, o, es, ep, h1, h2, h3, h4, fun x hx => ?_, h5⟩
    have all : ∀ {l : List (NestedKey × Addr × V)} {m : List (NestedKey × Addr × Value)}, KN l m → (∀ p ∈ l, NkR X.K H p.1 (.ref p.2.1) ∧ p.1.depth ≤ 8) → ∀ x ∈ m, (nestedKind X.prog X.w).is s.heap x.1 x.2.1 := by
      intro l m q
      induction q with
      | nil => exact fun _ x hx => nomatch hx
      | @cons p q ps qs hq t ih =>
        intro hp x hx
        rcases List.mem_cons.mp hx with e | hx
        · subst e
          obtain ⟨h1, h2⟩ := hp p List.mem_cons_self
          rw [← hq.1, ← hq.2.1]
          exact ⟨NkR.is I h1 rfl, h2⟩
        · exact ih (fun p hp' => hp p (List.mem_cons_of_mem _ hp')) x hx
    exact all r hk x hx
  · obtain ⟨z, hd, vs, rel, o, es, ep, h1, h2, h3, h4⟩ := dk_rd I.hok d
    refine ⟨Nat.zero_le _, hd, [], .nil, o, es, ep, h1, h2, h3, ?_, fun x hx => absurd hx (by simp), List.nodup_nil⟩
    cases rel
    have := h4.2.1
    cases e : es.toList with
    | nil => rfl
    | cons x xs =>
      rw [e] at this
      cases this
theorem NKey.is (I : Inv X pins σ H s) (h : NKey X H k y) (ry : RelV y u) : ∃ b, u = .ref b ∧ (nestedKind X.prog X.w).is s.heap k b := by
  obtain ⟨b, rfl, h1, h2⟩ := h
  cases (show u = Value.ref b from ry)
  exact ⟨b, rfl, NkR.is I h1 rfl, h2⟩
theorem nroom (hu : A.units + 9 < cLine) : (nestedKind X.prog X.w).room A.in1 := by
  show A.in1.units + 8 < cLine
  simp only [Around.in1_units]
  omega
/-- d[y], there -/
theorem n_getItem {Q : Value → Shared → Prop} (hu : A.units + 9 < cLine) (I : Inv X pins σ H s) (d : NDic X H a kws) (hk : NKey X H k y) (l : valN kws k = some v) (ry : RelV y u) (h : ∀ w' s', Inv X pins σ H s' → RelV v w' → Q w' s') :
    wpAny (model X.prog X.w) A (getItem (.ref a) u) Q E s := by
  obtain ⟨b, rfl, hb⟩ := hk.is I ry
  obtain ⟨z, hd, xs, rel, dd⟩ := d.dict I
  obtain ⟨w', hw, rw'⟩ := RelO.some_of (v := v) (o := (atKey xs k).map (·.2)) (by rw [← l]; exact rel.val k)
  obtain ⟨p, hp, hp2⟩ := Option.map_eq_some_iff.mp hw
  refine wpAny_getItem_heap (nroom (X := X) hu) hb dd hp ?_
  rw [hp2]
  exact h w' _ (I.tok _) rw'
theorem n_in {Q : Value → Shared → Prop} (hu : A.units + 9 < cLine) (I : Inv X pins σ H s) (d : NDic X H a kws) (hk : NKey X H k y) (ry : RelV y u) (h : ∀ s', Inv X pins σ H s' → Q (.bool (valN kws k).isSome) s') :
    wpAny (model X.prog X.w) A (compareOp .In u (.ref a)) Q E s := by
  obtain ⟨b, rfl, hb⟩ := hk.is I ry
  obtain ⟨z, hd, xs, rel, dd⟩ := d.dict I
  refine wpAny_in_heap (nroom (X := X) hu) hb hd dd ?_
  have q := (rel.val k).isSome_eq
  rw [Option.isSome_map] at q
  rw [← q]
  exact h _ (I.tok _)
theorem n_notIn {Q : Value → Shared → Prop} (hu : A.units + 9 < cLine) (I : Inv X pins σ H s) (d : NDic X H a kws) (hk : NKey X H k y) (ry : RelV y u) (h : ∀ s', Inv X pins σ H s' → Q (.bool !(valN kws k).isSome) s') :
    wpAny (model X.prog X.w) A (compareOp .NotIn u (.ref a)) Q E s := by
  obtain ⟨b, rfl, hb⟩ := hk.is I ry
  obtain ⟨z, hd, xs, rel, dd⟩ := d.dict I
  refine wpAny_notIn_heap (nroom (X := X) hu) hb hd dd ?_
  have q := (rel.val k).isSome_eq
  rw [Option.isSome_map] at q
  rw [← q]
  exact h _ (I.tok _)
theorem mem_putN {kws : List (NestedKey × Addr × V)} {k : NestedKey} {b : Addr} {v : V} {p : NestedKey × Addr × V} (h : p ∈ putN kws k b v) : (∃ q ∈ kws, p.1 = q.1 ∧ p.2.1 = q.2.1) ∨ p = (k, b, v) := by
  unfold putN setN at h
  split at h
  · obtain ⟨q, hq, e⟩ := List.mem_map.mp h
    refine .inl ⟨q, hq, ?_⟩
    subst e
    split <;> exact ⟨rfl, rfl⟩
  · rcases List.mem_append.mp h with h | h
    · exact .inl ⟨p, h, rfl, rfl⟩
    · exact .inr (List.mem_singleton.mp h)
theorem DN_new {P : Program} {w : World} {H' : Hp} {h' : Heap} {xs : List (NestedKey × Addr × Value)} (z : kws.length ≤ sizeLine) (hd : (a == sysModules) = false) (rel : KN kws xs) (dd : h'.DictOfH (nestedKind P w) a xs) : ObjOk P w H' h' a (DN P w a kws) := by
  obtain ⟨o, es, ep, h1, h2, h3, h4, _, h5⟩ := dd
  refine ⟨⟨z, hd, xs, rel, o, es, ep, h1, h2, h3, h4, h5⟩, ⟨o, h1⟩, fun g1 g2 ⟨c1, c2, ys, c3, o', es', ep', c4, c5⟩ hk => ⟨c1, c2, ys, c3, o', es', ep', hk _ c4, c5⟩⟩
/-- d[y] = v -/
theorem n_setItem {Q : Unit → Shared → Prop} {b : Addr} (hu : A.units + 9 < cLine) (I : Inv X pins σ H s) (d : NDicW X H a kws) (hk : NkR X.K H k (.ref b)) (hdp : k.depth ≤ 8) (hl : kws.length < sizeLine) (rv : RelV v r) (h : ∀ s', Inv X pins σ (upd H a (DN X.prog X.w a (putN kws k b v))) s' → Q () s') :
    wpAny (model X.prog X.w) A (setItem (.ref a) (.ref b) r) Q E s := by
  have hb : (nestedKind X.prog X.w).is s.heap k b := ⟨NkR.is I hk rfl, hdp⟩
  obtain ⟨z, hd, xs, rel, dd⟩ := d.rd.dict I
  have hz : xs.length ≤ sizeLine := by rw [← Paired.length rel]; exact z
  have hl : (putN kws k b v).length ≤ sizeLine := by have := length_putN kws k b v; omega
  have mu : Mut (H a) := by
    rcases d with ⟨d, _⟩ | ⟨_, d⟩ <;> rw [d] <;> exact True.intro
  refine wpAny_setItem_heap (hsz := hz) (nroom (X := X) hu) hb dd fun h' dd' hs => h _ ?_
  have he : ∃ q, h'.get? a = some q := let ⟨q, _, _, hq, _⟩ := dd'; ⟨q, hq⟩
  exact d_write I mu hs he (DN_new hl hd (rel.put k rv) dd')
theorem n_len {Q : Value → Shared → Prop} (I : Inv X pins σ H s) (d : NDic X H a kws) (h : ∀ t s', Inv X pins σ H s' → Q (.int kws.length t) s') : wpAny (model X.prog X.w) A (call (.builtin "len") [.ref a]) Q E s := by
  obtain ⟨z, hd, xs, rel, dd⟩ := d.dict I
  refine call_len_dictH hd dd (by rw [← Paired.length rel]; rw [sizeLine_eq] at z; omega) ?_
  rw [← Paired.length rel]
  exact h _ _ (I.tok _)
/-- d.get(y, x) -/
theorem n_get {x : V} {Q : Value → Shared → Prop} (hu : A.units + 9 < cLine) (I : Inv X pins σ H s) (d : NDic X H a kws) (hk : NKey X H k y) (ry : RelV y u) (rx : RelV x r) (h : ∀ w' s', Inv X pins σ H s' → RelV ((valN kws k).getD x) w' → Q w' s') :
    wpAny (model X.prog X.w) A (call (.builtin "dict.get") [.ref a, u, r]) Q E s := by
  obtain ⟨b, rfl, hb⟩ := hk.is I ry
  obtain ⟨z, hd, xs, rel, dd⟩ := d.dict I
  exact call_meetsIn PySem.F.slot_dict_get dd.typeIs PySem.F.entry_dict_get (PySem.F.args_dict_get_3 _ _ _) (meetsH_dict_get_default (nestedKind X.prog X.w) a b hd r) ⟨nroom (X := X) hu, k, xs, hb, dd, h _ _ (I.tok _) ((rel.val k).getD rx)⟩
/-- what the dict at a holds at the key y -/
def DGetX (X : Cx) (H : Hp) (a : Addr) (y : V) (o : Option V) : Prop := DGet H a y o ∨ ∃ kws k, NDic X H a kws ∧ NKey X H k y ∧ o = valN kws k
/-- the heap behind a[y] = v -/
def DPutX (X : Cx) (H : Hp) (a : Addr) (y v : V) (H' : Hp) : Prop := DPut H a y v H' ∨ ∃ kws k b, NDicW X H a kws ∧ y = .ref b ∧ NkR X.K H k (.ref b) ∧ k.depth ≤ 8 ∧ kws.length < sizeLine ∧ H' = upd H a (DN X.prog X.w a (putN kws k b v))
theorem g_getItem {Q : Value → Shared → Prop} (hu : A.units + 64 < cLine) (I : Inv X pins σ H s) (g : DGetX X H a y (some v)) (ry : RelV y u) (h : ∀ w' s', Inv X pins σ H s' → RelV v w' → Q w' s') : wpAny (model X.prog X.w) A (getItem (.ref a) u) Q E s := by
  rcases g with g | ⟨kws, k, d, hk, l⟩
  · exact d_getItem (by omega) I g ry h
  · exact n_getItem (by omega) I d hk l.symm ry h
theorem g_in {o : Option V} {Q : Value → Shared → Prop} (hu : A.units + 64 < cLine) (I : Inv X pins σ H s) (g : DGetX X H a y o) (ry : RelV y u) (h : ∀ s', Inv X pins σ H s' → Q (.bool o.isSome) s') : wpAny (model X.prog X.w) A (compareOp .In u (.ref a)) Q E s := by
  rcases g with g | ⟨kws, k, d, hk, rfl⟩
  · exact d_in (by omega) I g ry h
  · exact n_in (by omega) I d hk ry h
theorem g_notIn {o : Option V} {Q : Value → Shared → Prop} (hu : A.units + 64 < cLine) (I : Inv X pins σ H s) (g : DGetX X H a y o) (ry : RelV y u) (h : ∀ s', Inv X pins σ H s' → Q (.bool !o.isSome) s') : wpAny (model X.prog X.w) A (compareOp .NotIn u (.ref a)) Q E s := by
  rcases g with g | ⟨kws, k, d, hk, rfl⟩
  · exact d_notIn (by omega) I g ry h
  · exact n_notIn (by omega) I d hk ry h
theorem g_setItem {H' : Hp} {Q : Unit → Shared → Prop} (hu : A.units + 64 < cLine) (I : Inv X pins σ H s) (g : DPutX X H a y v H') (ry : RelV y u) (rv : RelV v r) (h : ∀ s', Inv X pins σ H' s' → Q () s') : wpAny (model X.prog X.w) A (setItem (.ref a) u r) Q E s := by
  rcases g with g | ⟨kws, k, b, d, rfl, hk, hdp, hl, rfl⟩
  · exact d_setItem (by omega) I g ry rv h
  · cases (show u = Value.ref b from ry)
    exact n_setItem (by omega) I d hk hdp hl rv h
theorem NDic.typeIs (I : Inv X pins σ H s) (d : NDic X H a kws) : s.TypeIs (.ref a) "dict" := by
  obtain ⟨_, _, xs, _, dd⟩ := d.dict I
  exact dd.typeIs
theorem DGetX.typeIs {o : Option V} (I : Inv X pins σ H s) (g : DGetX X H a y o) : s.TypeIs (.ref a) "dict" := by
  rcases g with g | ⟨kws, k, d, hk, rfl⟩
  · exact dict_typeIs I g
  · exact d.typeIs I
end
end DD
set_option Elab.async false
set_option linter.all false
set_option maxRecDepth 100000
namespace DD
open PySem PySem.Spec L2 PyProof.Rows

/-! ### dicts as data -/
mutual
def keyD : D → Option KD
  | .non => some .non
  | .bl b => some (.bl b)
  | .int i => some (.int i)
  | .str x => some (.str x)
  | .tup ds => (keyDs ds).map .tup
  | _ => none
def keyDs : List D → Option (List KD)
  | [] => some []
  | d :: ds => match keyD d, keyDs ds with
    | some k, some ks => some (k :: ks)
    | _, _ => none
end
mutual
theorem keyD_unk : ∀ {d : D} {k : KD}, keyD d = some k → d = unk k
  | .non, _, e => by
    cases e
    rfl
  | .bl _, _, e => by
    cases e
    rfl
  | .int _, _, e => by
    cases e
    rfl
  | .str _, _, e => by
    cases e
    rfl
  | .tup ds, _, e => by
    rw [keyD] at e
    obtain ⟨ks, z, rfl⟩ := Option.map_eq_some_iff.mp e
    rw [unk, keyDs_unk z]
  | .fl _, _, e => by simp [keyD] at e
  | .ref _, _, e => by simp [keyD] at e
  | .op _, _, e => by simp [keyD] at e
  | .gl _, _, e => by simp [keyD] at e
theorem keyDs_unk : ∀ {ds : List D} {ks : List KD}, keyDs ds = some ks → ds = unks ks
  | [], _, e => by
    cases e
    rfl
  | d :: ds, _, e => by
    rw [keyDs] at e
    split at e
    · rename_i k ks z1 z2
      cases e
      rw [unks, keyD_unk z1, keyDs_unk z2]
    · cases e
end
/-- == of keys -/
def eqK (a b : KD) : Bool := NestedKey.beq (nk a) (nk b)
theorem eqK_iff {a b : KD} : eqK a b = true ↔ nk a = nk b := ⟨NestedKey.eq_of_beq _ _, fun e => by
  unfold eqK
  rw [e]
  exact NestedKey.beq_self _⟩
theorem eqK_nk (a b : KD) : eqK a b = decide (nk a = nk b) := (NestedKey.decide_eq _ _).symm
theorem kOf_inj {a b : Key} : nk (kOf a) = nk (kOf b) ↔ a = b := by
  cases a <;> cases b <;> simp [kOf, nk]
def isT : KD → Bool
  | .tup ks => decide ((nk (.tup ks)).depth ≤ 8)
  | _ => false
def okK (kvs : List (KD × D)) (k : KD) : Bool := match kvs with
  | [] => kk k || isT k
  | (j, _) :: _ => (kk j && kk k) || (isT j && isT k)
def valD (kvs : List (KD × D)) (k : KD) : Option D := match kvs with
  | [] => none
  | (j, d) :: r => if eqK j k = true then some d else valD r k
def hasD (kvs : List (KD × D)) (k : KD) : Bool := (valD kvs k).isSome
def setD (kvs : List (KD × D)) (k : KD) (v : D) : List (KD × D) := match kvs with
  | [] => []
  | (j, d) :: r => (if eqK j k = true then (j, v) else (j, d)) :: setD r k v
def putD (kvs : List (KD × D)) (k : KD) (v : D) : List (KD × D) := if hasD kvs k = true then setD kvs k v else kvs ++ [(k, v)]
/-- what is at a key: none if it can't be asked -/
def getK (kvs : List (KD × D)) (y : D) : Option (Option D) := match keyD y with
  | some k => if okK kvs k = true then some (valD kvs k) else none
  | none => none
section
variable {K : KX} {H : Hp} {μ : List Addr}
theorem keyD_ok {v : V} {d : D} {k : KD} (r : Rp K H μ v d) (e : keyD d = some k) : Rp K H μ v (unk k) := by
  rw [← keyD_unk e]
  exact r
abbrev Kr (K : KX) (H : Hp) (μ : List Addr) (kws : List (Key × V)) (kvs : List (KD × D)) : Prop := kws.map (fun p => kOf p.1) = kvs.map (·.1) ∧ Rps K H μ (kws.map (·.2)) (kvs.map (·.2))
theorem Kr.cons_inv {p : Key × V} {q : KD × D} {kws : List (Key × V)} {kvs : List (KD × D)} (r : Kr K H μ (p :: kws) (q :: kvs)) : kOf p.1 = q.1 ∧ Rp K H μ p.2 q.2 ∧ Kr K H μ kws kvs := by
  obtain ⟨h1, h2⟩ := r
  rw [List.map_cons, List.map_cons] at h1
  rw [List.map_cons, List.map_cons] at h2
  cases h2 with
  | cons a b =>
    injection h1 with e1 e2
    exact ⟨e1, a, e2, b⟩
theorem Kr.cons {p : Key × V} {q : KD × D} {kws : List (Key × V)} {kvs : List (KD × D)} (e : kOf p.1 = q.1) (a : Rp K H μ p.2 q.2) (r : Kr K H μ kws kvs) : Kr K H μ (p :: kws) (q :: kvs) := by
  refine ⟨?_, ?_⟩
  · rw [List.map_cons, List.map_cons, e, r.1]
  · rw [List.map_cons, List.map_cons]
    exact .cons a r.2
theorem Kr.len {kws : List (Key × V)} {kvs : List (KD × D)} (r : Kr K H μ kws kvs) : kws.length = kvs.length := by
  have := congrArg List.length r.1
  rw [List.length_map, List.length_map] at this
  exact this
theorem eqK_kOf {a b : Key} : (eqK (kOf a) (kOf b) = true) ↔ a = b := eqK_iff.trans kOf_inj
theorem valD_ok {k : Key} : ∀ {kws : List (Key × V)} {kvs : List (KD × D)}, Kr K H μ kws kvs → (valV kws k = none ∧ valD kvs (kOf k) = none) ∨ ∃ v d, valV kws k = some v ∧ valD kvs (kOf k) = some d ∧ Rp K H μ v d
  | [], [], _ => .inl ⟨rfl, rfl⟩
  | [], _ :: _, r => by
    have := r.len
    simp at this
  | _ :: _, [], r => by
    have := r.len
    simp at this
  | p :: kws, (j, d) :: kvs, r => by
    obtain ⟨e, a, b⟩ := r.cons_inv
    have e' : kOf p.1 = j := e
    subst e'
    by_cases z : p.1 = k
    · right
      rw [valV_pos z]
      refine ⟨p.2, d, rfl, ?_, a⟩
      unfold valD
      rw [if_pos (eqK_kOf.mpr z)]
    · rw [valV_neg z]
      unfold valD
      rw [if_neg (fun y => z (eqK_kOf.mp y))]
      exact valD_ok b
theorem setD_ok {k : Key} {v : V} {d : D} (rv : Rp K H μ v d) : ∀ {kws : List (Key × V)} {kvs : List (KD × D)}, Kr K H μ kws kvs → Kr K H μ (kws.map fun kv => if kv.1 = k then (kv.1, v) else kv) (setD kvs (kOf k) d)
  | [], [], r => r
  | [], _ :: _, r => by
    have := r.len
    simp at this
  | _ :: _, [], r => by
    have := r.len
    simp at this
  | p :: kws, (j, e) :: kvs, r => by
    obtain ⟨e1, a, b⟩ := r.cons_inv
    have e1' : kOf p.1 = j := e1
    subst e1'
    rw [List.map_cons]
    unfold setD
    by_cases z : p.1 = k
    · rw [if_pos z, if_pos (eqK_kOf.mpr z)]
      exact Kr.cons rfl rv (setD_ok rv b)
    · rw [if_neg z, if_neg (fun y => z (eqK_kOf.mp y))]
      exact Kr.cons rfl a (setD_ok rv b)
theorem Kr.append : ∀ {kws kws' : List (Key × V)} {kvs kvs' : List (KD × D)}, Kr K H μ kws kvs → Kr K H μ kws' kvs' → Kr K H μ (kws ++ kws') (kvs ++ kvs') := by
  intro kws kws' kvs kvs' a b
  refine ⟨?_, ?_⟩
  · rw [List.map_append, List.map_append, a.1, b.1]
  · rw [List.map_append, List.map_append]
    exact a.2.append b.2
theorem putD_ok {k : Key} {v : V} {d : D} {kws : List (Key × V)} {kvs : List (KD × D)} (rv : Rp K H μ v d) (r : Kr K H μ kws kvs) : Kr K H μ (putK kws k v) (putD kvs (kOf k) d) := by
  unfold putK putD hasD
  rw [valV_any]
  rcases valD_ok (k := k) r with ⟨h1, h2⟩ | ⟨w, e, h1, h2, _⟩
  · rw [h1, h2, if_neg (by decide), if_neg (by decide)]
    exact r.append (Kr.cons rfl rv ⟨rfl, .nil⟩)
  · rw [h1, h2, if_pos (show (some w).isSome = true from rfl), if_pos (show (some e).isSome = true from rfl)]
    exact setD_ok rv r
def mergeD (kvs more : List (KD × D)) : List (KD × D) := more.foldl (fun acc kv => putD acc kv.1 kv.2) kvs
theorem mergeD_ok : ∀ {ws : List (Key × V)} {vs : List (KD × D)} {kws : List (Key × V)} {kvs : List (KD × D)}, Kr K H μ ws vs → Kr K H μ kws kvs → Kr K H μ (mergeK kws ws) (mergeD kvs vs)
  | [], [], _, _, _, r => r
  | [], _ :: _, _, _, r, _ => by
    have := r.len
    simp at this
  | _ :: _, [], _, _, r, _ => by
    have := r.len
    simp at this
  | p :: ws, (j, d) :: vs, kws, kvs, r, q => by
    obtain ⟨e, a, b⟩ := r.cons_inv
    have e' : kOf p.1 = j := e
    subst e'
    show Kr K H μ (mergeK (putK kws p.1 p.2) ws) (mergeD (putD kvs (kOf p.1) d) vs)
    exact mergeD_ok b (putD_ok a q)
/-! tuple keys -/
abbrev Kts (K : KX) (H : Hp) (μ : List Addr) (kws : List (NestedKey × Addr × V)) (kvs : List (KD × D)) : Prop := Paired (Kt K H μ) kws kvs
theorem valD_okT {k : KD} {kws : List (NestedKey × Addr × V)} {kvs : List (KD × D)} (r : Kts K H μ kws kvs) : (valN kws (nk k) = none ∧ valD kvs k = none) ∨ ∃ v d, valN kws (nk k) = some v ∧ valD kvs k = some d ∧ Rp K H μ v d := by
  induction r with
  | nil => exact .inl ⟨rfl, rfl⟩
  | @cons p q ps qs h t ih =>
    obtain ⟨e, _, _, a⟩ := h
    obtain ⟨j, d⟩ := q
    by_cases z : p.1 = nk k
    · right
      rw [valN_pos z]
      refine ⟨p.2.2, d, rfl, ?_, a⟩
      unfold valD
      rw [if_pos (eqK_iff.mpr (e.symm.trans z))]
    · rw [valN_neg z]
      unfold valD
      rw [if_neg (fun y => z (e.trans (eqK_iff.mp y)))]
      exact ih
theorem setD_okT {k : KD} {v : V} {d : D} (rv : Rp K H μ v d) {kws : List (NestedKey × Addr × V)} {kvs : List (KD × D)} (r : Kts K H μ kws kvs) : Kts K H μ (setN kws (nk k) v) (setD kvs k d) := by
  unfold setN
  induction r with
  | nil => exact .nil
  | @cons p q ps qs h t ih =>
    obtain ⟨e, a, b, c⟩ := h
    obtain ⟨j, d'⟩ := q
    rw [List.map_cons]
    unfold setD
    by_cases z : p.1 = nk k
    · rw [if_pos z, if_pos (eqK_iff.mpr (e.symm.trans z))]
      exact .cons ⟨e, a, b, rv⟩ ih
    · rw [if_neg z, if_neg (fun y => z (e.trans (eqK_iff.mp y)))]
      exact .cons ⟨e, a, b, c⟩ ih
theorem putD_okT {k : KD} {b : Addr} {v : V} {d : D} {kws : List (NestedKey × Addr × V)} {kvs : List (KD × D)} (rk : Rp K H μ (.ref b) (unk k)) (hd : (nk k).depth ≤ 8) (rv : Rp K H μ v d) (r : Kts K H μ kws kvs) : Kts K H μ (putN kws (nk k) b v) (putD kvs k d) := by
  unfold putN putD hasD
  rcases valD_okT (k := k) r with ⟨h1, h2⟩ | ⟨w, e, h1, h2, _⟩
  · rw [h1, h2, if_neg (by decide), if_neg (by decide)]
    exact Paired.snoc r ⟨rfl, hd, rk, rv⟩
  · rw [h1, h2, if_pos (show (some w).isSome = true from rfl), if_pos (show (some e).isSome = true from rfl)]
    exact setD_okT rv r
theorem putD_ne {kvs : List (KD × D)} {k : KD} {d : D} : putD kvs k d ≠ [] := by
  unfold putD
  split
  · cases kvs with
    | nil => rename_i z; simp [hasD, valD] at z
    | cons p r => simp [setD]
  · simp
theorem Kts.mn {H' : Hp} {μ' : List Addr} {kws : List (NestedKey × Addr × V)} {kvs : List (KD × D)} (x : Mn K H μ H' μ') (r : Kts K H μ kws kvs) : Kts K H' μ' kws kvs := Paired.mapP r fun _ _ z => ⟨z.1, z.2.1, z.2.2.1.mn x, z.2.2.2.mn x⟩
theorem Kts.keys {kws : List (NestedKey × Addr × V)} {kvs : List (KD × D)} (r : Kts K H μ kws kvs) : ∀ p ∈ kws, NkR K.F H p.1 (.ref p.2.1) ∧ p.1.depth ≤ 8 := by
  induction r with
  | nil => exact fun _ h => nomatch h
  | @cons p q ps qs h t ih =>
    intro x hx
    rcases List.mem_cons.mp hx with rfl | hx
    · obtain ⟨e, a, b, c⟩ := h
      rw [e]
      exact ⟨nkR_of b, a⟩
    · exact ih x hx
theorem kk_kOf {k : KD} (h : kk k = true) : ∃ j, k = kOf j := by
  cases k with
  | int i => exact ⟨.inl i, rfl⟩
  | str x => exact ⟨.inr x, rfl⟩
  | _ => cases h
theorem isT_ref {k : KD} {v : V} (h : isT k = true) (r : Rp K H μ v (unk k)) : ∃ b, v = .ref b ∧ (nk k).depth ≤ 8 := by
  cases k with
  | tup ks =>
    cases r with
    | tup s q => exact ⟨_, rfl, of_decide_eq_true h⟩
  | _ => cases h
theorem okK_ok {a : Addr} {lk : Bool} {kvs : List (KD × D)} {k : KD} (q : OkO K H μ a (.dic lk kvs)) (h : okK kvs k = true) :
    (∃ j kws, k = kOf j ∧ lkd lk H a (.dK kws) ∧ Kr K H μ kws kvs) ∨ (isT k = true ∧ ∃ kws, (lkd lk H a (DN K.P K.w a kws) ∨ (kws = [] ∧ lkd lk H a (.dK []))) ∧ Kts K H μ kws kvs) := by
  cases kvs with
  | nil =>
    simp only [okK, Bool.or_eq_true] at h
    rcases q with ⟨kws, h1, h2, h3⟩ | ⟨kws, h1, h2, h3⟩
    · have e : kws = [] := by simpa using h2
      subst e
      rcases h with h | h
      · obtain ⟨j, rfl⟩ := kk_kOf h
        exact .inl ⟨j, [], rfl, h1, rfl, .nil⟩
      · exact .inr ⟨h, [], .inr ⟨rfl, h1⟩, .nil⟩
    · exact absurd rfl h2
  | cons p r =>
    obtain ⟨i, d⟩ := p
    simp only [okK, Bool.or_eq_true, Bool.and_eq_true] at h
    rcases q with ⟨kws, h1, h2, h3⟩ | ⟨kws, h1, h2, h3⟩
    · rcases h with ⟨_, h⟩ | ⟨h, _⟩
      · obtain ⟨j, rfl⟩ := kk_kOf h
        exact .inl ⟨j, kws, rfl, h1, h2, h3⟩
      · cases kws with
        | nil => simp at h2
        | cons p' r' =>
          have := (Kr.cons_inv (K := K) (H := H) (μ := μ) ⟨h2, h3⟩).1
          obtain ⟨j, v⟩ := p'
          have e : kOf j = i := this
          subst e
          cases j <;> cases h
    · rcases h with ⟨h, _⟩ | ⟨_, h⟩
      · cases h3 with
        | cons z _ =>
          obtain ⟨_, _, z, _⟩ := z
          have z' : Rp K H μ _ (unk i) := z
          cases i <;> first | (cases h; done) | (cases z'; done)
      · exact .inr ⟨h, kws, .inl h1, h3⟩
end
/-! ### a change of the own heap -/
section
variable {K : KX} {H : Hp} {μ : List Addr} {h : IH} {n : Nat} {a : Addr}
theorem wr_lst {vs ws : List V} {es : List D} (rl : Rl K H μ h) (e : μ[n]? = some a) (hp : H a = some (.lst vs)) (r : Rps K H μ ws es) : Ext K H μ (upd H a (.lst ws)) μ ∧ Rl K (upd H a (.lst ws)) μ (h.set n (.lst es)) := by
  have x : Ext K H μ (upd H a (.lst ws)) μ := Ext.mut e hp (fun _ z => nomatch z) (fun _ _ z => nomatch z)
  exact ⟨x, rl.set e x ⟨ws, upd_same, r.mono x⟩⟩
theorem wr_dic {vs ws : List (Key × V)} {es : List (KD × D)} (rl : Rl K H μ h) (e : μ[n]? = some a) (hp : H a = some (.dK vs)) (r : Kr K H μ ws es) : Ext K H μ (upd H a (.dK ws)) μ ∧ Rl K (upd H a (.dK ws)) μ (h.set n (.dic false es)) := by
  have x : Ext K H μ (upd H a (.dK ws)) μ := Ext.mut e hp (fun _ z => nomatch z) (fun _ _ z => nomatch z)
  exact ⟨x, rl.set e x (.inl ⟨ws, upd_same, r.1, r.2.mono x⟩)⟩
theorem wr_dn {u : HO} {ws : List (NestedKey × Addr × V)} {es : List (KD × D)} (rl : Rl K H μ h) (e : μ[n]? = some a) (hp : H a = some u) (h1 : ∀ xs, u ≠ .tup xs) (h2 : ∀ b x, u ≠ .frz b x) (hne : es ≠ []) (r : Kts K H μ ws es) : Ext K H μ (upd H a (DN K.P K.w a ws)) μ ∧ Rl K (upd H a (DN K.P K.w a ws)) μ (h.set n (.dic false es)) := by
  have x : Ext K H μ (upd H a (DN K.P K.w a ws)) μ := Ext.mut e hp h1 h2
  exact ⟨x, rl.set e x (.inr ⟨ws, upd_same, hne, r.mn x.toMn⟩)⟩
end
section
variable {X : Cx} {W : WX} {a b c : Expr} {ma mb mc : ME} {pos : Pos}
/-! ### subscripts -/
theorem getK_ok {y : V} {d : D} {H : Hp} {μ : List Addr} {a : Addr} {lk : Bool} {kvs : List (KD × D)} {o : Option D} (q : OkO X.kx H μ a (.dic lk kvs)) (r : Rp X.kx H μ y d) (e : getK kvs d = some o) : ∃ ov, DGetX X H a y ov ∧ ((ov = none ∧ o = none) ∨ ∃ v d, ov = some v ∧ o = some d ∧ Rp X.kx H μ v d) := by
  unfold getK at e
  split at e
  · rename_i k z
    split at e
    · rename_i z2
      cases e
      have rk := keyD_ok r z
      rcases okK_ok q z2 with ⟨j, kws, rfl, h1, h2⟩ | ⟨h0, kws, h1, h2⟩
      · refine ⟨valV kws j, .inl (.inl ⟨kws, j, h1.rd, ?_, rfl⟩), valD_ok h2⟩
        cases j <;> cases rk <;> rfl
      · obtain ⟨b, rfl, hd⟩ := isT_ref h0 rk
        refine ⟨valN kws (nk k), .inr ⟨kws, nk k, ?_, ⟨b, rfl, nkR_of rk, hd⟩, rfl⟩, valD_okT h2⟩
        rcases h1 with h1 | ⟨rfl, h1⟩
        · exact .inl ⟨h1.rd, h2.keys⟩
        · exact .inr ⟨rfl, h1.rd⟩
    · cases e
  · cases e
def rIxD (X : Cx) : R2 := fun x y H Q => ∃ a v, x = .ref a ∧ DGetX X H a y (some v) ∧ Q v H
theorem ix_dict (hu : X.A.units + 64 < cLine) : IxR X (rIxD X) := by
  intro value slice pins s σ H x y v u Q I rx ry h hs
  obtain ⟨p, z, rfl, g, q⟩ := h
  cases rx
  have hT := g.typeIs I
  unfold subscriptTail
  refine wpAny_bind ?_
  rw [getitemInPython_of_ne hT.not_modules]
  refine wpAny_bind (wpAny_specialOf hT PySem.F.slot_dict_getitem.lookup ?_)
  have fin : wpAny (model X.prog X.w) X.A (subscripted slice false (.ref p) u) (fun r s₃ => wpAny (model X.prog X.w) X.A (letTemporaryGo value (.ref p) r >>= fun _ => pure r) (EP X pins σ Q) X.xe s₃) X.xe s := by
    rw [hs]
    exact wpAny_operating (g_getItem hu I g ry fun w' s3 I3 rw' => wpAny_bind (wpAny_letTemporaryGo (wpAny_pure ⟨z, H, I3, rw', q⟩)))
  first
    | exact wpAny_pure (wpAny_bind fin)
    | exact wpAny_bind (wpAny_pure (wpAny_bind fin))
    | exact wpAny_bind fin
def pyIx : D → D → IH → Res D
  | .str z, .int i, h => if z.length ≤ sizeLine then (match atI z.cps.toList i with
    | some c => .val (.str ⟨#[c]⟩) h
    | none => .stk) else .stk
  | .tup ds, .int i, h => match atI ds i with
    | some d => .val d h
    | none => .stk
  | .fl ds, .int i, h => match atI ds i with
    | some d => .val d h
    | none => .stk
  | .ref n, k, h => match h[n]? with
    | some (.lst ds) => (match k with
      | .int i => (match atI ds i with
        | some d => .val d h
        | none => .stk)
      | _ => .stk)
    | some (.dic _ kvs) => (match getK kvs k with
      | some (some d) => .val d h
      | _ => .stk)
    | _ => .stk
  | _, _, _ => .stk
theorem atI_ok {K : KX} {H : Hp} {μ : List Addr} {vs : List V} {ds : List D} {i : Int} {d : D} (r : Rps K H μ vs ds) (e : atI ds i = some d) : ∃ v, atI vs i = some v ∧ Rp K H μ v d := by
  unfold atI at e ⊢
  rw [r.length]
  obtain ⟨j, h1, h2⟩ := Option.bind_eq_some_iff.mp e
  obtain ⟨v, h3, h4⟩ := r.get h2
  exact ⟨v, by rw [h1]; exact h3, h4⟩
def rIxA (X : Cx) : R2 := fun x y H Q => rIx X.K x y H Q ∨ rIxD X x y H Q
theorem ix_any {k : Nat} (C : Ctx X W k) : IxR X (rIxA X) := ix_seq.or (ix_dict (units_of C))
theorem sd_ix : Sd2 X (rIxA X) pyIx := by
  intro W σ x y a b H μ h Q rl ra rb p
  cases ra with
  | str z =>
    cases rb <;> first | exact p.elim | skip
    simp only [pyIx] at p
    split at p
    · split at p
      · exact .inl (.inr (.inr ⟨_, _, _, rfl, rfl, by assumption, by assumption, p.at rl (.str _)⟩))
      · exact p.elim
    · exact p.elim
  | tup s q =>
    cases rb <;> first | exact p.elim | skip
    simp only [pyIx] at p
    split at p
    · rename_i d z
      obtain ⟨v, h1, h2⟩ := atI_ok q z
      exact .inl (.inr (.inl ⟨_, _, _, v, rfl, rfl, s, h1, p.at rl h2⟩))
    · exact p.elim
  | fl s q =>
    cases rb <;> first | exact p.elim | skip
    simp only [pyIx] at p
    split at p
    · rename_i d z
      obtain ⟨v, h1, h2⟩ := atI_ok q z
      exact .inl (.inl ⟨_, _, _, v, rfl, rfl, s.sq, h1, p.at rl h2⟩)
    · exact p.elim
  | ref e1 =>
    obtain ⟨o, ho, q⟩ := rl.at e1
    simp only [pyIx, ho] at p
    cases o with
    | lst ds =>
      obtain ⟨vs, h1, q⟩ := q
      cases rb <;> first | exact p.elim | skip
      simp only at p
      split at p
      · rename_i d z
        obtain ⟨v, h2, h3⟩ := atI_ok q z
        exact .inl (.inl ⟨_, _, _, v, rfl, rfl, SqL.of h1, h2, p.at rl h3⟩)
      · exact p.elim
    | dic lk kvs =>
      simp only at p
      split at p
      · rename_i d z
        obtain ⟨ov, g, gv⟩ := getK_ok q rb z
        rcases gv with ⟨_, e⟩ | ⟨v, d', rfl, e, r⟩
        · cases e
        · cases e
          exact .inr ⟨_, v, rfl, g, p.at rl r⟩
      · exact p.elim
    | ins c fs => exact p.elim
  | _ => exact p.elim
/-! ### stores by subscripts -/
def pySet (x y d : D) (h : IH) : Option IH := match x with
  | .ref n => match h[n]? with
    | some (.lst ds) => (match y with
      | .int i => (match ixN ds.length i with
        | some j => some (h.set n (.lst (ds.set j d)))
        | none => none)
      | _ => none)
    | some (.dic false kvs) => (match keyD y with
      | some k => if kvs.length < sizeLine ∧ okK kvs k = true then some (h.set n (.dic false (putD kvs k d))) else none
      | none => none)
    | _ => none
  | _ => none
def rSetA (X : Cx) : TSet := fun o i v H Q => rSetL o i v H Q ∨ ∃ a H', o = .ref a ∧ DPutX X H a i v H' ∧ Q H'
theorem set_any (hu : X.A.units + 64 < cLine) : PSet X (rSetA X) := by
  intro pins s σ H o i v ov iv u Q I ro ri rv h
  rcases h with h | ⟨a, H', rfl, g, q⟩
  · exact set_list pins s σ H o i v ov iv u Q I ro ri rv h
  · cases ro
    exact g_setItem hu I g ri rv fun s' I' => ⟨H', I', q⟩
theorem sd_set {o i v : V} {x y d : D} {H : Hp} {μ : List Addr} {h h' : IH} {Q : Hp → Prop} (rl : Rl X.kx H μ h) (ro : Rp X.kx H μ o x) (ri : Rp X.kx H μ i y) (rv : Rp X.kx H μ v d) (e : pySet x y d h = some h') (q : ∀ H', Ext X.kx H μ H' μ → Rl X.kx H' μ h' → Q H') : rSetA X o i v H Q := by
  cases ro with
  | @ref ad nn e1 =>
    obtain ⟨ob, ho, oq⟩ := rl.at e1
    simp only [pySet, ho] at e
    cases ob with
    | lst ds =>
      obtain ⟨vs, h1, r1⟩ := oq
      simp only at e
      split at e
      · split at e
        · rename_i i j z
          cases e
          cases ri
          refine .inl ⟨_, vs, _, j, rfl, rfl, h1, by rw [r1.length]; exact z, ?_⟩
          obtain ⟨x2, rl2⟩ := wr_lst rl e1 h1 (r1.set j rv)
          exact q _ x2 rl2
        · cases e
      · cases e
    | dic lk kvs =>
      cases lk with
      | true => cases e
      | false =>
        simp only at e
        split at e
        · rename_i k z
          split at e
          · rename_i zl
            cases e
            have rk := keyD_ok ri z
            rcases okK_ok oq zl.2 with ⟨j, kws, rfl, h1, h2⟩ | ⟨h0, kws, h1, h2⟩
            · obtain ⟨x2, rl2⟩ := wr_dic rl e1 h1 (putD_ok (k := j) rv h2)
              refine .inr ⟨_, _, rfl, .inl (.inl ⟨kws, j, h1, ?_, by rw [Kr.len h2]; exact zl.1, rfl⟩), q _ x2 rl2⟩
              cases j <;> cases rk <;> rfl
            · obtain ⟨b, rfl, hd⟩ := isT_ref h0 rk
              have hw : NDicW X H ad kws := by
                rcases h1 with h1 | ⟨rfl, h1⟩
                · exact .inl ⟨h1, h2.keys⟩
                · exact .inr ⟨rfl, h1⟩
              have hu : ∃ u, H ad = some u ∧ (∀ xs, u ≠ .tup xs) ∧ ∀ b x, u ≠ .frz b x := by
                rcases h1 with h1 | ⟨rfl, h1⟩
                · exact ⟨_, h1, (fun _ z => nomatch z), (fun _ _ z => nomatch z)⟩
                · exact ⟨_, h1, (fun _ z => nomatch z), (fun _ _ z => nomatch z)⟩
              obtain ⟨u, hu, hu1, hu2⟩ := hu
              obtain ⟨x2, rl2⟩ := wr_dn rl e1 hu hu1 hu2 putD_ne (putD_okT (k := k) rk hd rv h2)
              exact .inr ⟨_, _, rfl, .inr ⟨kws, nk k, b, hw, rfl, nkR_of rk, hd, by rw [Paired.length h2]; exact zl.1, rfl⟩, q _ x2 rl2⟩
          · cases e
        · cases e
    | ins c fs => cases e
  | _ => cases e
def gSubM (o i : ME) : MTg := fun d env h => match o env h with
  | .val x h1 => match i env h1 with
    | .val y h2 => match pySet x y d h2 with
      | some h3 => some (env, h3)
      | none => none
    | _ => none
  | _ => none
theorem qg_sub {k : Nat} {o i : Expr} {mo mi : ME} (C : Ctx X W k) (ho : QE X W o mo) (hi : QE X W i mi)
    (ha : ∀ v, assign (.Subscript o i pos) X.env v = (do
      let ov ← holding [v] (eval o X.env)
      let iv ← holding [v, ov] (eval i X.env)
      standAt pos
      holding [v, ov, iv] (setItem ov iv v)
      release [v, ov, iv] []) := by intro _; rfl) : QG X (.Subscript o i pos) (gSubM mo mi) :=
  ⟨fun pins s σ H v u Q I r ⟨μ, h, env, d, rl, er, rp, p⟩ => (pg_sub ho hi (set_any (units_of C)) ha).run pins s σ H v u Q I r (by
    unfold gSubM at p
    split at p
    · rename_i x h1 z1
      split at p
      · rename_i y h2 z2
        split at p
        · rename_i h3 z3
          refine ⟨μ, h, env, rl, er, ?_⟩
          rw [z1]
          intro o' μ1 H1 x1 rl1 r1
          refine ⟨μ1, h1, env, rl1, er.mono x1, ?_⟩
          rw [z2]
          intro i' μ2 H2 x2 rl2 r2
          exact sd_set rl2 (r1.mono x2) r2 (rp.mono (x1.trans x2)) z3 fun H3 x3 rl3 => p σ μ2 H3 (x1.trans (x2.trans x3)) rl3 (er.mono (x1.trans (x2.trans x3)))
        · exact p.elim
      · exact p.elim
    · exact p.elim)⟩
/-! ### slices -/
def cutA {α : Type} (xs : List α) (lo hi : Option Int) : List α := (xs.drop (HT.sIx xs.length 0 lo)).take (HT.sIx xs.length xs.length hi - HT.sIx xs.length 0 lo)
theorem cutA_ok {K : KX} {H : Hp} {μ : List Addr} {vs : List V} {ds : List D} {lo hi : Option Int} (r : Rps K H μ vs ds) : Rps K H μ (cutV vs lo hi) (cutA ds lo hi) := by
  unfold cutV cutA
  rw [r.length]
  exact (r.drop _).take _
abbrev MO := En → IH → Res (Option Int)
def RO (mg : MG) (K : KX) (W : WX) (m : MO) : TO := fun σ H Q => ∃ μ h env, Rl K H μ h ∧ EnvR K H μ σ env ∧ Po mg K W (fun _ _ (a b : Option Int) => a = b) σ H μ (m env h) Q
def QO (X : Cx) (W : WX) (e : Option Expr) (m : MO) : Prop := PO X e (RO X.mg X.kx W m)
def moN : MO := fun _ h => .val none h
def moS (m : ME) : MO := fun env h => (m env h).bind fun d h1 => match d with
  | .int i => .val (some i) h1
  | _ => .stk
theorem qo_none : QO X W none moN := ⟨fun pins s σ H Q I ⟨μ, h, env, rl, er, p⟩ => po_none.run pins s σ H Q I (p none μ H .refl rl rfl)⟩
theorem qo_some (ha : QE X W a ma) : QO X W (some a) (moS ma) := ⟨fun pins s σ H Q I ⟨μ, h, env, rl, er, p⟩ => (po_some ha).run pins s σ H Q I ⟨μ, h, env, rl, er, Po.then (R := Rp X.kx) p fun d h1 v μ1 H1 x1 rl1 rp1 p1 => by
  split at p1
  · cases rp1
    exact ⟨_, rfl, p1 _ _ _ .refl rl1 rfl⟩
  · exact p1.elim⟩⟩
def pySlice (d : D) (lo hi : Option Int) (h : IH) : Res D := match d with
  | .tup ds => .val (.tup (cutA ds lo hi)) h
  | .str z => if z.length ≤ sizeLine then .val (.str (cutS z lo hi)) h else .stk
  | x => match seqL h x with
    | some ds => .val (.ref h.length) (h ++ [.lst (cutA ds lo hi)])
    | none => .stk
def mSl (e : ME) (lo hi : MO) : ME := fun env h => (e env h).bind fun d h1 => (lo env h1).bind fun l h2 => (hi env h2).bind fun u h3 => pySlice d l u h3
def rSlAll (X : Cx) : V → Option Int → Option Int → Hp → VK → Prop := fun x lo hi H Q => rSlA X.K x lo hi H Q ∨ (rSlL X.K x lo hi H Q ∨ rSlS x lo hi H Q)
theorem cut_whole {α : Type} {xs : List α} {lo hi : Option Int} (h : HT.sIx xs.length 0 lo = 0 ∧ HT.sIx xs.length xs.length hi = xs.length) : cutA xs lo hi = xs := by
  unfold cutA
  rw [h.1, h.2]
  simp
theorem sd_slice {x : V} {d : D} {lo hi : Option Int} {H : Hp} {μ : List Addr} {h : IH} {Q : VK} {σ : L2.St} (rl : Rl X.kx H μ h) (r : Rp X.kx H μ x d) (p : Po X.mg X.kx W (Rp X.kx) σ H μ (pySlice d lo hi h) Q) : rSlAll X x lo hi H Q := by
  cases r with
  | tup s q =>
    have p2 : Po X.mg X.kx W (Rp X.kx) σ H μ (.val (.tup (cutA _ lo hi)) h) Q := p
    refine .inl ⟨_, _, rfl, s, fun z => ?_, fun _ pp hp => ?_⟩
    · rw [q.length] at z
      rw [cut_whole z] at p2
      exact p2.at rl (.tup s q)
    · obtain ⟨x2, rl2, rp2⟩ := new_tup rl (cutA_ok q) hp
      exact p2 _ _ _ x2 rl2 rp2
  | str z =>
    simp only [pySlice] at p
    split at p
    · exact .inr (.inr ⟨_, rfl, by assumption, p.at rl (.str _)⟩)
    · exact p.elim
  | fl s q =>
    have p2 : Po X.mg X.kx W (Rp X.kx) σ H μ (.val (.ref h.length) (h ++ [.lst (cutA _ lo hi)])) Q := p
    refine .inr (.inl ⟨_, _, rfl, s.sq, fun pp hp => ?_⟩)
    obtain ⟨x2, rl2, rp2⟩ := new_lst rl (cutA_ok q) hp
    exact p2 _ _ _ x2 rl2 rp2
  | ref e1 =>
    simp only [pySlice, seqL] at p
    split at p
    · rename_i ds z
      obtain ⟨vs, h1, q⟩ := lstAt_ok rl e1 z
      refine .inr (.inl ⟨_, _, rfl, SqL.of h1, fun pp hp => ?_⟩)
      obtain ⟨x2, rl2, rp2⟩ := new_lst rl (cutA_ok q) hp
      exact p _ _ _ x2 rl2 rp2
    · exact p.elim
  | _ => exact p.elim
theorem qe_slice {e : Expr} {lo hi : Option Expr} {me : ME} {ml mh : MO} {p2 : Pos} (he : QE X W e me) (hl : QO X W lo ml) (hh : QO X W hi mh) : QE X W (.Subscript e (.Slice lo hi none p2) pos) (mSl me ml mh) :=
  PE.imp (pe_slice (r := rSlAll X) (sl_tupA.or (sl_list.or sl_str)) he hl hh) fun σ H Q ⟨μ, h, env, rl, er, p⟩ =>
    ⟨μ, h, env, rl, er, Po.then (R := Rp X.kx) p fun d h1 v μ1 H1 x1 rl1 rp1 p1 => ⟨μ1, h1, env, rl1, er.mono x1, Po.then (R := fun _ _ (a b : Option Int) => a = b) p1 fun l h2 l' μ2 H2 x2 rl2 e2 p2 => ⟨μ2, h2, env, rl2, er.mono (x1.trans x2), Po.then (R := fun _ _ (a b : Option Int) => a = b) p2 fun u h3 u' μ3 H3 x3 rl3 e3 p3 => by
      have e2' : l' = l := e2
      have e3' : u' = u := e3
      subst e2' e3'
      exact sd_slice rl3 (rp1.mono (x2.trans x3)) p3⟩⟩⟩
end
end DD
set_option Elab.async false
set_option linter.all false
set_option maxRecDepth 100000
/-! range of any ints -/
namespace DD
open PySem PySem.Spec L2 PyProof.Rows
theorem turn_long {P : Program} {w : World} {K : PySem.W.Frag} {tg : Expr} (it : Addr) (lo : Int) (n : Nat) : Turn P w K tg (Itr lo n) [it] it (fun i h => IsLongIter h it (lo + (i : Nat) * 1) ((n : Int) - (i : Nat)) 1) where
  mem := by simp
  obj := fun i h st b hb => by
    have z : b = it := by simpa using hb
    subst z
    refine ⟨_, st, fun v z => ?_⟩
    have z' : Data.fields _ = Data.cell v := z
    cases z'
  keep := fun i h h' st k => k it (by simp) _ st
  item := by
    intro X hP hw hK hc i pins s σ H E I hf st hg
    subst hP hw hK
    obtain ⟨f0, f1, f2, f3, f4, f5⟩ := hf it (by simp)
    refine (Walks.longrange (prog := X.prog) (w := X.w) (I.ok.hd hc) it lo 1 n).item i s _ _ hg st fun v h' tk hv st' kk => ?_
    obtain ⟨t, rfl⟩ := hv
    have J : Inv X pins σ H { s with heap := h', toks := tk } := I.turned (fun b o hb e => kk b o (by simpa using hb) e) f0 f1 f3 f4 f5
    refine ⟨_, rfl, go_of (s := { s with heap := h', toks := tk }) (n := "longrange_iterator") st' rfl rfl (by decide) ⟨.int (lo + i), H, J, ⟨t, ?_⟩, ⟨rfl, rfl⟩, st', fun b hb => (hf b hb).1⟩⟩
    rw [Int.mul_one]
  done := by
    intro X hP hw hK hc i pins s σ H E I hf st hg
    subst hP hw hK
    obtain ⟨f0, f1, f2, f3, f4, f5⟩ := hf it (by simp)
    exact wpAny_pyNext_long_end (I.ok.hd hc) st (by have : n ≤ i := hg; omega) fun h' eb => ⟨rfl, I.turned (t' := s.toks) (fun b o hb e => eb b o hb e) f0 f1 f3 f4 f5⟩
  self := fun _ _ _ _ _ st h => wpAny_pyIter_longiter st h
section
variable {X : Cx} {tg : Expr}
theorem range_any {pins : List (Addr × Obj)} {σ : L2.St} {H : Hp} {s : Shared} {R : It → Hp → Prop} {E : Value → Shared → Prop} {lo hi : Int} {t u v : Tok} {tk : Nat} (I : Inv X pins σ H s) (q : R (Itr lo (hi - lo).toNat) H) :
    wpAny (model X.prog X.w) X.A (pyIter (.ref s.heap.objs.size)) (PIE X pins σ tg R) E { s with heap := s.heap.push { cls := .type "range", data := .fields #[.int lo t, .int hi u, .int 1 v] }, toks := tk } := by
  have J : Inv X pins σ H { s with heap := s.heap.push { cls := .type "range", data := .fields #[.int lo t, .int hi u, .int 1 v] }, toks := tk } := I.kept fun b o e => Heap.get?_push_of_some _ e
  have e1 : lo + ((0 : Nat) : Int) * 1 = lo := by simp
  have e2 : (((hi - lo).toNat : Nat) : Int) - ((0 : Nat) : Int) = Builtin.Range.rangeSize lo hi 1 := by
    rw [rangeSize_one]
    split <;> omega
  have fp : ∀ b ∈ [(s.heap.push { cls := .type "range", data := .fields #[.int lo t, .int hi u, .int 1 v] }).objs.size], FpOk X pins H b := fun b hb => by
    have z := List.mem_singleton.mp hb
    subst z
    exact J.fpOk (Nat.le_refl _) (J.hok.fresh (Nat.le_refl _))
  cases hb : Builtin.Range.small lo hi 1 with
  | true =>
    refine wpAny_pyIter_range (IsRange.new ..) hb ⟨_, [_], _, _, H, rfl, J.kept (t' := tk) fun b o e => Heap.get?_push_of_some _ e, turn_range _ lo (hi - lo).toNat, ?_, fp, q⟩
    show IsRangeIter _ _ (lo + ((0 : Nat) : Int) * 1) ((((hi - lo).toNat : Nat) : Int) - ((0 : Nat) : Int)) 1
    rw [e1, e2]
    exact Heap.get?_push_size _ rfl
  | false =>
    refine wpAny_pyIter_longrange (IsRange.new ..) hb ⟨_, [_], _, _, H, rfl, J.kept (t' := tk) fun b o e => Heap.get?_push_of_some _ e, turn_long _ lo (hi - lo).toNat, ?_, fp, q⟩
    show IsLongIter _ _ (lo + ((0 : Nat) : Int) * 1) ((((hi - lo).toNat : Nat) : Int) - ((0 : Nat) : Int)) 1
    rw [e1, e2]
    exact Heap.get?_push_size _ rfl
def iRg1 (ta : TA) : TI := fun σ H R => ta σ H fun vs H1 => ∃ j : Int, vs = [.int j] ∧ R (Itr 0 j.toNat) H1
def iRg2 (ta : TA) : TI := fun σ H R => ta σ H fun vs H1 => ∃ i j : Int, vs = [.int i, .int j] ∧ R (Itr i (j - i).toNat) H1
theorem pi_rg1 {a : Expr} {ta : TA} {p pos : Pos} (hg : Gl X "range") (hm : X.mg "range" = none) (ha : PA X [a] ta) (hs : starEach [a] X.env = [(false, eval a X.env)] := by rfl) : PI X tg (.Call (.Name "range" p) [a] [] pos) (iRg1 ta) := by
  refine ⟨fun pins s σ H R I h => ?_⟩
  refine Call_ (ld_blt I hg hm boot_range (PyProof.Rows.callWith_type1 (thn (ha.run pos pins s σ H _ I h) fun us s1 ⟨vs, H1, J, r1, q1⟩ => ?_) hs rfl))
  obtain ⟨j, e, q⟩ := q1
  subst e
  cases r1 with
  | cons r rr =>
    cases rr
    obtain ⟨t, rfl⟩ := r
    exact call_range_1 (range_any J (by simpa using q))
theorem pi_rg2 {a b : Expr} {ta : TA} {p pos : Pos} (hg : Gl X "range") (hm : X.mg "range" = none) (ha : PA X [a, b] ta) (hs : starEach [a, b] X.env = [(false, eval a X.env), (false, eval b X.env)] := by rfl) (hs2 : starEach [b] X.env = [(false, eval b X.env)] := by rfl) :
    PI X tg (.Call (.Name "range" p) [a, b] [] pos) (iRg2 ta) := by
  refine ⟨fun pins s σ H R I h => ?_⟩
  refine Call_ (ld_blt I hg hm boot_range (PyProof.Rows.callWith_type1 (thn (ha.run pos pins s σ H _ I h) fun us s1 ⟨vs, H1, J, r1, q1⟩ => ?_) (by rw [hs, hs2]) (by rw [hs2]; rfl)))
  obtain ⟨i, j, e, q⟩ := q1
  subst e
  cases r1 with
  | cons r rr =>
    cases rr with
    | cons r' rr =>
      cases rr
      obtain ⟨t, rfl⟩ := r
      obtain ⟨t', rfl⟩ := r'
      exact call_range_2 (range_any J q)
end
end DD
set_option Elab.async false
set_option linter.all false
set_option maxRecDepth 100000
namespace DD
open PySem PySem.Spec L2 PyProof.Rows

section
variable {X : Cx} {W : WX} {a b c : Expr} {ma mb mc : ME} {pos : Pos}
/-! ### a dict's display -/
abbrev MP := En → IH → Res (List (D × D))
def pNil : MP := fun _ h => .val [] h
def pCons (k v : ME) (r : MP) : MP := fun env h => (k env h).bind fun x h1 => (v env h1).bind fun y h2 => (r env h2).bind fun ps h3 => .val ((x, y) :: ps) h3
def keysD : List (D × D) → Option (List (KD × D))
  | [] => some []
  | (k, v) :: r => match keyD k, keysD r with
    | some j, some s => some ((j, v) :: s)
    | _, _ => none
/-- what a display makes: texts and ints as keys, or one tuple -/
def dicNew (kvs : List (KD × D)) : Option (List (KD × D)) := if ((kvs.all fun p => kk p.1) && decide (kvs.length ≤ 15)) = true then some (mergeD [] kvs) else match kvs with
  | [(k, v)] => if isT k = true then some [(k, v)] else none
  | _ => none
def mDic (m : MP) : ME := fun env h => (m env h).bind fun ps h1 => match keysD ps with
  | some kvs => (match dicNew kvs with
    | some kvs' => .val (.ref h1.length) (h1 ++ [.dic false kvs'])
    | none => .stk)
  | none => .stk
abbrev Rpp (K : KX) : Hp → List Addr → List (V × V) → List (D × D) → Prop := fun H μ vs ds => Rps K H μ (vs.map (·.1)) (ds.map (·.1)) ∧ Rps K H μ (vs.map (·.2)) (ds.map (·.2))
def QP (X : Cx) (W : WX) (pos : Pos) (ks : List (Option Expr)) (vs : List Expr) (m : MP) : Prop := ∃ trs, PPs X pos ks vs trs ∧ ∀ σ H Q, (∃ μ h env, Rl X.kx H μ h ∧ EnvR X.kx H μ σ env ∧ Po X.mg X.kx W (Rpp X.kx) σ H μ (m env h) Q) → tPairs trs σ H Q
theorem qp_nil : QP X W pos [] [] pNil := ⟨[], pps_nil, fun σ H Q ⟨μ, h, env, rl, er, p⟩ => p [] μ H .refl rl ⟨.nil, .nil⟩⟩
theorem qp_cons {k v : Expr} {ks : List (Option Expr)} {vs : List Expr} {mk mv : ME} {mr : MP} (hk : QE X W k mk) (hv : QE X W v mv) (hr : QP X W pos ks vs mr) : QP X W pos (some k :: ks) (v :: vs) (pCons mk mv mr) := by
  obtain ⟨trs, h1, h2⟩ := hr
  refine ⟨_, pps_cons hk hv h1, fun σ H Q ⟨μ, h, env, rl, er, p⟩ => ?_⟩
  exact ⟨μ, h, env, rl, er, Po.then (R := Rp X.kx) p fun x h3 v1 μ1 H1 x1 rl1 rp1 p1 => ⟨μ1, h3, env, rl1, er.mono x1, Po.then (R := Rp X.kx) p1 fun y h4 v2 μ2 H2 x2 rl2 rp2 p2 =>
    h2 σ H2 _ ⟨μ2, h4, env, rl2, er.mono (x1.trans x2), Po.then (R := Rpp X.kx) p2 fun ps h5 vs μ3 H3 x3 rl3 rp3 p3 => p3 _ _ _ .refl rl3 ⟨.cons (rp1.mono (x2.trans x3)) rp3.1, .cons (rp2.mono x3) rp3.2⟩⟩⟩⟩
theorem keysD_ok {K : KX} {H : Hp} {μ : List Addr} : ∀ {vs : List (V × V)} {ds : List (D × D)} {kvs : List (KD × D)}, Rpp K H μ vs ds → keysD ds = some kvs → (kvs.all fun p => kk p.1) = true → ∃ kws : List (Key × V), vs = kws.map (fun kv => (kV kv.1, kv.2)) ∧ Kr K H μ kws kvs
  | [], [], _, _, e, _ => by
    cases e
    exact ⟨[], rfl, rfl, .nil⟩
  | [], _ :: _, _, r, _, _ => by
    have := r.1.length
    simp at this
  | _ :: _, [], _, r, _, _ => by
    have := r.1.length
    simp at this
  | (x, y) :: vs, (k, v) :: ds, _, r, e, hk => by
    obtain ⟨r1, r2⟩ := r
    rw [List.map_cons, List.map_cons] at r1 r2
    cases r1 with
    | cons a1 b1 =>
      cases r2 with
      | cons a2 b2 =>
        unfold keysD at e
        split at e
        · rename_i j s z1 z2
          cases e
          rw [List.all_cons, Bool.and_eq_true] at hk
          obtain ⟨kws, h1, h2⟩ := keysD_ok ⟨b1, b2⟩ z2 hk.2
          have := keyD_ok a1 z1
          obtain ⟨i, ei⟩ := kk_kOf (k := j) hk.1
          subst ei
          refine ⟨(i, y) :: kws, ?_, Kr.cons rfl a2 h2⟩
          rw [List.map_cons, h1]
          have e2 : x = kV i := by cases i <;> cases this <;> rfl
          show (x, y) :: _ = (kV i, y) :: _
          rw [← e2]
        · cases e
theorem Rl.out {K : KX} {H : Hp} {μ : List Addr} {h : IH} {p : Addr} (rl : Rl K H μ h) (hp : H p = none) : p ∉ μ := fun z => by
  obtain ⟨n, hn, e⟩ := List.mem_iff_getElem.mp z
  exact rl.old (n := n) (by rw [List.getElem?_eq_getElem hn, e]) hp rfl
/-- a thing that stood outside the own heap is taken in, changed -/
theorem adopt {K : KX} {H1 H : Hp} {μ1 μ : List Addr} {h : IH} {p : Addr} {o u : HO} {io : IO} (x : Ext K H1 μ1 H μ) (rl : Rl K H μ h) (hp1 : H1 p = none) (hp : H p = some o) (np : p ∉ μ) (ho : (∀ xs, o ≠ .tup xs) ∧ ∀ b z, o ≠ .frz b z)
    (q : ∀ {H' : Hp} {μ' : List Addr}, Mn K H μ H' μ' → H' p = some u → OkO K H' μ' p io) : Ext K H1 μ1 (upd H p u) (μ ++ [p]) ∧ Rl K (upd H p u) (μ ++ [p]) (h ++ [io]) ∧ Rp K (upd H p u) (μ ++ [p]) (.ref p) (.ref h.length) := by
  have m : Mn K H μ (upd H p u) (μ ++ [p]) := ⟨fun _ _ z => sqT_upd_mut z hp ho.1 ho.2, fun _ _ z => frzL_upd_mut z hp ho.2, fun n a z => by
    rw [List.getElem?_append_left (List.getElem?_eq_some_iff.mp z).1]
    exact z, fun a b y z => by rw [upd_ne (ne_of z hp fun e => ho.2 _ _ e.symm)]; exact z⟩
  refine ⟨⟨⟨fun a xs z => m.tup a xs (x.tup a xs z), fun a xs z => m.frz a xs (x.frz a xs z), fun n a z => m.pre n a (x.pre n a z), fun a b y z => m.fro a b y (x.fro a b y z)⟩, fun a o' z g => ?_, fun a z g => ?_⟩, ⟨?_, by rw [List.length_append, List.length_append, rl.len]; rfl, fun n a o' e1 e2 => ?_⟩, .ref ?_⟩
  · rw [upd_ne (ne_of_none z hp1)]
    exact x.keep a o' z g
  · rcases List.mem_append.mp z with z | z
    · exact x.fresh a z g
    · rw [List.mem_singleton.mp z]
      exact hp1
  · rw [List.nodup_append]
    exact ⟨rl.nd, by simp, fun a ha b hb z => np (by rw [← List.mem_singleton.mp hb, ← z]; exact ha)⟩
  · by_cases hn : n < μ.length
    · rw [List.getElem?_append_left hn] at e1
      rw [List.getElem?_append_left (by rw [← rl.len]; exact hn)] at e2
      refine (rl.ok n a o' e1 e2).mn m (upd_ne fun z => np ?_)
      rw [← z]
      exact List.mem_of_getElem? e1
    · rw [List.getElem?_append_right (by omega)] at e1
      rw [List.getElem?_append_right (by rw [← rl.len]; omega), ← rl.len] at e2
      have hz : n - μ.length = 0 := by
        have := (List.getElem?_eq_some_iff.mp e1).1
        rw [List.length_singleton] at this
        omega
      rw [hz] at e1 e2
      cases e1
      cases e2
      exact q m upd_same
  · rw [← rl.len, List.getElem?_append_right (Nat.le_refl _), Nat.sub_self]
    rfl
theorem PE.or {e : Expr} {t t' : TE} (h : PE X e t) (h' : PE X e t') : PE X e (fun σ H Q => t σ H Q ∨ t' σ H Q) := ⟨fun pins s σ H Q I q => q.elim (h.run pins s σ H Q I) (h'.run pins s σ H Q I)⟩
/-- {k: v} with a tuple as the key -/
def tDispN (X : Cx) (trs : List (TE × TE)) : TE := fun σ H Q => ∀ p, H p = none → tPairs trs σ (upd H p (.dK [])) fun ps H2 => H2 p = some (.dK []) ∧ ∃ k b v, ps = [(V.ref b, v)] ∧ NkR X.K H2 k (.ref b) ∧ k.depth ≤ 8 ∧ Q (.ref p) (upd H2 p (DN X.prog X.w p [(k, b, v)]))
theorem pe_dispN {keys : List (Option Expr)} {values : List Expr} {trs : List (TE × TE)} (hu : X.A.units + 64 < cLine) (h : PPs X pos keys values trs) (hall : keys.all (·.isSome) = true) (hl : keys.length = values.length) (h0 : keys ≠ []) (h15 : keys.length ≤ 15) : PE X (.Dict keys values pos) (tDispN X trs) := by
  refine ⟨fun pins s σ H Q I q => ?_⟩
  have hn := I.hok.fresh (Nat.le_refl s.heap.objs.size)
  have I1 := I.laid (a := s.heap.objs.size) (o := .dK []) (h' := s.heap.push { cls := .type "dict", data := .dict #[] }) (t' := s.toks) (fun _ _ q => Heap.get?_push_of_some _ q) (Nat.le_refl _) (dk_empty s.heap I.big)
  have hnl := pairTrees_length keys values X.env pos hall hl
  rw [arm_eval_Dict, zip_pairTrees keys values X.env pos hall hl, dictDisplay_pairs _ (fun he => by
    rw [he] at hnl
    exact h0 (List.length_eq_zero_iff.mp hnl.symm)) (by rw [hnl]; omega)]
  have ro : (nestedKind X.prog X.w).room X.A := by
    show X.A.units + 8 < cLine
    omega
  refine wpAny_bind (wpAny_standAt (wpAny_bind (wpAny_subDictH (knd := nestedKind X.prog X.w) (Q := fun d s' => wpAny (model X.prog X.w) X.A (pure (Value.ref d)) (EP X pins σ Q) X.xe s') ro (by rw [hnl]; exact h15)
    (thn (h.run pins _ σ _ _ I1 (q _ hn)) fun ws s2 ⟨ps, H2, I2, rel, e, k, b, v, ep, hk, hd, q2⟩ => ?_))))
  subst ep
  cases rel with
  | @cons _ w2 _ _ r t =>
    cases t
    obtain ⟨u1, u2⟩ := w2
    cases (show u1 = Value.ref b from r.1)
    obtain ⟨_, hs, xs, r0, dd⟩ := NDic.dict (X := X) (kws := []) I2 (.inr ⟨rfl, .inl e⟩)
    cases r0
    refine ⟨[(k, b, u2)], ⟨rfl, rfl, ⟨NkR.is I2 hk rfl, hd⟩, trivial⟩, dd, fun h' tk dd' sb => wpAny_pure ⟨.ref s.heap.objs.size, _, ?_, rfl, q2⟩⟩
    have he : ∃ q, h'.get? s.heap.objs.size = some q := let ⟨q, _, _, hq, _⟩ := dd'; ⟨q, hq⟩
    refine d_write I2 (by rw [e]; exact True.intro) sb he (DN_new (by show 1 ≤ sizeLine; decide) hs (xs := [(k, b, u2)]) (.cons ⟨rfl, rfl, r.2⟩ .nil) dd')
theorem qe_dic {k : Nat} (C : Ctx X W k) {ks : List (Option Expr)} {vs : List Expr} {m : MP} (hp : QP X W pos ks vs m) (hall : ks.all (·.isSome) = true := by rfl) (hl : ks.length = vs.length := by rfl) (h0 : ks ≠ [] := by exact fun z => nomatch z) (h15 : ks.length ≤ 15 := by decide) : QE X W (.Dict ks vs pos) (mDic m) := by
  obtain ⟨trs, h1, h2⟩ := hp
  refine PE.imp (PE.or (pe_disp h1 hall hl h0 h15) (pe_dispN (units_of C) h1 hall hl h0 h15)) fun σ H Q ⟨μ, h, env, rl, er, po⟩ => ?_
  have key : ∀ (R : Addr → List (V × V) → Hp → Prop), (∀ p, H p = none → Po X.mg X.kx W (Rpp X.kx) σ (upd H p (.dK [])) μ (m env h) (R p)) → ∀ p, H p = none → tPairs trs σ (upd H p (.dK [])) (R p) := fun R hR p hp => h2 σ _ _ ⟨μ, h, env, rl.new hp, er.mono (Ext.new hp), hR p hp⟩
  have hx : ∀ z h5, m env h = .exc z h5 → (∀ (R : Addr → List (V × V) → Hp → Prop) p, H p = none → Po X.mg X.kx W (Rpp X.kx) σ (upd H p (.dK [])) μ (m env h) (R p)) := fun z h5 e R p hp => by
    rw [e]
    unfold mDic at po
    rw [e] at po
    intro cls dd μ3 H3 x3 rl3 xr
    exact po cls dd μ3 H3 ((Ext.new hp).trans x3) rl3 xr
  cases e : m env h with
  | exc z h5 => exact .inl (key _ (hx z h5 e _))
  | stk =>
    unfold mDic at po
    rw [e] at po
    exact po.elim
  | val ps h5 =>
    unfold mDic at po
    rw [e] at po
    simp only [Res.bind] at po
    have base : ∀ p, H p = none → ∀ (vs : List (V × V)) μ3 H3, Ext X.kx (upd H p (.dK [])) μ H3 μ3 → H3 p = some (.dK []) ∧ p ∉ μ3 := fun p hp vs μ3 H3 x3 => by
      have np := rl.out hp
      refine ⟨x3.keep p _ upd_same np, fun z => ?_⟩
      have := x3.fresh p z np
      rw [upd_same] at this
      cases this
    split at po
    · rename_i kvs z1
      split at po
      · rename_i kvs' z2
        unfold dicNew at z2
        split at z2
        · rename_i z3
          cases z2
          rw [Bool.and_eq_true] at z3
          refine .inl (key _ fun p hp => ?_)
          rw [e]
          intro vs μ3 H3 x3 rl3 rp3
          obtain ⟨hk, np3⟩ := base p hp vs μ3 H3 x3
          obtain ⟨kws, e1, e2⟩ := keysD_ok rp3 z1 z3.1
          refine ⟨hk, kws, e1, by rw [e2.len]; exact of_decide_eq_true z3.2, ?_⟩
          obtain ⟨f1, f2, f3⟩ := adopt (u := .dK (mergeK [] kws)) (io := .dic false (mergeD [] kvs)) ((Ext.new (o := .dK []) hp).trans x3) rl3 hp hk np3 ⟨(fun _ z => nomatch z), (fun _ _ z => nomatch z)⟩ (fun {H' μ'} m e => by
            have r := mergeD_ok (kws := []) (kvs := []) (⟨e2.1, e2.2.mn m⟩ : Kr X.kx H' μ' kws kvs) ⟨rfl, .nil⟩
            exact .inl ⟨_, e, r.1, r.2⟩)
          exact po _ _ _ f1 f2 f3
        · split at z2
          · rename_i k v _
            split at z2
            · rename_i z4
              cases z2
              refine .inr (key _ fun p hp => ?_)
              rw [e]
              intro vs μ3 H3 x3 rl3 rp3
              obtain ⟨hk, np3⟩ := base p hp vs μ3 H3 x3
              have e3 : ∃ kd, ps = [(kd, v)] ∧ keyD kd = some k := by
                cases ps with
                | nil => cases z1
                | cons q r =>
                  obtain ⟨q1, q2⟩ := q
                  unfold keysD at z1
                  split at z1
                  · rename_i j s y1 y2
                    cases z1
                    cases r with
                    | nil => exact ⟨q1, rfl, y1⟩
                    | cons q' r' =>
                      obtain ⟨q3, q4⟩ := q'
                      unfold keysD at y2
                      split at y2 <;> cases y2
                  · cases z1
              obtain ⟨kd, rfl, ek⟩ := e3
              obtain ⟨r1, r2⟩ := rp3
              cases vs with
              | nil => cases r1
              | cons vp vr =>
                rw [List.map_cons, List.map_cons] at r1 r2
                cases r1 with
                | cons a1 b1 =>
                  cases r2 with
                  | cons a2 b2 =>
                    have hvr : vr = [] := by
                      have := b1.length
                      rw [List.length_map] at this
                      exact List.eq_nil_of_length_eq_zero this
                    subst hvr
                    obtain ⟨vx, vy⟩ := vp
                    have rk := keyD_ok a1 ek
                    obtain ⟨b, eb, hd⟩ := isT_ref z4 rk
                    have eb' : vx = V.ref b := eb
                    subst eb'
                    refine ⟨hk, nk k, b, vy, rfl, nkR_of rk, hd, ?_⟩
                    obtain ⟨f1, f2, f3⟩ := adopt (u := DN X.prog X.w p [(nk k, b, vy)]) (io := .dic false [(k, v)]) ((Ext.new (o := .dK []) hp).trans x3) rl3 hp hk np3 ⟨(fun _ z => nomatch z), (fun _ _ z => nomatch z)⟩ (fun {H' μ'} m e =>
                      .inr ⟨_, e, (fun z => nomatch z), .cons ⟨rfl, hd, rk.mn m, a2.mn m⟩ .nil⟩)
                    exact po _ _ _ f1 f2 f3
            · cases z2
          · cases z2
      · exact po.elim
    · exact po.elim
/-! ### methods of built-in types -/
/-- the type of what has methods: no dict -/
def tyM (h : IH) (d : D) : Option String := match tyD h d with
  | some T => if (T == "dict") = true then none else some T
  | none => none
def mMeth (T : String) (f : D → List D → IH → Res D) (o : ME) (m : MA) : ME := fun env h => (o env h).bind fun d h1 => if tyM h1 d = some T then (m env h1).bind fun ds h2 => f d ds h2 else .stk
def SdM (X : Cx) (r : V → List V → Hp → VK → Prop) (f : D → List D → IH → Res D) : Prop := ∀ (W : WX) (σ : L2.St) (x : V) (xs : List V) (a : D) (as : List D) (H : Hp) (μ : List Addr) (h : IH) (Q : VK), Rl X.kx H μ h → Rp X.kx H μ x a → Rps X.kx H μ xs as → Po X.mg X.kx W (Rp X.kx) σ H μ (f a as h) Q → r x xs H Q
theorem tyV_ok {K : KX} {H : Hp} {μ : List Addr} {h : IH} {v : V} {d : D} {T : String} (hT : T = "list" ∨ T = "str" ∨ T = "dict" ∨ T = "int") (rl : Rl K H μ h) (r : Rp K H μ v d) (e0 : tyM h d = some T) : tyV K T v H := by
  obtain ⟨e, nd⟩ : tyD h d = some T ∧ T ≠ "dict" := by
    unfold tyM at e0
    split at e0
    · split at e0
      · cases e0
      · rename_i z1 z2
        cases e0
        exact ⟨z1, fun z => z2 (by rw [z]; rfl)⟩
    · cases e0
  cases r with
  | int i =>
    cases e
    rfl
  | str x =>
    cases e
    rfl
  | fl s q =>
    cases e
    exact .inl ⟨rfl, _, s.sq⟩
  | ref e1 =>
    obtain ⟨o, ho, q⟩ := rl.at e1
    simp only [tyD, ho] at e
    cases o with
    | lst ds =>
      cases e
      obtain ⟨vs, h1, _⟩ := q
      exact .inl ⟨rfl, _, SqL.of h1⟩
    | dic lk ds =>
      simp only at e
      split at e
      · cases e
        exact absurd rfl nd
      · cases e
    | ins c fs => cases e
  | non =>
    cases e
    rcases hT with z | z | z | z <;> exact absurd z (by decide)
  | bl b =>
    cases e
    rcases hT with z | z | z | z <;> exact absurd z (by decide)
  | tup s q =>
    cases e
    rcases hT with z | z | z | z <;> exact absurd z (by decide)
  | op v => cases e
  | gl q => cases e
theorem qe_meth {T id : String} {name : Str} {r : V → List V → Hp → VK → Prop} {f : D → List D → IH → Res D} {o e : Expr} {es : List Expr} {mo : ME} {mr : MA} {apos : Pos} (pa : PlainAttrs T) (slot : Slot T name id) (hty : typeOf (.builtin id) = pure (.type "method_descriptor")) (hm : MtR X id r) (sd : SdM X r f)
    (hT : T = "list" ∨ T = "str" ∨ T = "dict" ∨ T = "int") (ho : QE X W o mo) (ha : QA X W (e :: es) mr) (hbase : attributeBase o name X.env (eval o X.env) = eval o X.env := by rfl)
    (hfew : ((backTo pos (starEach (e :: es) X.env)).all (fun x => !x.1) && (backToKw pos (keywordEach [] X.env)).all (fun x => x.1.isSome)
      && decide ((e :: es).length + ([] : List Keyword).length + (if ([] : List Keyword).isEmpty then 0 else 1) < 30)) = true := by rfl)
    (hline : (apos.endLine == pos.line) = true := by rfl) (hs : starEach (e :: es) X.env = (false, eval e X.env) :: starEach es X.env := by rfl) (hplain : (backTo pos (starEach es X.env)).any (·.1) = false := by rfl) :
    QE X W (.Call (.Attribute o name apos) (e :: es) [] pos) (mMeth T f mo mr) := PE.imp (pe_bm pa slot hty hm ho ha hbase hfew hline hs hplain) fun σ H Q ⟨μ, h, env, rl, er, p⟩ =>
  ⟨μ, h, env, rl, er, Po.then (R := Rp X.kx) p fun d h1 v μ1 H1 x1 rl1 rp1 p1 => by
    split at p1
    · rename_i z
      exact ⟨tyV_ok hT rl1 rp1 z, μ1, h1, env, rl1, er.mono x1, Po.then (R := Rps X.kx) p1 fun ds h2 vs μ2 H2 x2 rl2 rp2 p2 => sd W σ v vs d ds H2 μ2 h2 Q rl2 (rp1.mono x2) rp2 p2⟩
    · exact p1.elim⟩
def pyAppend : D → List D → IH → Res D := fun a as h => match a, as with
  | .ref n, [y] => match lstAt h n with
    | some xs => if xs.length < sizeLine then .val .non (h.set n (.lst (xs ++ [y]))) else .stk
    | none => .stk
  | _, _ => .stk
theorem sd_append : SdM X rAppend pyAppend := by
  intro W σ x xs a as H μ h Q rl ra rs p
  unfold pyAppend at p
  split at p
  · rename_i n y
    split at p
    · rename_i ds z
      split at p
      · rename_i zl
        cases ra with
        | ref e1 =>
          cases rs with
          | cons r1 q1 =>
            cases q1
            obtain ⟨vs, h1, r2⟩ := lstAt_ok rl e1 z
            obtain ⟨x2, rl2⟩ := wr_lst rl e1 h1 (r2.append (.cons r1 .nil))
            exact ⟨_, vs, _, rfl, rfl, h1, by rw [r2.length]; exact zl, p _ _ _ x2 rl2 .non⟩
      · exact p.elim
    · exact p.elim
  · exact p.elim
theorem qe_append {o e : Expr} {mo me : ME} {apos : Pos} (ho : QE X W o mo) (he : QE X W e me) (hbase : attributeBase o "append" X.env (eval o X.env) = eval o X.env := by rfl) (hline : (apos.endLine == pos.line) = true := by rfl) (hs : starEach [e] X.env = (false, eval e X.env) :: starEach [] X.env := by rfl)
    (hfew : ((backTo pos (starEach [e] X.env)).all (fun x => !x.1) && (backToKw pos (keywordEach [] X.env)).all (fun x => x.1.isSome)
      && decide ([e].length + ([] : List Keyword).length + (if ([] : List Keyword).isEmpty then 0 else 1) < 30)) = true := by rfl) : QE X W (.Call (.Attribute o "append" apos) [e] [] pos) (mMeth "list" pyAppend mo (mCons me mNil)) :=
  qe_meth PySem.F.plainAttrs_list PySem.F.slot_list_append PySem.F.type_list_append mt_append sd_append (.inl rfl) ho (qa_cons he qa_nil hs) hbase hfew hline hs

/-! ### what is walked -/
def signsD (z : Str) : List D := z.cps.toList.map fun c => .str ⟨#[c]⟩
def srcD (d : D) (h : IH) : Res Src := match d with
  | .tup ds => .val (.st ds) h
  | .fl ds => .val (.st ds) h
  | .str z => .val (.st (signsD z)) h
  | .ref n => match lstAt h n with
    | some _ => .val (.lv fun h => lstAt h n) h
    | none => .stk
  | _ => .stk
def mIt (a : ME) : MI := fun env h => (a env h).bind srcD
theorem JOk.tup {K : KX} {H : Hp} {μ : List Addr} {a : Addr} {vs : List V} {ds : List D} (s : SqT K H a vs) (q : Rps K H μ vs ds) (hinj : ∀ H' xs, SqT K H' a vs → SqT K H' a xs → True) : JOk K H μ (Itt K a) (.st ds) := by
  intro H1 μ1 h1 es x rl e
  cases e
  have s1 := x.tup _ _ s
  have q1 := q.mn x
  refine ⟨fun i d hi => ?_, fun i hi => ⟨vs, s1, by rw [q.length]; exact Nat.le_of_eq (show i = ds.length from hi).symm⟩⟩
  obtain ⟨v, h2, h3⟩ := q1.get hi
  refine ⟨⟨vs, v, s1, h2⟩, fun y H' hy => ?_⟩
  obtain ⟨rfl, hy⟩ := hy
  have := hy vs s1
  rw [h2] at this
  cases this
  exact ⟨.refl, rl, h3⟩
theorem JOk.frz {K : KX} {H : Hp} {μ : List Addr} {a : Addr} {vs : List V} {ds : List D} (s : FrzL K H a vs) (q : Rps K H μ vs ds) : JOk K H μ (Itl K a) (.st ds) := by
  intro H1 μ1 h1 es x rl e
  cases e
  have s1 := (x.frz _ _ s).sq
  have q1 := q.mn x
  refine ⟨fun i d hi => ?_, fun i hi => ⟨vs, s1, by rw [q.length]; exact Nat.le_of_eq (show i = ds.length from hi).symm⟩⟩
  obtain ⟨v, h2, h3⟩ := q1.get hi
  refine ⟨⟨vs, v, s1, h2⟩, fun y H' hy => ?_⟩
  obtain ⟨rfl, hy⟩ := hy
  have := hy vs s1
  rw [h2] at this
  cases this
  exact ⟨.refl, rl, h3⟩
theorem JOk.lst {K : KX} {H : Hp} {μ : List Addr} {a : Addr} {n : Nat} (s : μ[n]? = some a) : JOk K H μ (Itl K a) (.lv fun h => lstAt h n) := by
  intro H1 μ1 h1 es x rl e
  have e1 := x.pre _ _ s
  obtain ⟨vs, h9, q1⟩ := lstAt_ok rl e1 e
  have s1 : SqL K H1 a vs := SqL.of h9
  refine ⟨fun i d hi => ?_, fun i hi => ⟨vs, s1, by rw [q1.length]; exact hi⟩⟩
  obtain ⟨v, h2, h3⟩ := q1.get hi
  refine ⟨⟨vs, v, s1, h2⟩, fun y H' hy => ?_⟩
  obtain ⟨rfl, hy⟩ := hy
  have := hy vs s1
  rw [h2] at this
  cases this
  exact ⟨.refl, rl, h3⟩
theorem JOk.str {K : KX} {H : Hp} {μ : List Addr} {z : Str} : JOk K H μ (Its z) (.st (signsD z)) := by
  intro H1 μ1 h1 es x rl e
  cases e
  refine ⟨fun i d hi => ?_, fun i hi => ?_⟩
  · unfold signsD at hi
    rw [List.getElem?_map] at hi
    obtain ⟨c, h2, rfl⟩ := Option.map_eq_some_iff.mp hi
    have h3 : z.cps[i]? = some c := by simpa using h2
    have h4 : i < z.cps.size := (Array.getElem?_eq_some_iff.mp h3).1
    refine ⟨h4, fun y H' hy => ?_⟩
    obtain ⟨rfl, c', e1, rfl⟩ := hy
    rw [h3] at e1
    cases e1
    exact ⟨.refl, rl, .str _⟩
  · unfold signsD at hi
    have hi2 : i = (List.map (fun c => D.str ⟨#[c]⟩) z.cps.toList).length := hi
    rw [List.length_map, Array.length_toList] at hi2
    exact Nat.le_of_eq hi2.symm
theorem qi_val {tg : Expr} (ha : QE X W a ma) : QI X W tg a (mIt ma) := PI.imp (PI.or (pi_list ha) (PI.or (pi_tup ha) (pi_str ha))) fun σ H R ⟨μ, h, env, rl, er, p⟩ => by
  unfold mIt at p
  cases z : ma env h with
  | exc y h1 =>
    rw [z] at p
    exact .inl ⟨μ, h, env, rl, er, by rw [z]; exact p⟩
  | stk =>
    rw [z] at p
    exact p.elim
  | val d h1 =>
    rw [z] at p
    have p' : Po X.mg X.kx W (JOk X.kx) σ H μ (srcD d h1) R := p
    cases d with
    | tup ds =>
      refine .inr (.inl ⟨μ, h, env, rl, er, ?_⟩)
      rw [z]
      intro v μ1 H1 x1 rl1 r1
      cases r1 with
      | tup s q => exact ⟨_, rfl, ⟨_, s⟩, p' _ μ1 H1 x1 rl1 (JOk.tup s q fun _ _ _ _ => trivial)⟩
    | fl ds =>
      refine .inl ⟨μ, h, env, rl, er, ?_⟩
      rw [z]
      intro v μ1 H1 x1 rl1 r1
      cases r1 with
      | fl s q => exact ⟨_, rfl, ⟨_, s.sq⟩, p' _ μ1 H1 x1 rl1 (JOk.frz s q)⟩
    | str x =>
      refine .inr (.inr ⟨μ, h, env, rl, er, ?_⟩)
      rw [z]
      intro v μ1 H1 x1 rl1 r1
      cases r1
      exact ⟨x, rfl, p' _ μ1 H1 x1 rl1 JOk.str⟩
    | ref n =>
      refine .inl ⟨μ, h, env, rl, er, ?_⟩
      rw [z]
      intro v μ1 H1 x1 rl1 r1
      simp only [srcD] at p'
      split at p'
      · rename_i ds z2
        cases r1 with
        | ref e1 =>
          obtain ⟨vs, h2, _⟩ := lstAt_ok rl1 e1 z2
          exact ⟨_, rfl, ⟨vs, SqL.of h2⟩, p' _ μ1 H1 x1 rl1 (JOk.lst e1)⟩
      · exact p'.elim
    | _ => exact p'.elim
def rangeD (lo : Int) (n : Nat) : List D := (List.range n).map fun i => .int (lo + (i : Nat))
theorem rangeD_get {lo : Int} {n i : Nat} {d : D} (h : (rangeD lo n)[i]? = some d) : i < n ∧ d = .int (lo + (i : Nat)) := by
  unfold rangeD at h
  rw [List.getElem?_map] at h
  obtain ⟨j, h1, rfl⟩ := Option.map_eq_some_iff.mp h
  have h2 : i < n := by
    have := (List.getElem?_eq_some_iff.mp h1).1
    rw [List.length_range] at this
    exact this
  rw [List.getElem?_range h2] at h1
  cases h1
  exact ⟨h2, rfl⟩
theorem JOk.rng {K : KX} {H : Hp} {μ : List Addr} {lo : Int} {n : Nat} : JOk K H μ (Itr lo n) (.st (rangeD lo n)) := by
  intro H1 μ1 h1 es x rl e
  cases e
  refine ⟨fun i d hi => ?_, fun i hi => ?_⟩
  · obtain ⟨h2, rfl⟩ := rangeD_get hi
    refine ⟨h2, fun y H' hy => ?_⟩
    obtain ⟨rfl, rfl⟩ := hy
    exact ⟨.refl, rl, .int _⟩
  · unfold rangeD at hi
    have hi2 : i = (List.map (fun i : Nat => D.int (lo + (i : Int))) (List.range n)).length := hi
    rw [List.length_map, List.length_range] at hi2
    exact Nat.le_of_eq hi2.symm
def mRng1 (a : ME) : MI := fun env h => (a env h).bind fun d h1 => match d with
  | .int j => .val (.st (rangeD 0 j.toNat)) h1
  | _ => .stk
def mRng2 (a b : ME) : MI := fun env h => (a env h).bind fun x h1 => (b env h1).bind fun y h2 => match x, y with
  | .int i, .int j => .val (.st (rangeD i (j - i).toNat)) h2
  | _, _ => .stk
theorem qi_range1 {tg : Expr} {p : Pos} (hm : X.mg "range" = none) (ha : QE X W a ma) (hg : Gl X "range" := by rfl) (hs : starEach [a] X.env = [(false, eval a X.env)] := by rfl) : QI X W tg (.Call (.Name "range" p) [a] [] pos) (mRng1 ma) :=
  PI.imp (pi_rg1 hg hm (pa_cons ha pa_nil hs) hs) fun σ H R ⟨μ, h, env, rl, er, p⟩ => ⟨μ, h, env, rl, er, Po.then (R := Rp X.kx) p fun d h1 v μ1 H1 x1 rl1 rp1 p1 => by
    split at p1
    · cases rp1
      exact ⟨_, rfl, p1 _ _ _ .refl rl1 JOk.rng⟩
    · exact p1.elim⟩
theorem qi_range2 {tg : Expr} {p : Pos} (hm : X.mg "range" = none) (ha : QE X W a ma) (hb : QE X W b mb) (hg : Gl X "range" := by rfl) (hs : starEach [a, b] X.env = [(false, eval a X.env), (false, eval b X.env)] := by rfl) (hs2 : starEach [b] X.env = [(false, eval b X.env)] := by rfl) :
    QI X W tg (.Call (.Name "range" p) [a, b] [] pos) (mRng2 ma mb) :=
  PI.imp (pi_rg2 hg hm (pa_cons ha (pa_cons hb pa_nil hs2) (by rw [hs, hs2])) hs hs2) fun σ H R ⟨μ, h, env, rl, er, p⟩ => ⟨μ, h, env, rl, er, Po.then (R := Rp X.kx) p fun d h1 v μ1 H1 x1 rl1 rp1 p1 => ⟨μ1, h1, env, rl1, er.mono x1, Po.then (R := Rp X.kx) p1 fun e h2 v2 μ2 H2 x2 rl2 rp2 p2 => by
    split at p2
    · have rp1' := rp1.mono x2
      cases rp1'
      cases rp2
      exact ⟨_, _, rfl, p2 _ _ _ .refl rl2 JOk.rng⟩
    · exact p2.elim⟩⟩
def enumD (i : Nat) : List D → List D
  | [] => []
  | d :: ds => .tup [.int (i : Nat), d] :: enumD (i + 1) ds
theorem enumD_length : ∀ (ds : List D) (i : Nat), (enumD i ds).length = ds.length
  | [], _ => rfl
  | d :: ds, i => by
    unfold enumD
    rw [List.length_cons, List.length_cons, enumD_length ds]
theorem enumD_get : ∀ {ds : List D} {i k : Nat} {e : D}, (enumD k ds)[i]? = some e → ∃ d, ds[i]? = some d ∧ e = .tup [.int ((k + i : Nat) : Int), d]
  | [], i, k, e, h => by
    unfold enumD at h
    simp at h
  | d :: ds, 0, k, e, h => by
    unfold enumD at h
    simp at h
    subst h
    exact ⟨d, rfl, by rw [Nat.add_zero]⟩
  | d :: ds, i + 1, k, e, h => by
    unfold enumD at h
    obtain ⟨d', h1, h2⟩ := enumD_get (ds := ds) (i := i) (k := k + 1) (e := e) (by simpa using h)
    exact ⟨d', by simpa using h1, by rw [h2, show k + 1 + i = k + (i + 1) by omega]⟩
def enSrc (d : D) (h : IH) : Res Src := match d with
  | .tup ds => .val (.st (enumD 0 ds)) h
  | .str z => .val (.st (enumD 0 (signsD z))) h
  | .fl ds => .val (.st (enumD 0 ds)) h
  | .ref n => match lstAt h n with
    | some _ => .val (.lv fun h => (lstAt h n).map (enumD 0)) h
    | none => .stk
  | _ => .stk
def mEn (a : ME) : MI := fun env h => (a env h).bind enSrc
theorem new_pair {K : KX} {H : Hp} {μ : List Addr} {h : IH} {T : Addr} {i : Nat} {v : V} {d : D} (rl : Rl K H μ h) (hT : H T = none) (r : Rp K H μ v d) : Ext K H μ (upd H T (.tup [.int (i : Nat), v])) μ ∧ Rl K (upd H T (.tup [.int (i : Nat), v])) μ h ∧ Rp K (upd H T (.tup [.int (i : Nat), v])) μ (.ref T) (.tup [.int ((0 + i : Nat) : Int), d]) := by
  rw [Nat.zero_add]
  exact new_tup rl (.cons (.int _) (.cons r .nil)) hT
theorem qi_enum {elts : List Expr} {kk : Nat} {tpos p : Pos} (hm : X.mg "enumerate" = none) (ha : QE X W a ma) (hg : Gl X "enumerate" := by rfl) (hs : starEach [a] X.env = [(false, eval a X.env)] := by rfl) : QI X W (.Tuple elts kk tpos) (.Call (.Name "enumerate" p) [a] [] pos) (mEn ma) :=
  PI.imp (PI.or (pi_enum hg hm (pa_cons ha pa_nil hs) hs) (PI.or (pi_enT hg hm (pa_cons ha pa_nil hs) hs) (pi_enS hg hm (pa_cons ha pa_nil hs) hs))) fun σ H R ⟨μ, h, env, rl, er, p⟩ => by
  unfold mEn at p
  cases z : ma env h with
  | exc y h1 =>
    rw [z] at p
    exact .inl ⟨μ, h, env, rl, er, by rw [z]; exact p⟩
  | stk =>
    rw [z] at p
    exact p.elim
  | val d h1 =>
    rw [z] at p
    have p' : Po X.mg X.kx W (JOk X.kx) σ H μ (enSrc d h1) R := p
    cases d with
    | tup ds =>
      refine .inr (.inl ⟨μ, h, env, rl, er, ?_⟩)
      rw [z]
      intro v μ1 H1 x1 rl1 r1
      cases r1 with
      | tup s q =>
        refine ⟨_, _, rfl, s, p' _ μ1 H1 x1 rl1 ?_⟩
        intro H2 μ2 h2 es x rl2 e
        cases e
        have s2 := x.tup _ _ s
        have q2 := q.mn x
        refine ⟨fun i d hi => ?_, fun i hi => ?_⟩
        · obtain ⟨d', e1, rfl⟩ := enumD_get hi
          obtain ⟨v, e2, e3⟩ := q2.get e1
          refine ⟨⟨_, v, s2, e2⟩, fun y H' hy => ?_⟩
          obtain ⟨T, w, rfl, hT, rfl, hw⟩ := hy
          have := hw _ s2
          rw [e2] at this
          cases this
          exact new_pair rl2 hT e3
        · refine ⟨_, s2, ?_⟩
          have hi2 : i = (enumD 0 ds).length := hi
          rw [enumD_length] at hi2
          rw [q.length]
          exact hi2.symm
    | fl ds =>
      refine .inl ⟨μ, h, env, rl, er, ?_⟩
      rw [z]
      intro v μ1 H1 x1 rl1 r1
      cases r1 with
      | fl s q =>
        refine ⟨_, _, rfl, s.sq, p' _ μ1 H1 x1 rl1 ?_⟩
        intro H2 μ2 h2 es x rl2 e
        cases e
        have s2 := (x.frz _ _ s).sq
        have q2 := q.mn x
        refine ⟨fun i d hi => ?_, fun i hi => ⟨_, s2, by rw [q.length, ← enumD_length _ 0]; exact Nat.le_of_eq (show i = (enumD 0 ds).length from hi).symm⟩⟩
        obtain ⟨d', e1, rfl⟩ := enumD_get hi
        obtain ⟨v, e2, e3⟩ := q2.get e1
        refine ⟨⟨_, v, s2, e2⟩, fun y H' hy => ?_⟩
        obtain ⟨T, w, rfl, hT, rfl, hw⟩ := hy
        have := hw _ s2
        rw [e2] at this
        cases this
        exact new_pair rl2 hT e3
    | str x =>
      refine .inr (.inr ⟨μ, h, env, rl, er, ?_⟩)
      rw [z]
      intro v μ1 H1 x1 rl1 r1
      cases r1
      refine ⟨x, rfl, p' _ μ1 H1 x1 rl1 ?_⟩
      intro H2 μ2 h2 es x2 rl2 e
      cases e
      refine ⟨fun i d hi => ?_, fun i hi => ?_⟩
      · obtain ⟨d', e1, rfl⟩ := enumD_get hi
        unfold signsD at e1
        rw [List.getElem?_map] at e1
        obtain ⟨c, e2, rfl⟩ := Option.map_eq_some_iff.mp e1
        have e3 : x.cps[i]? = some c := by simpa using e2
        have h4 : i < x.cps.size := (Array.getElem?_eq_some_iff.mp e3).1
        refine ⟨h4, fun y H' hy => ?_⟩
        obtain ⟨T, w, rfl, hT, rfl, hw⟩ := hy
        rw [e3] at hw
        cases hw
        exact new_pair rl2 hT (.str _)
      · have hi2 : i = (enumD 0 (signsD x)).length := hi
        rw [enumD_length] at hi2
        unfold signsD at hi2
        rw [List.length_map, Array.length_toList] at hi2
        exact hi2
    | ref n =>
      refine .inl ⟨μ, h, env, rl, er, ?_⟩
      rw [z]
      intro v μ1 H1 x1 rl1 r1
      simp only [enSrc] at p'
      split at p'
      · rename_i ds z2
        cases r1 with
        | ref e1 =>
          obtain ⟨vs, h2, _⟩ := lstAt_ok rl1 e1 z2
          refine ⟨_, _, rfl, SqL.of h2, p' _ μ1 H1 x1 rl1 ?_⟩
          intro H2 μ2 h2 es x rl2 e
          obtain ⟨fs, e3, rfl⟩ := Option.map_eq_some_iff.mp e
          obtain ⟨ws, h3, q2⟩ := lstAt_ok rl2 (x.pre _ _ e1) e3
          have s2 : SqL X.K H2 _ ws := SqL.of h3
          refine ⟨fun i d hi => ?_, fun i hi => ⟨_, s2, by rw [q2.length, ← enumD_length _ 0]; exact hi⟩⟩
          obtain ⟨d', e1, rfl⟩ := enumD_get hi
          obtain ⟨v, e2, e3⟩ := q2.get e1
          refine ⟨⟨_, v, s2, e2⟩, fun y H' hy => ?_⟩
          obtain ⟨T, w, rfl, hT, rfl, hw⟩ := hy
          have := hw _ s2
          rw [e2] at this
          cases this
          exact new_pair rl2 hT e3
      · exact p'.elim
    | _ => exact p'.elim
end
end DD
set_option Elab.async false
set_option linter.all false
set_option maxRecDepth 100000
namespace DD
open PySem PySem.Spec L2 PyProof.Rows

theorem lawG {P : Program} {w : World} {K : PySem.W.Frag} {mg mb : MG} {k : Nat} {fa a : Addr} {fd : FuncData} {x : Str} {sp : Sp} {t : Shared} {vs : List Value} {ns : List Int}
    (KI : K.In t.heap) (gn : t.heap.Ns mainGlobals mg) (bn : t.heap.Ns builtinsNs mb) (bb : ∀ y : Str, y ≠ "__name__" → mb y = bootBuiltins y) (nl : t.heap.NoLimit) (g0 : t.gens = #[])
    (ha : t.heap.get? a = some { cls := .type "list", data := .seq vs.toArray }) (hi : IntsAre vs ns) (hl : ns.length ≤ sizeLine) (ro : Room k callerA)
    (F : ∀ base : Heap, K.In base → base.Ns mainGlobals mg → FnG P w K mg base k fa fd [x] sp) (bi : ∀ (s : Shared) (u : Value), BindsTo s fd ⟨[u], []⟩ [(x, u)])
    (hs : ∀ H : Hp, Only H → SqL K H a (ns.map V.int) → sp [.ref a] H (fun v _ => v = .bl true) fun _ _ _ => False) :
    codeAny (model P w) callerA (.call (.ref fa) ⟨[.ref a], []⟩) (fun r t' => r = .ok (.ret (.bool true)) ∧ OldK t.heap t'.heap ∧ t'.os = t.os ∧ AllBare t'.gens) t := by
  have rv := vals_ints hi
  have lv := hi.length
  have main : ∀ H : Hp, Only H → SqL K H a (ns.map V.int) → HOk P w H t.heap → (∀ b, H b ≠ none → b = a) → (H a ≠ none → K.lookup a = none) →
      codeAny (model P w) callerA (.call (.ref fa) ⟨[.ref a], []⟩) (fun r t' => r = .ok (.ret (.bool true)) ∧ OldK t.heap t'.heap ∧ t'.os = t.os ∧ AllBare t'.gens) t := by
    intro H oH sH hk oA kA
    have noD : ∀ {b : Addr} {o : Obj} {es : Array DictEntry} {ep : Nat}, t.heap.get? b = some o → o.data = .dict es ep → H b = none := fun {b o es ep} e d => by
      cases q : H b with
      | none => rfl
      | some u =>
        have z : b = a := oA b (by rw [q]; simp)
        subst z
        rw [ha] at e
        cases e
        have d2 : Data.seq vs.toArray _ = Data.dict es ep := d
        cases d2
    have nk : ∀ {b : Addr} {m : Str → Option Value}, t.heap.Ns b m → (hidT t.heap H).Ns b m := fun {b m} ⟨o, es, ep, e, d, r⟩ => ⟨o, es, ep, hidT_get e (noD e d), d, r⟩
    have kb : K.In (hidT t.heap H) := fun b o e => hidT_get (KI b o e) (by
      cases q : H b with
      | none => rfl
      | some u =>
        have z : b = a := oA b (by rw [q]; simp)
        subst z
        rw [kA (by rw [q]; simp)] at e
        cases e)
    have mo : Mod K mg (hidT t.heap H) := ⟨kb, nk gn, ⟨mb, nk bn, bb⟩, let ⟨mc, z1, z2⟩ := nl; ⟨mc, nk z1, z2⟩⟩
    have en : Env0 P w K mg (hidT t.heap H) callerA [] t H := ⟨rfl, mo, fun b o e => of_hidT e, Nat.le_of_eq (hidT_size _ _), trivial, fun b z => absurd (show b ∈ ([] : List Addr) from z) (by simp), hk, .of_eq g0⟩
    refine codeAny_mono ((F _ kb (nk gn)).run callerA [] t H ⟨[.ref a], []⟩ [.ref a] [.ref a] _ _ rfl ro en (bi t (.ref a)) (.cons rfl .nil) (hs H oH sH)) fun r t' hz => ?_
    cases r with
    | error e =>
      obtain ⟨_, _, _, _, _, _, _, _, _, _, _, _, z⟩ := hz
      exact z.elim
    | ok fl =>
      cases fl with
      | next => exact hz.elim
      | brk => exact hz.elim
      | cont => exact hz.elim
      | ret u =>
        obtain ⟨v, H2, os, bare, un, hk2, r2, q⟩ := hz
        have q2 : v = .bl true := q
        subst q2
        obtain rfl : u = Value.bool true := r2
        refine ⟨rfl, OldK.of_keep fun b o e => ?_, os, bare⟩
        cases q : H b with
        | none => exact un.keep b o e q (by intro z; exact absurd (show b ∈ ([] : List Addr) from z) (by simp)) (by simp)
        | some u =>
          rcases oH b with z | ⟨ob, xs, z⟩
          · rw [q] at z
            cases z
          · have z2 := un.frzs b ob _ z
            obtain ⟨e1, _⟩ := hk b _ z
            obtain ⟨e2, _⟩ := hk2 b _ z2
            rw [e] at e1
            cases e1
            exact e2
  cases kz : K.lookup a with
  | some o =>
    have e := KI a o kz
    rw [ha] at e
    cases e
    refine main (fun _ => none) (fun _ => .inl rfl) (.inr ⟨_, vs.toArray, _, kz, rfl, rfl, rfl, by rw [List.size_toArray, lv]; exact hl, by simpa using rv⟩) (fun b u z => ?_) (fun b z => absurd rfl z) fun z => absurd rfl z
    have z2 : (none : Option HO) = some u := z
    cases z2
  | none =>
    refine main (fun b => if b = a then some (.frz { cls := .type "list", data := .seq vs.toArray } (.lst (ns.map V.int))) else none) (fun b => ?_) (.inl (.inr ⟨{ cls := .type "list", data := .seq vs.toArray }, if_pos rfl⟩)) (fun b u z => ?_) (fun b z => ?_) fun _ => kz
    · by_cases hb : b = a
      · exact .inr ⟨_, _, if_pos hb⟩
      · exact .inl (if_neg hb)
    · by_cases hb : b = a
      · have z2 := (if_pos hb).symm.trans z
        cases z2
        subst hb
        exact ⟨ha, by rw [List.length_map]; exact hl, vs, _, rv, ha⟩
      · have z2 := (if_neg hb).symm.trans z
        cases z2
    · by_cases hb : b = a
      · exact hb
      · exact absurd (if_neg hb) z
/-- the script as data -/
abbrev scr (ns : List Int) : D := .fl (ns.map D.int)
theorem rps_ints {K : KX} {H : Hp} {μ : List Addr} : ∀ ns : List Int, Rps K H μ (ns.map V.int) (ns.map D.int)
  | [] => .nil
  | n :: ns => .cons (.int n) (rps_ints ns)
theorem sp_law {mg : MG} {K : KX} {m : List D → IH → Res D} {H : Hp} {a : Addr} {ns : List Int} (oH : Only H) (s : SqL K H a (ns.map V.int)) (hm : ∃ h', m [scr ns] [] = .val (.bl true) h') : spM mg K m 1 [.ref a] H (fun v _ => v = .bl true) fun _ _ _ => False := by
  have f : FrzL K.F H a (ns.map V.int) := by
    rcases s with (s | s) | s
    · rcases oH a with z | ⟨o, xs, z⟩
      · rw [s] at z
        cases z
      · rw [s] at z
        cases z
    · exact .inl s
    · exact .inr s
  refine ⟨rfl, [], [], [scr ns], ⟨List.nodup_nil, rfl, fun n a o e => by simp at e⟩, .cons (.fl f (rps_ints ns)) .nil, ?_⟩
  obtain ⟨h', e⟩ := hm
  rw [e]
  intro v μ' H' x rl r
  exact r.bl_inv
theorem walk_G {l : PySem.W.OpenLaw} {n k : Nat} {q : Program} {loose : List Str} {XP : MG → Heap → Prop} {YP : World → Heap → Prop} {d : DefRec} {x : Str}
    (hn : l.most = some n) (hn2 : n ≤ sizeLine) (hdf : d.params.defaults = []) (ro : Room k callerA)
    (F : ∀ (w : World) (mg : MG) (fa : Addr) (h : Heap), YP w h → h.Ns mainGlobals mg → mg d.name = some (.ref fa) →
      ∃ (K : PySem.W.Frag) (fd : FuncData) (m : List D → IH → Res D), K.In h ∧ (∀ (s : Shared) (u : Value), BindsTo s fd ⟨[u], []⟩ [(x, u)]) ∧ (∀ ns : List Int, ns.length ≤ n → ∃ h', m [scr ns] [] = .val (.bl true) h') ∧
        ∀ base : Heap, K.In base → base.Ns mainGlobals mg → FnG l.prog w K mg base k fa fd [x] (spM mg ⟨K, w, mg, l.prog⟩ m 1)) :
    PySem.W.WalkO q loose XP YP l.row.toRowW d [] (fun f vs => PySem.call f vs) := by
  refine Att.attach_call hn hdf fun w s0 s1 mg mb fa o pm cd doc a vs ns G Y ho hd hcd hmg hobj hints hlen hg => ?_
  obtain ⟨K, fd, m, KI, hb, hm, hF⟩ := F w mg fa _ Y G.T.g hmg
  exact lawG KI G.T.g G.T.b G.T.builtins G.T.nolimit hg hobj hints (Nat.le_trans hlen hn2) ro hF hb fun H hO hS => sp_law (K := ⟨K, w, mg, l.prog⟩) hO hS (hm ns hlen)
end DD
set_option Elab.async false
set_option linter.all false
set_option maxRecDepth 100000
namespace DD
open PySem PySem.Spec L2 PyProof.Rows
section
variable {P : Program} {w : World} {K : PySem.W.Frag} {mg : MG} {base : Heap} {k : Nat} {x : Str} {st : Stmt} {f : Addr} {fd : FuncData} {N ps : List Str} {m : MS}
theorem FunD.toFun (F : FunD K x x (defArgs st) (defBody st) (defScope st) [] [] f fd) : Fun K x x st f fd := by
  obtain ⟨oc, od, dV, kV, doc, pm, an, cdv, ct, osl, e, lk, hc, hD, hK⟩ := F.ex
  rcases hD with ⟨_, rfl⟩ | ⟨z, _⟩
  · exact ⟨⟨oc, od, kV, doc, pm, an, cdv, ct, osl, e, lk, hc⟩, F.kp⟩
  · exact absurd rfl z
theorem mk_fnG (F : FunD K x x (defArgs st) (defBody st) (defScope st) [] [] f fd) (S : FnScope N ps (defScope st))
    (hb : ∀ (cv : Value) (A : Around) (out : List Env) (s : Shared) (H : Hp) (E : XK), Ctx (cxOf (CX P w) P w K mg base N x (defScope st) f cv A out s H E) (fun c d _ H' => E c d H') k →
      QSs (cxOf (CX P w) P w K mg base N x (defScope st) f cv A out s H E) (fun c d _ H' => E c d H') (defBody st) m) :
    FnG P w K mg base (k + 1) f fd ps (spM mg ⟨K, w, mg, P⟩ (mBody N.length m) ps.length) := fn_ok (FunD.toFun F) S hb
theorem mk_fn (F : FunD K x x (defArgs st) (defBody st) (defScope st) [] [] f fd) (S : FnScope N ps (defScope st)) (hm : mg x = some (.ref f))
    (h : ∀ (kV doc pm : Value) (an : Option Addr) (cdv ct : Value) (us : List Value), us.length = ps.length → bindArgs (PySem.W.fnOf x x (defArgs st) (defBody st) (defScope st) .none kV doc pm an cdv ct) ⟨us, []⟩ = pure (ps.zip us))
    (hb : ∀ (cv : Value) (A : Around) (out : List Env) (s : Shared) (H : Hp) (E : XK), Ctx (cxOf (CX P w) P w K mg base N x (defScope st) f cv A out s H E) (fun c d _ H' => E c d H') k →
      QSs (cxOf (CX P w) P w K mg base N x (defScope st) f cv A out s H E) (fun c d _ H' => E c d H') (defBody st) m) :
    Fn P w K mg base (k + 1) x (mBody N.length m) ps.length := ⟨⟨f, fd, ps, mk_fnG F S hb, hm, F.kp, FunD.bindsN F h⟩⟩
end
section
variable {X : Cx} {W : WX} {pos : Pos}
theorem qe_gint {x : Str} {i : Int} (h : ∃ t, X.mg x = some (.int i t)) (hg : Gl X x := by rfl) (hd : (x == ("__debug__" : Str)) = false := by decide) : QE X W (.Name x pos) (mC (.int i)) := by
  obtain ⟨t, h⟩ := h
  exact qe_glob (v := .int i) h ⟨t, rfl⟩ (fun _ _ => .int i) hg hd
theorem qe_gstr {x z : Str} (h : ∃ t, X.mg x = some (.str z t)) (hg : Gl X x := by rfl) (hd : (x == ("__debug__" : Str)) = false := by decide) : QE X W (.Name x pos) (mC (.str z)) := by
  obtain ⟨t, h⟩ := h
  exact qe_glob (v := .str z) h ⟨t, rfl⟩ (fun _ _ => .str z) hg hd
theorem qe_call0 {k j : Nat} {x : Str} {m : List D → IH → Res D} {p : Pos} (C : Ctx X W k) (F : Fn X.prog X.w X.K X.mg X.base j x m 0) (hj : j ≤ k := by decide) (hg : Gl X x := by rfl) (hdb : (x == ("__debug__" : Str)) = false := by decide) : QE X W (.Call (.Name x p) [] [] pos) (mCall m mNil) := by
  obtain ⟨f, fd, ps, G, hm, hk, hb⟩ := F.ex
  refine ⟨fun pins s σ H Q I ⟨μ, h, env, rl, er, po⟩ => ?_⟩
  refine wpAny_Call_Name_kw (ld_glob I hg hm ?_ hdb)
  have pa : spM X.mg X.kx m 0 [] H Q (WE W σ) := by
    refine ⟨rfl, μ, h, [], rl, .nil, ?_⟩
    have po2 : Po X.mg X.kx W (Rp X.kx) σ H μ (m [] h) Q := po
    revert po2
    cases m [] h with
    | val d h2 => exact fun q => q
    | exc y h2 => exact fun q => q
    | stk => exact fun q => q
  exact PySem.W.callWith_K0 I.kIn hk (run_fnG G C.gd (C.room.mono hj) hb (passAt C.tk σ) I .nil pa)
/-- x += e: ints, texts -/
def pyIAdd : D → D → IH → Res D
  | .int i, .int j, h => .val (.int (i + j)) h
  | .str x, .str y, h => if x.length + y.length ≤ sizeLine then .val (.str (x ++ y)) h else .stk
  | _, _, _ => .stk
def rIAdd : R2 := fun x y H Q => rI0 (fun i j => .int (i + j)) x y H Q ∨ ∃ i j, x = .str i ∧ y = .str j ∧ i.length + j.length ≤ sizeLine ∧ Q (.str (i ++ j)) H
theorem ip_addD : PIp X .Add rIAdd := OpR.or iop_add iop_add_str
theorem sd_ipadd : Sd2 X rIAdd pyIAdd := by
  intro W σ x y a b H μ h Q rl ra rb p
  cases ra with
  | int i =>
    cases rb <;> first | exact p.elim | skip
    exact .inl ⟨_, _, rfl, rfl, p.at rl (.int _)⟩
  | str i =>
    cases rb <;> first | exact p.elim | skip
    simp only [pyIAdd] at p
    split at p
    · exact .inr ⟨_, _, rfl, rfl, by assumption, p.at rl (.str _)⟩
    · exact p.elim
  | _ => exact p.elim
theorem sd_ipsub : Sd2 X (ipI fun i j => i - j) pySub := by
  intro W σ x y a b H μ h Q rl ra rb p
  cases ra <;> first | exact p.elim | skip
  cases rb <;> first | exact p.elim | skip
  exact ⟨_, _, rfl, rfl, p.at rl (.int _)⟩
end
end DD
set_option Elab.async false
set_option linter.all false
set_option maxRecDepth 100000
/-! lemmas for running the data functions on letters -/
namespace DD
open PySem L2
theorem na10 : Int.natAbs 10 = 10 := rfl
theorem na2 : Int.natAbs 2 = 2 := rfl
theorem lstAt_last (h : IH) (ys : List D) : lstAt (h ++ [.lst ys]) h.length = some ys := by
  unfold lstAt
  rw [List.getElem?_append_right (Nat.le_refl _), Nat.sub_self]
  rfl
theorem getE_app {h : IH} {n : Nat} {o : IO} (e : h[n]? = some o) (g : IH) : (h ++ g)[n]? = some o := by
  rw [List.getElem?_append_left (List.getElem?_eq_some_iff.mp e).1]
  exact e
theorem lstAt_app {h : IH} {n : Nat} {ys : List D} (e : lstAt h n = some ys) (g : IH) : lstAt (h ++ g) n = some ys := by
  unfold lstAt at e ⊢
  split at e
  · rename_i ds z
    rw [getE_app z g]
    exact e
  · cases e
theorem mapO_map {α β γ : Type} {f : β → Option γ} {g : α → β} {k : α → γ} : ∀ {xs : List α}, (∀ x ∈ xs, f (g x) = some (k x)) → mapO f (xs.map g) = some (xs.map k)
  | [], _ => rfl
  | x :: xs, h => by
    show (match f (g x), mapO f (xs.map g) with
      | some a, some b => some (a :: b)
      | _, _ => none) = _
    rw [h x List.mem_cons_self, mapO_map fun y hy => h y (List.mem_cons_of_mem _ hy)]
    rfl
theorem intsD_map (ns : List Int) : intsD (ns.map D.int) = some ns := by
  have := mapO_map (f := fun d => match d with
    | D.int i => some i
    | _ => none) (g := D.int) (k := id) (xs := ns) fun x _ => rfl
  rw [List.map_id] at this
  exact this
theorem boolsD_map (ns : List Bool) : boolsD (ns.map D.bl) = some ns := by
  have := mapO_map (f := fun d => match d with
    | D.bl i => some i
    | _ => none) (g := D.bl) (k := id) (xs := ns) fun x _ => rfl
  rw [List.map_id] at this
  exact this
/-- a for loop by what holds between two turns: I of the items that are left -/
theorem forS_inv {t : MTg} {b : MS} (I : List D → En → IH → Prop)
    (step : ∀ d ds env h, I (d :: ds) env h → ∃ e1 h1 e2 h2, t d env h = some (e1, h1) ∧ (b e1 h1 = .nx e2 h2 ∨ b e1 h1 = .ct e2 h2) ∧ I ds e2 h2) : ∀ ds env h, I ds env h → ∃ e2 h2, forS t b ds env h = .nx e2 h2 ∧ I [] e2 h2
  | [], env, h, i => ⟨env, h, rfl, i⟩
  | d :: ds, env, h, i => by
    obtain ⟨e1, h1, e2, h2, z1, z2, i2⟩ := step d ds env h i
    obtain ⟨e3, h3, z3, i3⟩ := forS_inv I step ds e2 h2 i2
    refine ⟨e3, h3, ?_, i3⟩
    rcases z2 with z2 | z2 <;> simp only [forS, z1, z2, z3]
/-- a comprehension without ifs: J of the heap, R of an item and its value -/
theorem lcS_inv {t : MTg} {c : MT} {e : ME} {env : En} (J : IH → Prop) (R : D → D → Prop) {ds0 : List D}
    (step : ∀ d ∈ ds0, ∀ h, J h → ∃ e1 h1 h2 y h3, t d env h = some (e1, h1) ∧ c e1 h1 = .val true h2 ∧ e e1 h2 = .val y h3 ∧ R d y ∧ J h3) :
    ∀ (ds acc : List D) h, (∀ d ∈ ds, d ∈ ds0) → acc.length + ds.length ≤ sizeLine → J h → ∃ ys h2, lcS t c e env ds acc h = .val (acc ++ ys) h2 ∧ Paired R ds ys ∧ J h2
  | [], acc, h, _, _, j => ⟨[], h, by simp only [lcS, List.append_nil], .nil, j⟩
  | d :: ds, acc, h, hs, hl, j => by
    obtain ⟨e1, h1, h2, y, h3, z1, z2, z3, r, j3⟩ := step d (hs d List.mem_cons_self) h j
    rw [List.length_cons] at hl
    obtain ⟨ys, h4, z4, r4, j4⟩ := lcS_inv J R step ds (acc ++ [y]) h3 (fun x hx => hs x (List.mem_cons_of_mem _ hx)) (by rw [List.length_append, List.length_singleton]; omega) j3
    refine ⟨y :: ys, h4, ?_, .cons r r4, j4⟩
    have hlt : acc.length < sizeLine := by omega
    simp only [lcS, lcT, z1, z2, z3, if_pos hlt, z4, List.append_assoc, List.cons_append, List.nil_append]
/-- .. where each item's value is told, the heap growing -/
theorem lcS_map {t : MTg} {c : MT} {e : ME} {env : En} {α : Type} (g : α → D) (f : α → D) {xs : List α} {h0 : IH}
    (step : ∀ x ∈ xs, ∀ q, ∃ e1 q', t (g x) env (h0 ++ q) = some (e1, h0 ++ q) ∧ c e1 (h0 ++ q) = .val true (h0 ++ q) ∧ e e1 (h0 ++ q) = .val (f x) (h0 ++ q')) (hl : xs.length ≤ sizeLine) :
    ∃ q', lcS t c e env (xs.map g) [] h0 = .val (xs.map f) (h0 ++ q') := by
  have key : ∀ (ys : List α) (acc : List D) (q : IH), (∀ y ∈ ys, y ∈ xs) → acc.length + ys.length ≤ sizeLine → ∃ q', lcS t c e env (ys.map g) acc (h0 ++ q) = .val (acc ++ ys.map f) (h0 ++ q') := by
    intro ys
    induction ys with
    | nil => exact fun acc q _ _ => ⟨q, by simp only [List.map_nil, lcS, List.append_nil]⟩
    | cons y ys ih =>
      intro acc q hs hz
      rw [List.length_cons] at hz
      obtain ⟨e1, q1, z1, z2, z3⟩ := step y (hs y List.mem_cons_self) q
      obtain ⟨q2, z4⟩ := ih (acc ++ [f y]) q1 (fun x hx => hs x (List.mem_cons_of_mem _ hx)) (by rw [List.length_append, List.length_singleton]; omega)
      refine ⟨q2, ?_⟩
      have hlt : acc.length < sizeLine := by omega
      simp only [List.map_cons, lcS, lcT, z1, z2, z3, if_pos hlt, z4, List.append_assoc, List.cons_append, List.nil_append]
  obtain ⟨q', z⟩ := key xs [] [] (fun _ h => h) (by simpa using hl)
  rw [List.append_nil, List.nil_append] at z
  exact ⟨q', z⟩
theorem rangeD_map (lo : Int) (n : Nat) : rangeD lo n = (List.range n).map (fun i : Nat => D.int (lo + (i : Int))) := rfl
/-! ### pairs of ints by order -/
abbrev prD (a b : Int) : PyData := .tuple [.int a, .int b]
theorem lt_prD (a b c d : Int) : PySem.W.dataLt (prD a b) (prD c d) = (decide (a < c) || (decide (a = c) && decide (b < d))) := by
  rw [PySem.W.dataLt_tuple]
  by_cases h : a = c
  · subst h
    rw [PySem.W.dataLt_all_yes (by simp [PySem.W.alike]) (by simp [PyData.eqv])]
    by_cases h2 : b = d
    · subst h2
      rw [PySem.W.dataLt_all_yes (by simp [PySem.W.alike]) (by simp [PyData.eqv])]
      simp [PySem.W.keyToksAll]
      rfl
    · rw [PySem.W.dataLt_all_no (by simp [PySem.W.alike]) (by simp [PyData.eqv, h2]), PySem.W.dataLt_int]
      simp
  · rw [PySem.W.dataLt_all_no (by simp [PySem.W.alike]) (by simp [PyData.eqv, h]), PySem.W.dataLt_int]
    simp [h]
/-- the least begin with the least value -/
def IsFirst (f : Int → Int) (lo hi b : Int) : Prop := lo ≤ b ∧ b ≤ hi ∧ (∀ c, lo ≤ c → c ≤ hi → f b ≤ f c) ∧ ∀ c, lo ≤ c → c < b → f b < f c
theorem IsFirst.uniq {f : Int → Int} {lo hi b c : Int} (x : IsFirst f lo hi b) (y : IsFirst f lo hi c) : b = c := by
  obtain ⟨a1, a2, a3, a4⟩ := x
  obtain ⟨b1, b2, b3, b4⟩ := y
  rcases Int.lt_trichotomy b c with h | h | h
  · have := b4 b a1 h
    have := a3 c b1 b2
    omega
  · exact h
  · have := a4 c b1 h
    have := b3 b a1 a2
    omega
theorem minD_first (f : Int → Int) (lo : Int) : ∀ (n : Nat), ∃ b, PySem.W.minD (prD (f lo) lo) ((List.range n).map fun i : Nat => prD (f (lo + 1 + (i : Int))) (lo + 1 + (i : Int))) = prD (f b) b ∧ IsFirst f lo (lo + n) b
  | 0 => ⟨lo, rfl, Int.le_refl _, by omega, fun c h1 h2 => by
      have : c = lo := by omega
      rw [this]
      exact Int.le_refl _, fun c h1 h2 => by omega⟩
  | n + 1 => by
    obtain ⟨b, e, h1, h2, h3, h4⟩ := minD_first f lo n
    unfold PySem.W.minD at e ⊢
    rw [List.range_succ, List.map_append, List.foldl_append, e, List.map_singleton, List.foldl_cons, List.foldl_nil, lt_prD]
    have e3 : lo + 1 + (n : Int) = lo + ((n + 1 : Nat) : Int) := by omega
    by_cases h : f (lo + 1 + (n : Int)) < f b
    · refine ⟨lo + 1 + (n : Int), by simp [h], by omega, by omega, fun c c1 c2 => ?_, fun c c1 c2 => ?_⟩
      · by_cases z : c ≤ lo + n
        · have := h3 c c1 z
          omega
        · have : c = lo + 1 + (n : Int) := by omega
          rw [this]
          exact Int.le_refl _
      · have := h3 c c1 (by omega)
        omega
    · refine ⟨b, ?_, h1, by omega, fun c c1 c2 => ?_, h4⟩
      · have z : ¬ (f (lo + 1 + (n : Int)) = f b ∧ lo + 1 + (n : Int) < b) := by omega
        have z2 : (decide (f (lo + 1 + (n : Int)) < f b) || (decide (f (lo + 1 + (n : Int)) = f b) && decide (lo + 1 + (n : Int) < b))) = false := by
          simp only [Bool.or_eq_false_iff, Bool.and_eq_false_iff, decide_eq_false_iff_not]
          omega
        rw [z2]
        rfl
      · by_cases z : c ≤ lo + n
        · exact h3 c c1 z
        · have : c = lo + 1 + (n : Int) := by omega
          rw [this]
          omega
theorem alikeB_pairs {α : Type} (f g : α → Int) (xs : List α) : alikeB (xs.map fun x => prD (f x) (g x)) = true := by
  unfold alikeB
  rw [Bool.and_eq_true]
  refine ⟨List.all_eq_true.mpr fun x hx => List.all_eq_true.mpr fun y hy => ?_, List.all_eq_true.mpr fun x hx => ?_⟩
  · obtain ⟨a, _, rfl⟩ := List.mem_map.mp hx
    obtain ⟨b, _, rfl⟩ := List.mem_map.mp hy
    simp [PySem.W.alike, PySem.W.alikeAll]
  · obtain ⟨a, _, rfl⟩ := List.mem_map.mp hx
    rfl
theorem canLay_pairs {α : Type} (f g : α → Int) : ∀ xs : List α, PyData.canLayAll0 (xs.map fun x => prD (f x) (g x)) = true
  | [] => rfl
  | x :: xs => by
    rw [List.map_cons, PyData.canLayAll0, canLay_pairs f g xs]
    simp [PyData.canLay0, PyData.canLayAll0]
theorem depth_pairs {α : Type} (f g : α → Int) : ∀ xs : List α, PyData.depthAll (xs.map fun x => prD (f x) (g x)) ≤ 60
  | [] => by simp [PyData.depthAll]
  | x :: xs => by
    have ih := depth_pairs f g xs
    rw [List.map_cons, PyData.depthAll]
    simp only [PyData.depth, PyData.depthAll]
    omega
/-- min of a list of pairs (f b, b), b going up by ones -/
theorem bestO_first (f : Int → Int) (lo : Int) (n : Nat) (h : IH) : ∃ b, bestO PySem.W.minD h ((List.range (n + 1)).map fun i : Nat => D.tup [.int (f (lo + (i : Int))), .int (lo + (i : Int))]) = some (.tup [.int (f b), .int b]) ∧ IsFirst f lo (lo + n) b := by
  obtain ⟨b, e, hb⟩ := minD_first f lo n
  refine ⟨b, ?_, hb⟩
  unfold bestO
  have e1 : mapO (toPy 12 h) ((List.range (n + 1)).map fun i : Nat => D.tup [.int (f (lo + (i : Int))), .int (lo + (i : Int))]) = some ((List.range (n + 1)).map fun i : Nat => prD (f (lo + (i : Int))) (lo + (i : Int))) := mapO_map fun x _ => rfl
  have e2 : (List.range (n + 1)).map (fun i : Nat => prD (f (lo + (i : Int))) (lo + (i : Int))) = prD (f lo) lo :: (List.range n).map fun i : Nat => prD (f (lo + 1 + (i : Int))) (lo + 1 + (i : Int)) := by
    rw [List.range_succ_eq_map, List.map_cons, List.map_map]
    congr 1
    · simp
    · apply List.map_congr_left
      intro i _
      have : lo + ((i + 1 : Nat) : Int) = lo + 1 + (i : Int) := by omega
      show prD (f (lo + ((i + 1 : Nat) : Int))) (lo + ((i + 1 : Nat) : Int)) = _
      rw [this]
  rw [e1]
  have a1 := alikeB_pairs (fun i : Nat => f (lo + (i : Int))) (fun i : Nat => lo + (i : Int)) (List.range (n + 1))
  have a2 := canLay_pairs (fun i : Nat => f (lo + (i : Int))) (fun i : Nat => lo + (i : Int)) (List.range (n + 1))
  have a3 := depth_pairs (fun i : Nat => f (lo + (i : Int))) (fun i : Nat => lo + (i : Int)) (List.range (n + 1))
  rw [e2] at a1 a2 a3
  rw [e2]
  simp only [a1, a2, a3, decide_true, Bool.and_self, if_true, e]
  rfl
end DD
set_option Elab.async false
set_option linter.all false
set_option maxRecDepth 100000
namespace DD
open PySem PySem.Spec L2 PyProof.Rows

section
variable {X : Cx} {W : WX}
/-! ### in, not in -/
def inT (h : IH) (x y : D) : Option Bool := match toPy 12 h x, toPy 12 h y with
  | some d, some (.list ds) => if (SeqAt.shaped d && SeqAt.shaped (.list ds)) = true then some (ds.any fun z => PyData.eqv z d) else none
  | some d, some (.tuple ds) => if (SeqAt.shaped d && SeqAt.shaped (.list ds)) = true then some (ds.any fun z => PyData.eqv z d) else none
  | _, _ => none
def inK (h : IH) (x y : D) : Option Bool := match y with
  | .ref n => match dicAt h n with
    | some kvs => (getK kvs x).map Option.isSome
    | none => none
  | _ => none
def inO (h : IH) (x y : D) : Option Bool := match x, y with
  | .str w, .str z => some (!(Builtin.Str.occurrences z w 0 z.length 1).isEmpty)
  | x, y => match inK h x y with
    | some b => some b
    | none => inT h x y
def pyIn (a b : D) (h : IH) : Res D := match inO h a b with
  | some k => .val (.bl k) h
  | none => .stk
def pyNotIn (a b : D) (h : IH) : Res D := match inO h a b with
  | some k => .val (.bl !k) h
  | none => .stk
def rInT (K : PySem.W.Frag) (neg : Bool) : R2 := fun x y H Q => ∃ d ds, Dp K H x d ∧ Dp K H y (.tuple ds) ∧ SeqAt.shaped d = true ∧ SeqAt.shaped (.list ds) = true ∧ Q (.bl (if neg = true then !(ds.any fun z => PyData.eqv z d) else ds.any fun z => PyData.eqv z d)) H
def rInDc (X : Cx) (neg : Bool) : R2 := fun x y H Q => ∃ a o, y = .ref a ∧ DGetX X H a x o ∧ Q (.bl (if neg = true then !o.isSome else o.isSome)) H
theorem op_inT (hu : X.A.units + 65 < cLine) : OpR X (compareOp .In) (rInT X.K false) := by
  intro pins s σ H x y v u Q I rx ry h
  obtain ⟨d, ds, hd, he, sd, se, q⟩ := h
  obtain ⟨as, r1⟩ := Dp.reads I d x v hd rx
  obtain ⟨bs, r2⟩ := Dp.reads I (.tuple ds) y u he ry
  exact SeqAt.in_tuple_reads r2 r1 (SeqAt.canLay_of_shaped se) (SeqAt.canLay_of_shaped sd) (room_in_shaped sd hu) ⟨.bl _, H, I, rfl, q⟩
theorem op_notInT (hu : X.A.units + 65 < cLine) : OpR X (compareOp .NotIn) (rInT X.K true) := by
  intro pins s σ H x y v u Q I rx ry h
  obtain ⟨d, ds, hd, he, sd, se, q⟩ := h
  obtain ⟨as, r1⟩ := Dp.reads I d x v hd rx
  obtain ⟨bs, r2⟩ := Dp.reads I (.tuple ds) y u he ry
  exact SeqAt.notIn_tuple_reads r2 r1 (SeqAt.canLay_of_shaped se) (SeqAt.canLay_of_shaped sd) (room_in_shaped sd hu) ⟨.bl _, H, I, rfl, q⟩
theorem op_inDc (hu : X.A.units + 64 < cLine) : OpR X (compareOp .In) (rInDc X false) := by
  intro pins s σ H x y v u Q I rx ry h
  obtain ⟨a, o, rfl, g, q⟩ := h
  obtain rfl : u = Value.ref a := ry
  exact g_in hu I g rx fun s3 I3 => ⟨.bl o.isSome, H, I3, rfl, q⟩
theorem op_notInDc (hu : X.A.units + 64 < cLine) : OpR X (compareOp .NotIn) (rInDc X true) := by
  intro pins s σ H x y v u Q I rx ry h
  obtain ⟨a, o, rfl, g, q⟩ := h
  obtain rfl : u = Value.ref a := ry
  exact g_notIn hu I g rx fun s3 I3 => ⟨.bl (!o.isSome), H, I3, rfl, q⟩
def rInS2 (neg : Bool) : R2 := fun x y H Q => ∃ i j, x = .str i ∧ y = .str j ∧ Q (.bl (if neg = true then !(!(Builtin.Str.occurrences j i 0 j.length 1).isEmpty) else !(Builtin.Str.occurrences j i 0 j.length 1).isEmpty)) H
theorem op_notInS : OpR X (compareOp .NotIn) (rInS2 true) := by
  intro pins s σ H x y v u Q I rx ry h
  obtain ⟨i, j, rfl, rfl, q⟩ := h
  obtain ⟨t, rfl⟩ := rx
  obtain ⟨t', rfl⟩ := ry
  exact notIn_str (fin_bl I q rfl)
def rInA (X : Cx) : R2 := fun x y H Q => (rInS2 false x y H Q ∨ rInDc X false x y H Q) ∨ (rInD X.K x y H Q ∨ rInT X.K false x y H Q)
def rNotInA (X : Cx) : R2 := fun x y H Q => (rInS2 true x y H Q ∨ rInDc X true x y H Q) ∨ (rNotInD X.K x y H Q ∨ rInT X.K true x y H Q)
theorem units65 {k : Nat} (C : Ctx X W k) : X.A.units + 65 < cLine := by
  have := C.room.un
  omega
theorem op_inA {k : Nat} (C : Ctx X W k) : OpR X (compareOp .In) (rInA X) := (OpR.or op_in_str (op_inDc (units_of C))).or ((op_inD (units65 C)).or (op_inT (units65 C)))
theorem op_notInA {k : Nat} (C : Ctx X W k) : OpR X (compareOp .NotIn) (rNotInA X) := (op_notInS.or (op_notInDc (units_of C))).or ((op_notInD (units65 C)).or (op_notInT (units65 C)))
theorem inO_ok {H : Hp} {μ : List Addr} {h : IH} {x y : V} {a b : D} {k : Bool} (rl : Rl X.kx H μ h) (ra : Rp X.kx H μ x a) (rb : Rp X.kx H μ y b) (e : inO h a b = some k) :
    ((∃ i j, x = .str i ∧ y = .str j ∧ (!(Builtin.Str.occurrences j i 0 j.length 1).isEmpty) = k) ∨ (∃ a o, y = .ref a ∧ DGetX X H a x o ∧ o.isSome = k)) ∨
      ((∃ d ds, Dp X.K H x d ∧ Dp X.K H y (.list ds) ∧ SeqAt.shaped d = true ∧ SeqAt.shaped (.list ds) = true ∧ (ds.any fun z => PyData.eqv z d) = k) ∨ ∃ d ds, Dp X.K H x d ∧ Dp X.K H y (.tuple ds) ∧ SeqAt.shaped d = true ∧ SeqAt.shaped (.list ds) = true ∧ (ds.any fun z => PyData.eqv z d) = k) := by
  unfold inO at e
  split at e
  · cases e
    cases ra
    cases rb
    exact .inl (.inl ⟨_, _, rfl, rfl, rfl⟩)
  · split at e
    · rename_i bb zz
      cases e
      unfold inK at zz
      split at zz
      · split at zz
        · rename_i kvs z1
          cases rb with
          | ref e1 =>
            obtain ⟨o, z2, rfl⟩ := Option.map_eq_some_iff.mp zz
            unfold dicAt at z1
            split at z1
            · rename_i lk kvs' z3
              cases z1
              obtain ⟨ob, ho, q⟩ := rl.at e1
              rw [z3] at ho
              cases ho
              obtain ⟨ov, g, gv⟩ := getK_ok q ra z2
              refine .inl (.inr ⟨_, ov, rfl, g, ?_⟩)
              rcases gv with ⟨rfl, rfl⟩ | ⟨v, d, rfl, rfl, _⟩ <;> rfl
            · cases z1
        · cases zz
      · cases zz
    · unfold inT at e
      split at e
      · rename_i d ds z1 z2
        split at e
        · rename_i z
          rw [Bool.and_eq_true] at z
          cases e
          exact .inr (.inl ⟨d, ds, toPy_ok rl 12 _ _ _ ra z1, toPy_ok rl 12 _ _ _ rb z2, z.1, z.2, rfl⟩)
        · cases e
      · rename_i d ds z1 z2
        split at e
        · rename_i z
          rw [Bool.and_eq_true] at z
          cases e
          exact .inr (.inr ⟨d, ds, toPy_ok rl 12 _ _ _ ra z1, toPy_ok rl 12 _ _ _ rb z2, z.1, z.2, rfl⟩)
        · cases e
      · cases e
theorem sd_in : Sd2 X (rInA X) pyIn := by
  intro W σ x y a b H μ h Q rl ra rb p
  unfold pyIn at p
  split at p
  · rename_i k z
    have q := p.at rl (.bl _)
    rcases inO_ok rl ra rb z with (⟨i, j, h1, h2, rfl⟩ | ⟨a, o, h1, h2, rfl⟩) | (⟨d, ds, h1, h2, h3, h4, rfl⟩ | ⟨d, ds, h1, h2, h3, h4, rfl⟩)
    · exact .inl (.inl ⟨i, j, h1, h2, q⟩)
    · exact .inl (.inr ⟨a, o, h1, h2, q⟩)
    · exact .inr (.inl ⟨d, ds, h1, h2, h3, h4, q⟩)
    · exact .inr (.inr ⟨d, ds, h1, h2, h3, h4, q⟩)
  · exact p.elim
theorem sd_notIn : Sd2 X (rNotInA X) pyNotIn := by
  intro W σ x y a b H μ h Q rl ra rb p
  unfold pyNotIn at p
  split at p
  · rename_i k z
    have q := p.at rl (.bl _)
    rcases inO_ok rl ra rb z with (⟨i, j, h1, h2, rfl⟩ | ⟨a, o, h1, h2, rfl⟩) | (⟨d, ds, h1, h2, h3, h4, rfl⟩ | ⟨d, ds, h1, h2, h3, h4, rfl⟩)
    · exact .inl (.inl ⟨i, j, h1, h2, q⟩)
    · exact .inl (.inr ⟨a, o, h1, h2, q⟩)
    · exact .inr (.inl ⟨d, ds, h1, h2, h3, h4, q⟩)
    · exact .inr (.inr ⟨d, ds, h1, h2, h3, h4, q⟩)
  · exact p.elim
end
end DD
set_option Elab.async false
set_option linter.all false
set_option maxRecDepth 100000
namespace DD
open PySem PySem.Spec L2 PyProof.Rows
section
variable {X : Cx} {W : WX}
/-! ### repr of any plain thing -/
def reprL : D → Option Str
  | .int i => if i.natAbs.log2 < 1920 then some (toString i) else none
  | .str x => if (reprText x).length ≤ sizeLine then some (reprText x) else none
  | .bl b => some (if b = true then "True" else "False")
  | .non => some "None"
  | _ => none
def pyReprA : List D → IH → Res D := fun as h => match as with
  | [x] => match reprL x with
    | some s => .val (.str s) h
    | none => DD.pyRepr [x] h
  | _ => .stk
def rReprL : List V → Hp → VK → Prop := fun vs H Q => (∃ i, vs = [V.int i] ∧ i.natAbs.log2 < 1920 ∧ Q (.str (toString i)) H) ∨ (∃ x, vs = [V.str x] ∧ (reprText x).length ≤ sizeLine ∧ Q (.str (reprText x)) H) ∨ (∃ b : Bool, vs = [V.bl b] ∧ Q (.str (if b = true then "True" else "False")) H) ∨ (vs = [V.non] ∧ Q (.str "None") H)
theorem cr_reprL : CallR X (.builtin "repr") rReprL := by
  intro pins s σ H vs us Q I r h
  rcases h with ⟨i, rfl, h1, q⟩ | ⟨x, rfl, h1, q⟩ | ⟨b, rfl, q⟩ | ⟨rfl, q⟩
  · cases r with
    | cons a b =>
      cases b
      obtain ⟨t, rfl⟩ := a
      exact PySem.P.repr_of_int h1 ⟨.str _, H, I.kept fun _ _ z => z, ⟨_, rfl⟩, q⟩
  · cases r with
    | cons a b =>
      cases b
      obtain ⟨t, rfl⟩ := a
      exact PySem.P.repr_of_str (hsz := h1) ⟨.str _, H, I.kept fun _ _ z => z, ⟨_, rfl⟩, q⟩
  · cases r with
    | cons a b =>
      cases b
      obtain rfl : _ = Value.bool _ := a
      exact PySem.P.repr_of_bool ⟨.str _, H, I.kept fun _ _ z => z, ⟨_, rfl⟩, q⟩
  · cases r with
    | cons a b =>
      cases b
      obtain rfl : _ = Value.none := a
      exact PySem.P.repr_of_none ⟨.str _, H, I.kept fun _ _ z => z, ⟨_, rfl⟩, q⟩
def rReprA (K : PySem.W.Frag) : List V → Hp → VK → Prop := fun vs H Q => rReprL vs H Q ∨ rRepr K vs H Q
theorem cr_reprA {k : Nat} (C : Ctx X W k) : CallR X (.builtin "repr") (rReprA X.K) := CallR.or cr_reprL (cr_repr C)
theorem sd_reprA : SdC X (rReprA X.K) pyReprA := by
  intro W σ xs as H μ h Q rl rs p
  unfold pyReprA at p
  split at p
  · rename_i x
    split at p
    · rename_i s z
      cases rs with
      | cons r1 q1 =>
        cases q1
        cases r1 with
        | int i =>
          simp only [reprL] at z
          split at z <;> cases z
          exact .inl (.inl ⟨i, rfl, by assumption, p.at rl (.str _)⟩)
        | str i =>
          simp only [reprL] at z
          split at z <;> cases z
          exact .inl (.inr (.inl ⟨i, rfl, by assumption, p.at rl (.str _)⟩))
        | bl b =>
          cases z
          exact .inl (.inr (.inr (.inl ⟨b, rfl, p.at rl (.str _)⟩)))
        | non =>
          cases z
          exact .inl (.inr (.inr (.inr ⟨rfl, p.at rl (.str _)⟩)))
        | _ => cases z
    · exact .inr (sd_repr W σ xs _ H μ h Q rl rs p)
  · exact p.elim
/-! ### methods of texts -/
def strsD : List D → Option (List Str) := mapO fun d => match d with
  | .str x => some x
  | _ => none
theorem strsD_ok {K : KX} {H : Hp} {μ : List Addr} : ∀ {vs : List V} {ds : List D} {ys : List Str}, Rps K H μ vs ds → strsD ds = some ys → vs = ys.map V.str
  | _, _, _, .nil, e => by
    cases e
    rfl
  | _, _, _, .cons (d := d) (ds := ds) a b, e => by
    unfold strsD mapO at e
    cases a with
    | str x =>
      cases z : mapO (fun d : D => match d with
        | .str x => some x
        | _ => none) ds with
      | none =>
        simp only [z] at e
        cases e
      | some ys =>
        simp only [z] at e
        cases e
        rw [strsD_ok b z]
        rfl
    | _ => cases e
def pyJoin : D → List D → IH → Res D := fun a as h => match a, as with
  | .str x, [y] => match seqD h y with
    | some ds => match strsD ds with
      | some ys => if (ys.map (·.length)).sum + ys.length * x.length ≤ 16777216 then .val (.str (Txt.join x ys)) h else .stk
      | none => .stk
    | none => .stk
  | _, _ => .stk
def rJoin (K : PySem.W.Frag) : V → List V → Hp → VK → Prop := fun x xs H Q => ∃ a p, ∃ ys : List Str, x = .str a ∧ xs = [.ref p] ∧ (SqL K H p (ys.map V.str) ∨ SqT K H p (ys.map V.str)) ∧ (ys.map (·.length)).sum + ys.length * a.length ≤ 16777216 ∧ Q (.str (Txt.join a ys)) H
theorem sd_join : SdM X (rJoin X.K) pyJoin := by
  intro W σ x xs a as H μ h Q rl ra rs p
  unfold pyJoin at p
  split at p
  · rename_i z y
    split at p
    · rename_i ds e
      split at p
      · rename_i ys e2
        split at p
        · rename_i hl
          cases ra with
          | str =>
            cases rs with
            | cons r1 q1 =>
              cases q1
              cases r1 with
              | tup s q =>
                cases e
                rw [strsD_ok q e2] at s
                exact ⟨z, _, ys, rfl, rfl, .inr s, hl, p.at rl (.str _)⟩
              | fl s q =>
                cases e
                rw [strsD_ok q e2] at s
                exact ⟨z, _, ys, rfl, rfl, .inl s.sq, hl, p.at rl (.str _)⟩
              | ref e1 =>
                obtain ⟨vs, h1, r2⟩ := lstAt_ok rl e1 e
                rw [strsD_ok r2 e2] at h1
                exact ⟨z, _, ys, rfl, rfl, .inl (SqL.of h1), hl, p.at rl (.str _)⟩
              | _ => cases e
        · exact p.elim
      · exact p.elim
    · exact p.elim
  · exact p.elim
def pyStarts : D → List D → IH → Res D := fun a as h => match a, as with
  | .str x, [.str y] => .val (.bl (Txt.startswith x y)) h
  | .str x, [.str y, .int i] => .val (.bl (Txt.startswith3 x y i)) h
  | _, _ => .stk
def rStarts : V → List V → Hp → VK → Prop := fun x xs H Q => (∃ a b, x = .str a ∧ xs = [.str b] ∧ Q (.bl (Txt.startswith a b)) H) ∨ (∃ (a b : Str) (i : Int), x = .str a ∧ xs = [.str b, .int i] ∧ Q (.bl (Txt.startswith3 a b i)) H)
theorem sd_starts : SdM X rStarts pyStarts := by
  intro W σ x xs a as H μ h Q rl ra rs p
  unfold pyStarts at p
  split at p
  · cases ra with
    | str =>
      cases rs with
      | cons r1 q1 =>
        cases q1
        cases r1
        exact .inl ⟨_, _, rfl, rfl, p.at rl (.bl _)⟩
  · cases ra with
    | str =>
      cases rs with
      | cons r1 q1 =>
        cases q1 with
        | cons r2 q2 =>
          cases q2
          cases r1
          cases r2
          exact .inr ⟨_, _, _, rfl, rfl, p.at rl (.bl _)⟩
  · exact p.elim
def pySIndex : D → List D → IH → Res D := fun a as h => match a, as with
  | .str x, [.str y] => match Builtin.Str.occurrences x y 0 x.length 1 with
    | i :: _ => .val (.int (i : Nat)) h
    | [] => .stk
  | _, _ => .stk
def rSIndex : V → List V → Hp → VK → Prop := fun x xs H Q => ∃ a b i rest, x = .str a ∧ xs = [.str b] ∧ Builtin.Str.occurrences a b 0 a.length 1 = i :: rest ∧ Q (.int (i : Nat)) H
theorem sd_sindex : SdM X rSIndex pySIndex := by
  intro W σ x xs a as H μ h Q rl ra rs p
  unfold pySIndex at p
  split at p
  · split at p
    · rename_i i rest z
      cases ra with
      | str =>
        cases rs with
        | cons r1 q1 =>
          cases q1
          cases r1
          exact ⟨_, _, i, rest, rfl, rfl, z, p.at rl (.int _)⟩
    · exact p.elim
  · exact p.elim
def pyCount : D → List D → IH → Res D := fun a as h => match a, as with
  | .str x, [.str y] => .val (.int (Txt.count x y)) h
  | _, _ => .stk
def rCount : V → List V → Hp → VK → Prop := fun x xs H Q => ∃ a b, x = .str a ∧ xs = [.str b] ∧ Q (.int (Txt.count a b)) H
theorem sd_count : SdM X rCount pyCount := by
  intro W σ x xs a as H μ h Q rl ra rs p
  unfold pyCount at p
  split at p
  · cases ra with
    | str =>
      cases rs with
      | cons r1 q1 =>
        cases q1
        cases r1
        exact ⟨_, _, rfl, rfl, p.at rl (.int _)⟩
  · exact p.elim
def pySplit : D → List D → IH → Res D := fun a as h => match a, as with
  | .str x, [.str y] => if (y.length == 0) = false ∧ x.length + 2 ≤ sizeLine then .val (.ref h.length) (h ++ [.lst ((Txt.split x y).map D.str)]) else .stk
  | _, _ => .stk
def rSplit : V → List V → Hp → VK → Prop := fun x xs H Q => ∃ a b, x = .str a ∧ xs = [.str b] ∧ (b.length == 0) = false ∧ a.length + 2 ≤ sizeLine ∧ rNewStrs (Txt.split a b) H Q
theorem rps_strs {K : KX} {H : Hp} {μ : List Addr} : ∀ ys : List Str, Rps K H μ (ys.map V.str) (ys.map D.str)
  | [] => .nil
  | y :: ys => .cons (.str y) (rps_strs ys)
theorem sd_split : SdM X rSplit pySplit := by
  intro W σ x xs a as H μ h Q rl ra rs p
  unfold pySplit at p
  split at p
  · split at p
    · rename_i z
      cases ra with
      | str =>
        cases rs with
        | cons r1 q1 =>
          cases q1
          cases r1
          refine ⟨_, _, rfl, rfl, z.1, z.2, fun q hq => ?_⟩
          obtain ⟨x2, rl2, rp2⟩ := new_lst rl (rps_strs (K := X.kx) (H := H) (μ := μ) _) hq
          exact p _ _ _ x2 rl2 rp2
    · exact p.elim
  · exact p.elim
/-! ### lists -/
def pyExtend : D → List D → IH → Res D := fun a as h => match a, as with
  | .ref n, [.ref m] => match lstAt h n, lstAt h m with
    | some xs, some ys => if xs.length + ys.length ≤ sizeLine then .val .non (h.set n (.lst (xs ++ ys))) else .stk
    | _, _ => .stk
  | _, _ => .stk
theorem sd_extend : SdM X rExtend pyExtend := by
  intro W σ x xs a as H μ h Q rl ra rs p
  unfold pyExtend at p
  split at p
  · rename_i n m
    split at p
    · rename_i ds es z1 z2
      split at p
      · rename_i zl
        cases ra with
        | ref e1 =>
          cases rs with
          | cons r1 q1 =>
            cases q1
            cases r1 with
            | ref e2 =>
              obtain ⟨vs, h1, r2⟩ := lstAt_ok rl e1 z1
              obtain ⟨ws, h2, r3⟩ := lstAt_ok rl e2 z2
              obtain ⟨x2, rl2⟩ := wr_lst rl e1 h1 (r2.append r3)
              exact ⟨_, _, vs, ws, rfl, rfl, h1, h2, by rw [r2.length, r3.length]; exact zl, p _ _ _ x2 rl2 .non⟩
      · exact p.elim
    · exact p.elim
  · exact p.elim
/-! ### other calls -/
def pyAbs : List D → IH → Res D := fun as h => match as with
  | [.int i] => .val (.int (if i < 0 then -i else i)) h
  | _ => .stk
def rAbs : List V → Hp → VK → Prop := fun xs H Q => ∃ i, xs = [.int i] ∧ Q (.int (if i < 0 then -i else i)) H
theorem sd_abs : SdC X rAbs pyAbs := by
  intro W σ xs as H μ h Q rl rs p
  unfold pyAbs at p
  split at p
  · cases rs with
    | cons r1 q1 =>
      cases q1
      cases r1
      exact ⟨_, rfl, p.at rl (.int _)⟩
  · exact p.elim
def pyStr : List D → IH → Res D := fun as h => match as with
  | [.int i] => if i.natAbs.log2 < 1920 then .val (.str (toString i)) h else .stk
  | [.str x] => .val (.str x) h
  | _ => .stk
def rStr : List V → Hp → VK → Prop := fun xs H Q => (∃ i, xs = [.int i] ∧ i.natAbs.log2 < 1920 ∧ Q (.str (toString i)) H) ∨ (∃ a, xs = [.str a] ∧ Q (.str a) H)
theorem sd_str : SdC X rStr pyStr := by
  intro W σ xs as H μ h Q rl rs p
  unfold pyStr at p
  split at p
  · split at p
    · cases rs with
      | cons r1 q1 =>
        cases q1
        cases r1
        exact .inl ⟨_, rfl, by assumption, p.at rl (.str _)⟩
    · exact p.elim
  · cases rs with
    | cons r1 q1 =>
      cases q1
      cases r1
      exact .inr ⟨_, rfl, p.at rl (.str _)⟩
  · exact p.elim
theorem cr_str : CallR X (.type "str") rStr := CallR.or call_str_int SkE.call_str_str
variable {o e : Expr} {es : List Expr} {mo : ME} {mr : MA} {apos pos : Pos}
theorem qe_mstr {id : String} {name : Str} {r : V → List V → Hp → VK → Prop} {f : D → List D → IH → Res D} (slot : Slot "str" name id) (hty : typeOf (.builtin id) = pure (.type "method_descriptor")) (hm : MtR X id r) (sd : SdM X r f) (ho : QE X W o mo) (ha : QA X W (e :: es) mr) (hbase : attributeBase o name X.env (eval o X.env) = eval o X.env := by rfl)
    (hfew : ((backTo pos (starEach (e :: es) X.env)).all (fun x => !x.1) && (backToKw pos (keywordEach [] X.env)).all (fun x => x.1.isSome)
      && decide ((e :: es).length + ([] : List Keyword).length + (if ([] : List Keyword).isEmpty then 0 else 1) < 30)) = true := by rfl)
    (hline : (apos.endLine == pos.line) = true := by rfl) (hs : starEach (e :: es) X.env = (false, eval e X.env) :: starEach es X.env := by rfl) (hplain : (backTo pos (starEach es X.env)).any (·.1) = false := by rfl) :
    QE X W (.Call (.Attribute o name apos) (e :: es) [] pos) (mMeth "str" f mo mr) := qe_meth PySem.F.plainAttrs_str slot hty hm sd (.inr (.inl rfl)) ho ha hbase hfew hline hs hplain
theorem mt_starts : MtR X "str.startswith" rStarts := MtR.or mt_startswith mt_startswith3
theorem mt_joinA : MtR X "str.join" (rJoin X.K) := mt_join
theorem mt_splitA : MtR X "str.split" rSplit := mt_split
theorem mt_sindexA : MtR X "str.index" rSIndex := mt_sindex
theorem mt_countA : MtR X "str.count" rCount := mt_count
end
end DD
set_option Elab.async false
set_option linter.all false
set_option maxRecDepth 100000
/-! the head with facts of one's own -/
namespace He
open PySem PySem.Spec PyProof.Rows L2
def obsY (n : Nat) (fa : List Fa) (fn : List DefD) (ex : PySem.W.Frag → Bool) (g : Addr → Option Obj) : AlD × Bool := (obsD fa fn (frG g (asD g n)), ex (frG g (asD g n)))
def hookY (n : Nat) (fa : List Fa) (fn : List DefD) (ex : PySem.W.Frag → Bool) : PySem.W.Hook where
  α := AlD × Bool
  obs := fun s => obsY n fa fn ex s.heap.get?
  val := fun _ => (valD fn, true)
  says := fun _ h => ∃ K : PySem.W.Frag, K.In h ∧ SaysD fa fn K ∧ ex K = true
  of := fun _ _ e => ⟨_, frG_in, congrArg Prod.fst e, congrArg Prod.snd e⟩
  keeps := fun _ _ _ ⟨K, hK, c⟩ k => ⟨K, PySem.W.Frag.In.keeps hK k, c⟩
theorem obsY_eq {n : Nat} {fa : List Fa} {fn : List DefD} {ex : PySem.W.Frag → Bool} {g : Addr → Option Obj} {s : Shared} (h : ∀ a, g a = s.heap.get? a) : obsY n fa fn ex g = (hookY n fa fn ex).obs s := by
  have e : g = s.heap.get? := funext h
  rw [e] <;> rfl
end He
namespace DD
open PySem PySem.Spec L2 PyProof.Rows
theorem qe_gtup {X : Cx} {W : WX} {pos : Pos} {x : Str} {vs : List V} {ds : List D} (c : ∃ a, X.mg x = some (.ref a) ∧ ∀ H, SqT X.K H a vs) (r : ∀ H μ, Rps X.kx H μ vs ds) (hg : Gl X x := by rfl) (hd : (x == ("__debug__" : Str)) = false := by decide) : QE X W (.Name x pos) (mC (.tup ds)) := by
  obtain ⟨a, hm, hs⟩ := c
  exact qe_glob (v := .ref a) hm rfl (fun H μ => .tup (hs H) (r H μ)) hg hd
end DD
set_option Elab.async false
set_option linter.all false
set_option maxRecDepth 100000
/-! sorted -/
namespace DD
open PySem PySem.Spec L2 PyProof.Rows

/-! ### a sort by places -/
section
variable {α β : Type}
def insS (le : α → α → Bool) (a : α) : List α → List α
  | [] => [a]
  | b :: l => if le a b = true then a :: b :: l else b :: insS le a l
def isort (le : α → α → Bool) : List α → List α
  | [] => []
  | a :: l => insS le a (isort le l)
theorem insS_at (le : α → α → Bool) (a : α) : ∀ (l₁ l₂ : List α), (∀ b ∈ l₁, le a b = false) → (∀ b l, l₂ = b :: l → le a b = true) → insS le a (l₁ ++ l₂) = l₁ ++ a :: l₂
  | [], [], _, _ => rfl
  | [], b :: l, _, h => by
    show insS le a (b :: l) = a :: b :: l
    unfold insS
    rw [if_pos (h b l rfl)]
  | b :: l₁, l₂, h1, h2 => by
    show insS le a (b :: (l₁ ++ l₂)) = b :: (l₁ ++ a :: l₂)
    unfold insS
    rw [if_neg (by rw [h1 b List.mem_cons_self]; exact Bool.false_ne_true), insS_at le a l₁ l₂ (fun c hc => h1 c (List.mem_cons_of_mem _ hc)) h2]
theorem isort_eq {le : α → α → Bool} (tr : ∀ a b c, le a b = true → le b c = true → le a c = true) (to : ∀ a b, (le a b || le b a) = true) : ∀ l : List α, l.mergeSort le = isort le l
  | [] => by simp [isort]
  | a :: l => by
    obtain ⟨l₁, l₂, h1, h2, h3⟩ := List.mergeSort_cons tr to a l
    have hp := List.pairwise_mergeSort tr to (a :: l)
    rw [h1] at hp ⊢
    unfold isort
    rw [← isort_eq tr to l, h2]
    refine (insS_at le a l₁ l₂ (fun b hb => by simpa using h3 b hb) fun b r e => ?_).symm
    subst e
    have := (List.pairwise_append.mp hp).2.1
    exact (List.pairwise_cons.mp this).1 b List.mem_cons_self
theorem insS_map {le : α → α → Bool} {le' : β → β → Bool} {f : α → β} (h : ∀ a b, le a b = le' (f a) (f b)) (a : α) : ∀ l : List α, (insS le a l).map f = insS le' (f a) (l.map f)
  | [] => rfl
  | b :: l => by
    unfold insS
    rw [List.map_cons]
    dsimp only
    rw [← h a b]
    split
    · rfl
    · rw [List.map_cons, insS_map h a l]
theorem isort_map {le : α → α → Bool} {le' : β → β → Bool} {f : α → β} (h : ∀ a b, le a b = le' (f a) (f b)) : ∀ l : List α, (isort le l).map f = isort le' (l.map f)
  | [] => rfl
  | a :: l => by
    unfold isort
    rw [insS_map h, isort_map h l]
    rfl
theorem insS_perm (le : α → α → Bool) (a : α) : ∀ l : List α, (insS le a l).Perm (a :: l)
  | [] => .refl _
  | b :: l => by
    unfold insS
    split
    · exact .refl _
    · exact ((insS_perm le a l).cons b).trans (.swap _ _ _)
theorem isort_perm (le : α → α → Bool) : ∀ l : List α, (isort le l).Perm l
  | [] => .refl _
  | a :: l => (insS_perm le a _).trans ((isort_perm le l).cons a)
end
open PySem.W in
/-- the order of sorted -/
def leD {α : Type} (rev : Bool) : α × PyData → α × PyData → Bool := fun x y => cond rev (!dataLt x.2 y.2) (!dataLt y.2 x.2)
theorem leD_eq {α : Type} (rev : Bool) : PySem.W.dataLe rev (fun b : α × PyData => b.2) = leD rev := rfl
theorem sortD_eq {α : Type} (rev : Bool) (l : List (α × PyData)) : l.mergeSort (PySem.W.dataLe rev (fun b : α × PyData => b.2)) = isort (leD rev) l := by
  have t : PySem.W.TotalLe (PySem.W.dataLe rev (fun b : α × PyData => b.2)) := PySem.W.sortLe_total _ rev _
  exact isort_eq t.trans (fun a b => by
    rcases t.total a b with h | h
    · rw [h]; rfl
    · rw [h, Bool.or_true]) l
section
variable {prog : Program} {w : World} {A : Around} {E : Value → Shared → Prop} {s : Shared}
theorem collect_tup {l : Addr} {vs : List Value} {Q : List Value → Shared → Prop} (hl : s.heap.IsTuple l vs.toArray)
    (h : Q vs { s with heap := (s.heap.push (seqObj "list" #[] 0)).update s.heap.objs.size (Obj.mapSeq (· ++ vs.toArray)) }) (hsz : vs.length ≤ sizeLine) :
    wpAny (model prog w) A (collect (.ref l)) Q E s := by
  obtain ⟨o, ho, hc, n, hd⟩ := id hl
  unfold collect
  refine wpAny_bind (wpAny_runValue (codeAny_builtin entry_proto_collect' ?_))
  show wpAny _ _ (do again (.builtin "list.__iadd__" ⟨[← newList [], .ref l], []⟩)) _ _ s
  refine wpAny_bind (wpAny_newList (wpAny_pure ⟨Code.quiet_builtin _ (by decide +kernel), codeAny_builtin entry_list_iadd' ?_⟩))
  show wpAny _ _ (Builtin.List.listExtendWith (.ref s.heap.objs.size) (.ref l) (.ref s.heap.objs.size)) _ _ { s with heap := s.heap.push (seqObj "list" #[] 0) }
  unfold Builtin.List.listExtendWith
  have ho' : (s.heap.push (seqObj "list" #[] 0)).get? l = some o := Heap.get?_push_of_some _ ho
  refine wpAny_bind (wpAny_typeOf (T := "tuple") ⟨o, ho', hc⟩ ?_)
  have ht : (Value.type "tuple" == Value.type "tuple") = true := by rfl
  rw [if_pos (by rw [ht]; simp)]
  refine wpAny_bind (listItems_at ho' hd ?_)
  refine wpAny_bind (listItems_at (xs := #[]) (n := 0) (Heap.get?_push_size _ rfl) rfl ?_)
  rw [if_neg (by simp)]
  refine wpAny_bind (listUpdate_at (xs := #[]) (n := 0) (Heap.get?_push_size _ rfl) rfl ?_ (Nat.zero_le _) (by show (#[] ++ vs.toArray).size ≤ sizeLine + 1; simp only [Array.size_append, List.size_toArray, List.length_nil]; omega))
  refine wpAny_pure ?_
  show wpAny (model prog w) A (do
      let o ← load s.heap.objs.size
      match o.data with
      | .seq xs _ => pure xs.toList
      | _ => unsupported "internal:collect") Q E { s with heap := (s.heap.push (seqObj "list" #[] 0)).update s.heap.objs.size (Obj.mapSeq (· ++ vs.toArray)) }
  refine wpAny_bind (wpAny_load (get?_update_seq (Heap.get?_push_size _ rfl) _) ?_)
  show wpAny _ _ (pure ((#[] : Array Value) ++ vs.toArray).toList) Q E _
  refine wpAny_pure ?_
  simpa using h
end
section
variable {prog : Program} {w : World} {A : Around} {E : Value → Shared → Prop} {s : Shared}
open PySem.W PySem.Calls in
theorem sorted_of_sortT {l : Addr} {vs : List Value} {kw : List (Str × Value)} {Q : Value → Shared → Prop} (hl : s.heap.IsTuple l vs.toArray) (hL : vs.length ≤ sizeLine) (ha1 : argsOk "sorted" ⟨[.ref l], kw⟩) (ha2 : ∀ x, argsOk "list.sort" ⟨[.ref x], kw⟩)
    (body : ∀ E' : Value → Shared → Prop, wpAny (model prog w) A.in1.in1 (Builtin.«list.sort» ⟨[.ref (s.heap.objs.size + 1)], kw⟩) (fun f s' => f = .done (.ret .none) ∧ Q (.ref (s.heap.objs.size + 1)) s') E' { s with heap := copyHeap s.heap vs }) :
    wpAny (model prog w) A (call (.builtin "sorted") [.ref l] kw) Q E s := by
  refine call_function_entry_kw kind_sorted plain_sorted entry_sorted ha1 ?_
  unfold Builtin.«sorted»
  refine wpAny_bind (m := checkCount "sorted" 1 1 _) (wpAny_pure ?_)
  refine wpAny_bind (collect_tup hl ?_ hL)
  refine wpAny_bind (wpAny_newList ?_ hL)
  have hsz : ((s.heap.push (seqObj "list" #[] 0)).update s.heap.objs.size (Obj.mapSeq (· ++ vs.toArray))).objs.size = s.heap.objs.size + 1 := by
    rw [Heap.size_update, size_push']
  show wpAny _ _ _ _ _ { s with heap := copyHeap s.heap vs }
  rw [hsz]
  refine wpAny_bind (wpAny_holding (wpAny_call_entry_kw slot_list_sort ⟨_, copyHeap_at s.heap vs, rfl⟩ entry_list_sort ?body (ha2 _)))
  case body =>
    show wpAny (model prog w) A.in1.in1 (Builtin.«list.sort» ⟨[.ref (s.heap.objs.size + 1)], kw⟩) _ _ _
    refine wpAny_mono (body _) (fun f s' hf => ?_) fun _ _ e => e
    obtain ⟨rfl, hq⟩ := hf
    exact ⟨_, rfl, wpAny_pure ⟨_, rfl, hq⟩⟩
open PySem.W PySem.Calls in
/-- sorted of a list or of a tuple -/
theorem sorted_any {β : Type} {bs : List β} {enc : β → PyData} {R : Value → β → Prop} {l : Addr} {vs : List Value} {Q : Value → Shared → Prop} (hl : s.heap.IsList l vs.toArray ∨ s.heap.IsTuple l vs.toArray) (e : EachIs R vs bs) (er : EachIs (fun v b => ∃ as, Reads s.heap v (enc b) as) vs bs) (hal : AllAlike (bs.map enc)) (hk : Sortable (bs.map enc)) (hL : bs.length ≤ sizeLine)
    (hu : ∀ b, b ∈ bs → A.units + 2 + (enc b).depth < cLine) (h : ∀ out, out.length = bs.length → EachIs R out (bs.mergeSort (dataLe false enc)) → Q (.ref (s.heap.objs.size + 1)) { s with heap := sortedAll s.heap vs (List.toArray out) }) :
    wpAny (model prog w) A (call (.builtin "sorted") [.ref l]) Q E s := by
  rcases hl with hl | hl
  · exact sorted_data hl e er hal hk hL hu h
  · have er' : EachIs (fun v b => ∃ as, Reads (sortingHeap (copyHeap s.heap vs) (s.heap.objs.size + 1) vs) v (enc b) as) vs bs := er.mono fun _ _ ⟨as, r⟩ => ⟨as, PyProof.Rows.Reads.keeps (fun _ _ => sorting_copy_old) r⟩
    have hL' : vs.length ≤ sizeLine := by rw [e.length]; exact hL
    exact sorted_of_sortT hl hL' (args_sorted1 _) (fun _ => args_list_sort _) fun _ => list_sort_vals (κ := dataKind (sortingHeap (copyHeap s.heap vs) (s.heap.objs.size + 1) vs) (bs.map enc)) (s := { s with heap := copyHeap s.heap vs }) (copyHeap_at s.heap vs)
      (SortsAt.data (s := { s with heap := sortingHeap (copyHeap s.heap vs) (s.heap.objs.size + 1) vs }) (each_map (R := fun v d => ∃ as, Reads (sortingHeap (copyHeap s.heap vs) (s.heap.objs.size + 1) vs) v d as) enc er') hal hk (bound_map hu)) hL'
      ⟨rfl, h _ (by rw [sortVals_length false rfl]; exact e.length) (sortVals_data false e er' hal)⟩
end
section
variable {X : Cx} {W : WX}
def rSorted (K : PySem.W.Frag) : List V → Hp → VK → Prop := fun vs H Q => ∃ (a : Addr) (xs : List (V × PyData)), vs = [V.ref a] ∧ (SqL K H a (xs.map (·.1)) ∨ SqT K H a (xs.map (·.1))) ∧ DpAll K H (xs.map (·.1)) (xs.map (·.2)) ∧ PySem.W.AllAlike (xs.map (·.2)) ∧ PySem.W.Sortable (xs.map (·.2)) ∧ PyData.depthAll (xs.map (·.2)) ≤ 60 ∧
  ∀ p, H p = none → Q (.ref p) (upd H p (.lst ((isort (leD false) xs).map (·.1))))
theorem each_of {I : V × PyData → Value → Prop} : ∀ {xs : List (V × PyData)} {us : List Value}, Vals (xs.map (·.1)) us → PySem.W.EachIs (fun u (b : V × PyData) => RelV b.1 u) us xs
  | [], _, r => by
    cases r
    exact .nil
  | x :: xs, _, r => by
    rw [List.map_cons] at r
    cases r with
    | cons a b => exact .cons a (each_of (I := I) b)
theorem vals_of_each : ∀ {xs : List (V × PyData)} {us : List Value}, PySem.W.EachIs (fun u (b : V × PyData) => RelV b.1 u) us xs → Vals (xs.map (·.1)) us
  | _, _, .nil => .nil
  | _, _, .cons a b => .cons a (vals_of_each b)
theorem depthAll_mem : ∀ {ps : List PyData} {d : PyData}, d ∈ ps → d.depth ≤ PyData.depthAll ps
  | p :: ps, d, h => by
    rw [PyData.depthAll]
    rcases List.mem_cons.mp h with rfl | h
    · exact Nat.le_max_left _ _
    · exact Nat.le_trans (depthAll_mem h) (Nat.le_max_right _ _)
theorem cr_sorted (hu : X.A.units + 64 < cLine) : CallR X (.builtin "sorted") (rSorted X.K) := by
  intro pins s σ H vs us Q I r h
  obtain ⟨a, xs, rfl, hs, hd, hal, hk, hdp, q⟩ := h
  rw [Vals.ref1 r]
  have hl : ∃ its : List Value, Vals (xs.map (·.1)) its ∧ (s.heap.IsList a its.toArray ∨ s.heap.IsTuple a its.toArray) ∧ (xs.map (·.1)).length ≤ sizeLine := by
    rcases hs with hs | hs
    · obtain ⟨its, rv, hl, hz⟩ := I.list hs
      exact ⟨its, rv, .inl hl.isList, hz⟩
    · obtain ⟨its, rv, hl, hz⟩ := I.tuple hs
      exact ⟨its, rv, .inr hl, hz⟩
  obtain ⟨its, rv, hl, hz⟩ := hl
  rw [List.length_map] at hz
  have er : PySem.W.EachIs (fun v (b : V × PyData) => ∃ as, Reads s.heap v b.2 as) its xs := by
    obtain ⟨as, hr⟩ := Dp.readsAll I _ _ _ hd rv
    exact PySem.W.readsAll_each (fun b : V × PyData => b.2) hr
  refine sorted_any (enc := fun b : V × PyData => b.2) hl (each_of (I := fun _ _ => True) rv) er hal hk hz (fun b hb => ?_) fun out ho eo => ?_
  · have := depthAll_mem (List.mem_map.mpr ⟨b, hb, rfl⟩ : b.2 ∈ xs.map (·.2))
    omega
  · rw [sortD_eq] at eo
    obtain ⟨c, hc⟩ := sortedAll_at s.heap its out.toArray
    have hn := I.hok.fresh (Nat.le_succ s.heap.objs.size)
    have hp := isort_perm (leD false) xs
    refine ⟨.ref (s.heap.objs.size + 1), _, I.laid (t' := s.toks) (a := s.heap.objs.size + 1) (fun _ _ e => sortedAll_old e) (Nat.le_succ _) (show ObjOk X.prog X.w _ _ _ (.lst ((isort (leD false) xs).map (·.1))) from ⟨?_, out, c, vals_of_each eo, hc⟩), rfl, q _ hn⟩
    rw [List.length_map, hp.length_eq]
    exact hz
def alikeB' (xs : List PyData) : Bool := xs.all fun x => xs.all fun y => PySem.W.alike x y
def sortB (xs : List PyData) : Bool := (xs.all fun x => match x with
  | .tuple (_ :: _) => true
  | _ => false) || xs.all fun x => match x with
  | .none => false
  | .tuple _ => false
  | _ => true
theorem sortB_ok {xs : List PyData} (h : sortB xs = true) : PySem.W.Sortable xs := by
  unfold sortB at h
  rw [Bool.or_eq_true] at h
  rcases h with h | h
  · refine .inl fun d hd => ?_
    have := List.all_eq_true.mp h d hd
    split at this
    · exact ⟨_, _, rfl⟩
    · cases this
  · refine .inr fun d hd => ?_
    have := List.all_eq_true.mp h d hd
    split at this
    · cases this
    · cases this
    · rename_i h1 h2
      exact ⟨h1, fun xs e => h2 xs e⟩
/-- what is sorted, by data -/
def sortO (h : IH) (ds : List D) : Option (List D) := match mapO (toPy 12 h) ds with
  | some ps => if (alikeB' ps && sortB ps && decide (PyData.depthAll ps ≤ 60)) = true then some ((isort (leD false) (ds.zip ps)).map (·.1)) else none
  | none => none
def pySorted : List D → IH → Res D := fun as h => match as with
  | [x] => match seqD h x with
    | some ds => match sortO h ds with
      | some ds' => .val (.ref h.length) (h ++ [.lst ds'])
      | none => .stk
    | none => .stk
  | _ => .stk
theorem mapO_length {α β : Type} {f : α → Option β} : ∀ {xs : List α} {ys : List β}, mapO f xs = some ys → xs.length = ys.length
  | [], _, e => by
    cases e
    rfl
  | x :: xs, ys, e => by
    unfold mapO at e
    split at e
    · rename_i a b z1 z2
      cases e
      rw [List.length_cons, List.length_cons, mapO_length z2]
    · cases e
theorem rps_zip3 {K : KX} {H : Hp} {μ : List Addr} : ∀ {vs : List V} {ds : List D} {ps : List PyData}, Rps K H μ vs ds → vs.length = ps.length → Rps K H μ ((vs.zip ps).map (·.1)) ((ds.zip ps).map (·.1))
  | _, _, [], .nil, _ => .nil
  | _, _, _ :: _, .nil, e => by simp at e
  | _, _, [], .cons _ _, e => by simp at e
  | _, _, p :: ps, .cons a b, e => .cons a (rps_zip3 b (by simpa using e))
theorem insS_rel {R : V → D → Prop} {x : V} {d : D} {p : PyData} (r : R x d) : ∀ {vs : List (V × PyData)} {ds : List (D × PyData)}, Paired (fun a b => R a.1 b.1 ∧ a.2 = b.2) vs ds → Paired (fun a b => R a.1 b.1 ∧ a.2 = b.2) (insS (leD false) (x, p) vs) (insS (leD false) (d, p) ds)
  | _, _, .nil => .cons ⟨r, rfl⟩ .nil
  | _, _, .cons (a := a) (b := b) h t => by
    unfold insS
    have e : leD false (x, p) a = leD false (d, p) b := by
      unfold leD
      rw [h.2]
    rw [e]
    split
    · exact .cons ⟨r, rfl⟩ (.cons h t)
    · exact .cons h (insS_rel r t)
theorem isort_rel {R : V → D → Prop} : ∀ {vs : List (V × PyData)} {ds : List (D × PyData)}, Paired (fun a b => R a.1 b.1 ∧ a.2 = b.2) vs ds → Paired (fun a b => R a.1 b.1 ∧ a.2 = b.2) (isort (leD false) vs) (isort (leD false) ds)
  | _, _, .nil => .nil
  | _, _, .cons (a := a) (b := b) h t => by
    unfold isort
    obtain ⟨x, p⟩ := a
    obtain ⟨d, p'⟩ := b
    have e : p = p' := h.2
    subst e
    exact insS_rel h.1 (isort_rel t)
theorem rps_paired {K : KX} {H : Hp} {μ : List Addr} : ∀ {vs : List (V × PyData)} {ds : List (D × PyData)}, Paired (fun a b => Rp K H μ a.1 b.1 ∧ a.2 = b.2) vs ds → Rps K H μ (vs.map (·.1)) (ds.map (·.1))
  | _, _, .nil => .nil
  | _, _, .cons h t => .cons h.1 (rps_paired t)
theorem paired_rps {K : KX} {H : Hp} {μ : List Addr} : ∀ {vs : List V} {ds : List D} {ps : List PyData}, Rps K H μ vs ds → vs.length = ps.length → Paired (fun (a : V × PyData) (b : D × PyData) => Rp K H μ a.1 b.1 ∧ a.2 = b.2) (vs.zip ps) (ds.zip ps)
  | _, _, [], .nil, _ => .nil
  | _, _, _ :: _, .nil, e => by simp at e
  | _, _, [], .cons _ _, e => by simp at e
  | _, _, p :: ps, .cons a b, e => .cons ⟨a, rfl⟩ (paired_rps b (by simpa using e))
theorem zip_fst {α β : Type} : ∀ {xs : List α} {ys : List β}, xs.length = ys.length → (xs.zip ys).map (·.1) = xs
  | [], [], _ => rfl
  | x :: xs, y :: ys, e => by
    rw [List.zip_cons_cons, List.map_cons, zip_fst (by simpa using e)]
  | [], _ :: _, e => by simp at e
  | _ :: _, [], e => by simp at e
theorem zip_snd {α β : Type} : ∀ {xs : List α} {ys : List β}, xs.length = ys.length → (xs.zip ys).map (·.2) = ys
  | [], [], _ => rfl
  | x :: xs, y :: ys, e => by
    rw [List.zip_cons_cons, List.map_cons, zip_snd (by simpa using e)]
  | [], _ :: _, e => by simp at e
  | _ :: _, [], e => by simp at e
theorem sd_sorted : SdC X (rSorted X.K) pySorted := by
  intro W σ xs as H μ h Q rl rs p
  unfold pySorted at p
  split at p
  · split at p
    · rename_i ds z
      split at p
      · rename_i ds' z2
        unfold sortO at z2
        split at z2
        · rename_i ps z3
          split at z2
          · rename_i z4
            cases z2
            rw [Bool.and_eq_true, Bool.and_eq_true] at z4
            cases rs with
            | cons r1 q1 =>
              cases q1
              obtain ⟨a, vs, rfl, s, q⟩ := seqD_ok rl r1 z
              have hl : vs.length = ps.length := by rw [q.length]; exact mapO_length z3
              have hd := toPys_ok (toPy_ok rl 12) q z3
              refine ⟨a, vs.zip ps, rfl, by rw [zip_fst hl]; exact s, by rw [zip_fst hl, zip_snd hl]; exact hd, ?_, by rw [zip_snd hl]; exact sortB_ok z4.1.2, by rw [zip_snd hl]; exact of_decide_eq_true z4.2, fun pp hp => ?_⟩
              · rw [zip_snd hl]
                exact fun d hd d' hd' => List.all_eq_true.mp (List.all_eq_true.mp z4.1.1 d hd) d' hd'
              · obtain ⟨x2, rl2, rp2⟩ := new_lst rl (rps_paired (isort_rel (paired_rps q hl))) hp
                exact p _ _ _ x2 rl2 rp2
          · cases z2
        · cases z2
      · exact p.elim
    · exact p.elim
  · exact p.elim
end
end DD
set_option Elab.async false
set_option linter.all false
set_option maxRecDepth 100000
/-! dicts: len, list; the greatest of three -/
namespace DD
open PySem PySem.Spec L2 PyProof.Rows
section
variable {X : Cx} {W : WX}
/-! ### len -/
def lenA (h : IH) (d : D) : Option Nat := match d with
  | .ref n => match h[n]? with
    | some (.dic _ kvs) => some kvs.length
    | _ => lenD h d
  | d => lenD h d
def pyLenA : List D → IH → Res D := fun as h => match as with
  | [x] => match lenA h x with
    | some n => .val (.int n) h
    | none => .stk
  | _ => .stk
def rLenD (X : Cx) : List V → Hp → VK → Prop := fun xs H Q => ∃ a n, xs = [V.ref a] ∧ ((∃ kvs : List (Key × V), Rd H a (.dK kvs) ∧ kvs.length = n) ∨ ∃ kws, NDic X H a kws ∧ kws.length = n) ∧ Q (.int (n : Nat)) H
theorem cr_lenD : CallR X (.builtin "len") (rLenD X) := by
  intro pins s σ H xs us Q I r h
  obtain ⟨a, n, rfl, hd, q⟩ := h
  obtain ⟨u, rfl, rx⟩ := vals1 r
  obtain rfl : u = Value.ref a := rx
  rcases hd with ⟨kvs, hd, rfl⟩ | ⟨kws, hd, rfl⟩
  · exact d_len I hd fun t s' I' => ⟨.int _, H, I', ⟨t, rfl⟩, q⟩
  · exact n_len I hd fun t s' I' => ⟨.int _, H, I', ⟨t, rfl⟩, q⟩
theorem cr_lenA : CallR X (.builtin "len") (fun xs H Q => (∃ x n, xs = [x] ∧ LenV X.K x H n ∧ Q (V.int (n : Nat)) H) ∨ rLenD X xs H Q) := CallR.or call_len cr_lenD
theorem OkO.kinds {K : KX} {H : Hp} {μ : List Addr} {a : Addr} {lk : Bool} {kvs : List (KD × D)} (q : OkO K H μ a (.dic lk kvs)) : (∃ kws : List (Key × V), lkd lk H a (.dK kws) ∧ Kr K H μ kws kvs) ∨ ∃ kws, lkd lk H a (DN K.P K.w a kws) ∧ Kts K H μ kws kvs := by
  rcases q with ⟨kws, h1, h2, h3⟩ | ⟨kws, h1, _, h3⟩
  · exact .inl ⟨kws, h1, h2, h3⟩
  · exact .inr ⟨kws, h1, h3⟩
theorem sd_lenA : SdC X (fun xs H Q => (∃ x n, xs = [x] ∧ LenV X.K x H n ∧ Q (V.int (n : Nat)) H) ∨ rLenD X xs H Q) pyLenA := by
  intro W σ xs as H μ h Q rl rs p
  unfold pyLenA at p
  split at p
  · split at p
    · rename_i x n z
      cases rs with
      | cons r1 q1 =>
        cases q1
        have q := p.at rl (.int _)
        unfold lenA at z
        split at z
        · rename_i m
          split at z
          · rename_i lk kvs z2
            cases z
            cases r1 with
            | ref e1 =>
              obtain ⟨o, ho, oq⟩ := rl.at e1
              rw [z2] at ho
              cases ho
              refine .inr ⟨_, _, rfl, ?_, q⟩
              rcases OkO.kinds oq with ⟨kws, h1, h2⟩ | ⟨kws, h1, h2⟩
              · exact .inl ⟨kws, h1.rd, h2.len⟩
              · exact .inr ⟨kws, .inl ⟨h1.rd, h2.keys⟩, Paired.length h2⟩
          · exact .inl ⟨_, _, rfl, lenD_ok rl r1 z, q⟩
        · exact .inl ⟨_, _, rfl, lenD_ok rl r1 z, q⟩
    · exact p.elim
  · exact p.elim
/-! ### list -/
/-- the keys of a dict, at new addresses or not -/
def IsKeysN (kws : List (NestedKey × Addr × V)) : List V := kws.map fun p => V.ref p.2.1
def rListN (X : Cx) : List V → Hp → VK → Prop := fun xs H Q => ∃ d kws, xs = [V.ref d] ∧ NDic X H d kws ∧ ∀ p, H p = none → Q (.ref p) (upd H p (.lst (IsKeysN kws)))
theorem cr_listN (hc : X.calm = true) : CallR X (.type "list") (rListN X) := by
  intro pins s σ H xs us Q I r h
  obtain ⟨d, kws, rfl, hd, q⟩ := h
  obtain ⟨u, rfl, rx⟩ := vals1 r
  obtain rfl : u = Value.ref d := rx
  obtain ⟨z, hs, ks, pr, o, es, ep, ho, hx, hdt, he, hk, hn⟩ := hd.dict I
  have l1 : es.size = ks.length := size_of_entries he
  have l2 : kws.length = ks.length := Paired.length pr
  refine PySem.W.kdl_call (kdl_raw hs hx hdt) (I.ok.hd hc) ho (by omega) fun h' tk acc' c' kp e it => ?_
  have ea : acc'.toList = ks.map fun x => Value.ref x.2.1 := by
    have hl : acc'.toList.length = ks.length := by rw [Array.length_toList, it.1]; exact l1
    apply List.ext_getElem?
    intro j
    rw [List.getElem?_map]
    cases hj : acc'.toList[j]? with
    | none =>
      have h1 := List.getElem?_eq_none_iff.mp hj
      rw [List.getElem?_eq_none (by omega)]
      all_goals rfl
    | some v =>
      obtain ⟨en, hen, hv⟩ := it.2 j v (by rw [← Array.getElem?_toList]; exact hj)
      have qe := entry_at he j
      rw [hen] at qe
      cases hb : ks[j]? with
      | none =>
        rw [hb] at qe
        exact nomatch (show some en = none from qe)
      | some b =>
        rw [hb] at qe
        have e2 : en = entryOfKey (nestedKind X.prog X.w) b := Option.some.inj qe
        rw [hv, e2]
        all_goals rfl
  have hv : ∀ {l : List (NestedKey × Addr × V)} {m : List (NestedKey × Addr × Value)}, KN l m → Vals (IsKeysN l) (m.map fun x => Value.ref x.2.1) := by
    intro l m q
    induction q with
    | nil => exact .nil
    | @cons p q ps qs h t ih =>
      refine .cons ?_ ih
      show Value.ref q.2.1 = Value.ref p.2.1
      rw [h.2.1]
  have rv : Vals (IsKeysN kws) acc'.toList := by rw [ea]; exact hv pr
  have hz : (IsKeysN kws).length ≤ sizeLine := by unfold IsKeysN; rw [List.length_map]; exact z
  refine ⟨.ref s.heap.objs.size, _, I.laid (t' := tk) (o := .lst (IsKeysN kws)) kp (Nat.le_refl _) ?_, rfl, q _ (I.hok.fresh (Nat.le_refl _))⟩
  exact ⟨hz, acc'.toList, c', rv, by rw [Array.toArray_toList]; exact e⟩
def rListK : List V → Hp → VK → Prop := fun xs H Q => ∃ p kvs, xs = [.ref p] ∧ Rd H p (.dK kvs) ∧ ∀ q, H q = none → Q (.ref q) (upd H q (.lst (kvs.map fun kv => kV kv.1)))
theorem cr_listK (hc : X.calm = true) : CallR X (.type "list") rListK := by
  intro pins s σ H xs us Q I r h
  obtain ⟨p, kvs, e, hk, q⟩ := h
  subst e
  obtain ⟨u, eu, rx⟩ := vals1 r
  subst eu
  obtain rfl : u = Value.ref p := rx
  obtain ⟨z, lo, vs, rk, hd⟩ := dk_rd I.hok hk
  obtain ⟨ep, hat⟩ := hd.dictAt
  have hl : kvs.length = vs.length := Paired.length rk
  refine PySem.W.kdl_call (PySem.W.kdl_dict (knd := mixKind X.prog X.w) (kvs := vs) (ep := ep) lo) (I.ok.hd hc) hat (by rw [← hl]; exact z) fun h' tk acc' c' hkeep hS hacc => ?_
  refine ⟨.ref s.heap.objs.size, upd H s.heap.objs.size (.lst (kvs.map fun kv => kV kv.1)), I.laid hkeep (Nat.le_refl _) (show ObjOk X.prog X.w _ _ _ (.lst (kvs.map fun kv => kV kv.1)) from ⟨?_, acc'.toList, c', ?_, ?_⟩), rfl, q _ (I.hok.fresh (Nat.le_refl _))⟩
  · rw [List.length_map]; exact z
  · have el : acc'.toList.length = acc'.size := by simp
    refine vals_of_at (by rw [List.length_map, el, hacc.1, hl]) fun j x w h1 h2 => ?_
    obtain ⟨k, y, hky, hi⟩ := hacc.2 j w (by rw [← Array.getElem?_toList]; exact h2)
    have e1 : (kvs.map (·.1))[j]? = some k := by
      rw [KV.keys rk, List.getElem?_map, hky] <;> rfl
    have e2 : (kvs.map fun kv => kV kv.1)[j]? = some (kV k) := by
      have e3 : (kvs.map fun kv => kV kv.1) = (kvs.map (·.1)).map kV := by rw [List.map_map] <;> rfl
      rw [e3, List.getElem?_map, e1] <;> rfl
    rw [e2] at h1
    cases h1
    exact keyIs_rel hi
  · rw [Array.toArray_toList]; exact hS
/-- list of a dict, of a list, of a tuple -/
def pyListA : List D → IH → Res D := fun as h => match as with
  | [.ref n] => match h[n]? with
    | some (.dic _ kvs) => .val (.ref h.length) (h ++ [.lst (kvs.map fun p => unk p.1)])
    | _ => pyList [.ref n] h
  | as => pyList as h
abbrev rListA (X : Cx) : List V → Hp → VK → Prop := fun xs H Q => (∃ p ys, xs = [V.ref p] ∧ (SqL X.K H p ys ∨ SqT X.K H p ys) ∧ ∀ (l : Addr), H l = none → Q (V.ref l) (upd H l (HO.lst ys))) ∨ (rListK xs H Q ∨ rListN X xs H Q)
theorem cr_listA {k : Nat} (C : Ctx X W k) : CallR X (.type "list") (rListA X) := CallR.or call_list_of (CallR.or (cr_listK C.calm) (cr_listN C.calm))
theorem rps_kOf {K : KX} {H : Hp} {μ : List Addr} : ∀ {kws : List (Key × V)} {kvs : List (KD × D)}, kws.map (fun p => kOf p.1) = kvs.map (·.1) → Rps K H μ (kws.map fun kv => kV kv.1) (kvs.map fun p => unk p.1)
  | [], [], _ => .nil
  | [], _ :: _, e => by simp at e
  | _ :: _, [], e => by simp at e
  | (a, v) :: kws, (b, d) :: kvs, e => by
    simp only [List.map_cons, List.cons.injEq] at e
    obtain ⟨rfl, e⟩ := e
    refine .cons ?_ (rps_kOf e)
    cases a
    · exact .int _
    · exact .str _
theorem rps_keysN {K : KX} {H : Hp} {μ : List Addr} {kws : List (NestedKey × Addr × V)} {kvs : List (KD × D)} (r : Kts K H μ kws kvs) : Rps K H μ (IsKeysN kws) (kvs.map fun p => unk p.1) := by
  induction r with
  | nil => exact .nil
  | @cons p q ps qs h t ih => exact .cons h.2.2.1 ih
theorem sd_listA : SdC X (rListA X) pyListA := by
  intro W σ xs as H μ h Q rl rs p
  unfold pyListA at p
  split at p
  · rename_i n
    split at p
    · rename_i lk kvs z
      cases rs with
      | cons r1 q1 =>
        cases q1
        cases r1 with
        | ref e1 =>
          obtain ⟨o, ho, oq⟩ := rl.at e1
          rw [z] at ho
          cases ho
          rcases OkO.kinds oq with ⟨kws, h1, h2⟩ | ⟨kws, h1, h2⟩
          · refine .inr (.inl ⟨_, kws, rfl, h1.rd, fun pp hp => ?_⟩)
            obtain ⟨x2, rl2, rp2⟩ := new_lst rl (rps_kOf h2.1) hp
            exact p _ _ _ x2 rl2 rp2
          · refine .inr (.inr ⟨_, kws, rfl, .inl ⟨h1.rd, h2.keys⟩, fun pp hp => ?_⟩)
            obtain ⟨x2, rl2, rp2⟩ := new_lst rl (rps_keysN h2) hp
            exact p _ _ _ x2 rl2 rp2
    · exact .inl (sd_list W σ xs _ H μ h Q rl rs p)
  · exact .inl (sd_list W σ xs _ H μ h Q rl rs p)
end
end DD
namespace DD
open PySem PySem.Spec L2 PyProof.Rows
section
variable {X : Cx} {W : WX}
/-! ### the greatest, the least of two or three -/
def pyMaxA : List D → IH → Res D := fun as h => match as with
  | [.int i, .int j, .int k] => .val (.int (max (max i j) k)) h
  | as => pyMax as h
def pyMinA : List D → IH → Res D := fun as h => match as with
  | [.int i, .int j, .int k] => .val (.int (min (min i j) k)) h
  | as => pyMin as h
abbrev rMaxA (X : Cx) : List V → Hp → VK → Prop := fun xs H Q => ((∃ i j, xs = [V.int i, V.int j] ∧ Q (V.int (if j > i then j else i)) H) ∨ rBest X.K PySem.W.maxD xs H Q) ∨ rNuC3 nuMax3 xs H Q
abbrev rMinA (X : Cx) : List V → Hp → VK → Prop := fun xs H Q => ((∃ i j, xs = [V.int i, V.int j] ∧ Q (V.int (if j < i then j else i)) H) ∨ rBest X.K PySem.W.minD xs H Q) ∨ rNuC3 nuMin3 xs H Q
theorem cr_maxAA {k : Nat} (C : Ctx X W k) : CallR X (.builtin "max") (rMaxA X) := CallR.or (cr_maxA C) (call_max3Nu C.calm)
theorem cr_minAA {k : Nat} (C : Ctx X W k) : CallR X (.builtin "min") (rMinA X) := CallR.or (cr_minA C) (call_min3Nu C.calm)
theorem nuMax3_int (i j k : Int) : nuMax3 (.int i) (.int j) (.int k) = some (.int (max (max i j) k)) := by
  have h : ∀ a b : Int, nuMax2 (.int a) (.int b) = some (.int (max a b)) := by
    intro a b
    show some (if decide (a < b) = true then V.int b else V.int a) = _
    by_cases z : a < b
    · simp [z, Int.max_eq_right (Int.le_of_lt z)]
    · simp [z, Int.max_eq_left (Int.not_lt.mp z)]
  unfold nuMax3
  rw [h]
  exact h _ _
theorem nuMin3_int (i j k : Int) : nuMin3 (.int i) (.int j) (.int k) = some (.int (min (min i j) k)) := by
  have h : ∀ a b : Int, nuMin2 (.int a) (.int b) = some (.int (min a b)) := by
    intro a b
    show some (if decide (b < a) = true then V.int b else V.int a) = _
    by_cases z : b < a
    · simp [z, Int.min_eq_right (Int.le_of_lt z)]
    · simp [z, Int.min_eq_left (Int.not_lt.mp z)]
  unfold nuMin3
  rw [h]
  exact h _ _
theorem sd_maxA : SdC X (rMaxA X) pyMaxA := by
  intro W σ xs as H μ h Q rl rs p
  unfold pyMaxA at p
  split at p
  · cases rs with
    | cons a b => cases b with
      | cons b c => cases c with
        | cons c d =>
          cases d
          cases a
          cases b
          cases c
          exact .inr ⟨_, _, _, _, rfl, nuMax3_int _ _ _, p.at rl (.int _)⟩
  · exact .inl (sd_max W σ xs _ H μ h Q rl rs p)
theorem sd_minA : SdC X (rMinA X) pyMinA := by
  intro W σ xs as H μ h Q rl rs p
  unfold pyMinA at p
  split at p
  · cases rs with
    | cons a b => cases b with
      | cons b c => cases c with
        | cons c d =>
          cases d
          cases a
          cases b
          cases c
          exact .inr ⟨_, _, _, _, rfl, nuMin3_int _ _ _, p.at rl (.int _)⟩
  · exact .inl (sd_min W σ xs _ H μ h Q rl rs p)
end
end DD
set_option Elab.async false
set_option linter.all false
set_option maxRecDepth 100000
/-! VV: values without a heap, over DD. U: data as trees; a function's slots hold trees; who owns which cell is told by the proofs alone. -/
namespace VV
open PySem L2 DD

inductive U where
  | non | bl (b : Bool) | int (i : Int) | str (x : Str) | tup (us : List U) | lst (us : List U) | fl (us : List U) | dic (kvs : List (KD × U)) | op (v : V) | gl (x : Str) | ins (c : Str) (fs : List (Str × U))
abbrev UE := List (Option U)
structure XU where
  cls : Str
  fs : List (Str × U)
inductive ER (α : Type) where
  | val (a : α) (e : UE) | exc (x : XU) (e : UE) | stk
inductive UO where
  | nx (e : UE) | rt (u : U) (e : UE) | bk (e : UE) | ct (e : UE) | exc (x : XU) (e : UE) | stk

mutual
/-- no list, no dict in it -/
def flat : U → Bool
  | .tup us => flats us
  | .lst _ => false
  | .fl us => flats us
  | .dic _ => false
  | .ins _ _ => false
  | _ => true
def flats : List U → Bool
  | [] => true
  | u :: us => flat u && flats us
end
theorem flats_all : ∀ us : List U, flats us = us.all flat
  | [] => rfl
  | u :: us => by rw [flats, List.all_cons, flats_all us]
theorem flats_map {α : Type} {f : α → U} (h : ∀ a, flat (f a) = true) (xs : List α) : flats (xs.map f) = true := by
  rw [flats_all, List.all_map, List.all_eq_true]
  exact fun a _ => h a

section
variable (h : IH) (F : Nat → Prop)
mutual
/-- u is told by d; all cells are in F -/
inductive RF : U → D → Prop
  | non : RF .non .non
  | bl (b : Bool) : RF (.bl b) (.bl b)
  | int (i : Int) : RF (.int i) (.int i)
  | str (x : Str) : RF (.str x) (.str x)
  | op (v : V) : RF (.op v) (.op v)
  | tup {us : List U} {ds : List D} : RFs us ds → RF (.tup us) (.tup ds)
  | fl {us : List U} {ds : List D} : RFs us ds → RF (.fl us) (.fl ds)
  | ref {n : Nat} {us : List U} {ds : List D} : F n → h[n]? = some (.lst ds) → RFs us ds → RF (.lst us) (.ref n)
  | gl (x : Str) : RF (.gl x) (.gl x)
  | ins {n : Nat} {c : Str} {fs : List (Str × U)} {gs : List (Str × D)} : F n → h[n]? = some (.ins c gs) → fs.map (·.1) = gs.map (·.1) → RFs (fs.map (·.2)) (gs.map (·.2)) → RF (.ins c fs) (.ref n)
  | dic {n : Nat} {lk : Bool} {ks : List (KD × U)} {kvs : List (KD × D)} : F n → h[n]? = some (.dic lk kvs) → ks.map (·.1) = kvs.map (·.1) → RFs (ks.map (·.2)) (kvs.map (·.2)) → RF (.dic ks) (.ref n)
inductive RFs : List U → List D → Prop
  | nil : RFs [] []
  | cons {u : U} {d : D} {us : List U} {ds : List D} : RF u d → RFs us ds → RFs (u :: us) (d :: ds)
end
mutual
/-- u is told by d; its lists to a depth of k are owned: their cells are S; what is deeper is in F -/
inductive RV : Nat → List Nat → U → D → Prop
  | fz {u : U} {d : D} : RF h F u d → RV 0 [] u d
  | non {k : Nat} : RV (k + 1) [] .non .non
  | bl {k : Nat} (b : Bool) : RV (k + 1) [] (.bl b) (.bl b)
  | int {k : Nat} (i : Int) : RV (k + 1) [] (.int i) (.int i)
  | str {k : Nat} (x : Str) : RV (k + 1) [] (.str x) (.str x)
  | op {k : Nat} (v : V) : RV (k + 1) [] (.op v) (.op v)
  | fl {k : Nat} {us : List U} {ds : List D} : RFs h F us ds → flats us = true → RV (k + 1) [] (.fl us) (.fl ds)
  | tup {k : Nat} {S : List Nat} {us : List U} {ds : List D} : RVs (k + 1) S us ds → RV (k + 1) S (.tup us) (.tup ds)
  | ref {k n : Nat} {S : List Nat} {us : List U} {ds : List D} : h[n]? = some (.lst ds) → RVs k S us ds → RV (k + 1) (n :: S) (.lst us) (.ref n)
  | gl {k : Nat} (x : Str) : RV (k + 1) [] (.gl x) (.gl x)
  | ins {k n : Nat} {c : Str} {S : List Nat} {fs : List (Str × U)} {gs : List (Str × D)} : h[n]? = some (.ins c gs) → fs.map (·.1) = gs.map (·.1) ∧ (gs.map (·.1)).Nodup → RVs k S (fs.map (·.2)) (gs.map (·.2)) → RV (k + 1) (n :: S) (.ins c fs) (.ref n)
  | dic {k n : Nat} {S : List Nat} {ks : List (KD × U)} {kvs : List (KD × D)} : h[n]? = some (.dic false kvs) → ks.map (·.1) = kvs.map (·.1) ∧ (kvs.map fun p => nk p.1).Nodup → RVs k S (ks.map (·.2)) (kvs.map (·.2)) → RV (k + 1) (n :: S) (.dic ks) (.ref n)
inductive RVs : Nat → List Nat → List U → List D → Prop
  | nil {k : Nat} : RVs k [] [] []
  | cons {k : Nat} {S T : List Nat} {u : U} {d : D} {us : List U} {ds : List D} : RV k S u d → RVs k T us ds → RVs k (S ++ T) (u :: us) (d :: ds)
end
end

section
variable {h h' : IH} {F F' : Nat → Prop}
mutual
theorem RF.mono (hf : ∀ n, F n → F' n) (hh : ∀ n, F n → h'[n]? = h[n]?) : ∀ {u : U} {d : D}, RF h F u d → RF h' F' u d
  | _, _, .non => .non
  | _, _, .bl b => .bl b
  | _, _, .int b => .int b
  | _, _, .str b => .str b
  | _, _, .op b => .op b
  | _, _, .tup r => .tup (RFs.mono hf hh r)
  | _, _, .fl r => .fl (RFs.mono hf hh r)
  | _, _, .ref a b r => .ref (hf _ a) ((hh _ a).trans b) (RFs.mono hf hh r)
  | _, _, .dic a b c r => .dic (hf _ a) ((hh _ a).trans b) c (RFs.mono hf hh r)
  | _, _, .gl x => .gl x
  | _, _, .ins a b c r => .ins (hf _ a) ((hh _ a).trans b) c (RFs.mono hf hh r)
theorem RFs.mono (hf : ∀ n, F n → F' n) (hh : ∀ n, F n → h'[n]? = h[n]?) : ∀ {u : List U} {d : List D}, RFs h F u d → RFs h' F' u d
  | _, _, .nil => .nil
  | _, _, .cons a b => .cons (RF.mono hf hh a) (RFs.mono hf hh b)
end
mutual
theorem RF.flat : ∀ {u : U} {d : D}, RF h F u d → flat u = true → ∀ h' F', RF h' F' u d
  | _, _, .non, _ => fun _ _ => .non
  | _, _, .bl b, _ => fun _ _ => .bl b
  | _, _, .int b, _ => fun _ _ => .int b
  | _, _, .str b, _ => fun _ _ => .str b
  | _, _, .op b, _ => fun _ _ => .op b
  | _, _, .tup r, e => fun h' F' => .tup (RFs.flat r e h' F')
  | _, _, .fl r, e => fun h' F' => .fl (RFs.flat r e h' F')
  | _, _, .ref a b r, e => by simp [VV.flat] at e
  | _, _, .dic a b c r, e => by simp [VV.flat] at e
  | _, _, .gl x, e => fun _ _ => .gl x
  | _, _, .ins a b c r, e => by simp [VV.flat] at e
theorem RFs.flat : ∀ {u : List U} {d : List D}, RFs h F u d → flats u = true → ∀ h' F', RFs h' F' u d
  | _, _, .nil, _ => fun _ _ => .nil
  | _, _, .cons a b, e => fun h' F' => by
    rw [flats, Bool.and_eq_true] at e
    exact .cons (RF.flat a e.1 h' F') (RFs.flat b e.2 h' F')
end
mutual
theorem RF.rv : ∀ {u : U} {d : D} (k : Nat), RF h F u d → VV.flat u = true → RV h F k [] u d
  | _, _, 0, r, _ => .fz r
  | _, _, k + 1, .non, _ => .non
  | _, _, k + 1, .bl b, _ => .bl b
  | _, _, k + 1, .int b, _ => .int b
  | _, _, k + 1, .str b, _ => .str b
  | _, _, k + 1, .op b, _ => .op b
  | _, _, k + 1, .tup r, e => .tup (RFs.rv (k + 1) r e)
  | _, _, k + 1, .fl r, e => .fl (r.flat e _ _) e
  | _, _, k + 1, .ref a b r, e => by simp [VV.flat] at e
  | _, _, k + 1, .dic a b c r, e => by simp [VV.flat] at e
  | _, _, k + 1, .gl x, e => .gl x
  | _, _, k + 1, .ins a b c r, e => by simp [VV.flat] at e
theorem RFs.rv : ∀ {u : List U} {d : List D} (k : Nat), RFs h F u d → flats u = true → RVs h F k [] u d
  | _, _, k, .nil, _ => .nil
  | _, _, k, .cons a b, e => by
    rw [flats, Bool.and_eq_true] at e
    exact RVs.cons (S := []) (T := []) (RF.rv k a e.1) (RFs.rv k b e.2)
end
theorem RFs.rv0 : ∀ {u : List U} {d : List D}, RFs h F u d → RVs h F 0 [] u d
  | _, _, .nil => .nil
  | _, _, .cons a b => RVs.cons (S := []) (T := []) (.fz a) (RFs.rv0 b)
theorem RVs.rf0 : ∀ {S : List Nat} {u : List U} {d : List D}, RVs h F 0 S u d → RFs h F u d ∧ S = []
  | _, _, _, .nil => ⟨.nil, rfl⟩
  | _, _, _, .cons (.fz a) b => by
    obtain ⟨x, rfl⟩ := RVs.rf0 b
    exact ⟨.cons a x, rfl⟩
mutual
theorem RV.mono (hf : ∀ n, F n → F' n) (hh : ∀ n, F n → h'[n]? = h[n]?) : ∀ {k : Nat} {S : List Nat} {u : U} {d : D}, RV h F k S u d → (∀ n ∈ S, h'[n]? = h[n]?) → RV h' F' k S u d
  | _, _, _, _, .fz r, _ => .fz (r.mono hf hh)
  | _, _, _, _, .non, _ => .non
  | _, _, _, _, .bl b, _ => .bl b
  | _, _, _, _, .int b, _ => .int b
  | _, _, _, _, .str b, _ => .str b
  | _, _, _, _, .op b, _ => .op b
  | _, _, _, _, .fl b c, _ => .fl (b.mono hf hh) c
  | _, _, _, _, .tup r, hs => .tup (RVs.mono hf hh r hs)
  | _, _, _, _, .ref b r, hs => .ref ((hs _ List.mem_cons_self).trans b) (RVs.mono hf hh r fun n hn => hs n (List.mem_cons_of_mem _ hn))
  | _, _, _, _, .dic b c r, hs => .dic ((hs _ List.mem_cons_self).trans b) c (RVs.mono hf hh r fun n hn => hs n (List.mem_cons_of_mem _ hn))
  | _, _, _, _, .gl x, _ => .gl x
  | _, _, _, _, .ins b c r, hs => .ins ((hs _ List.mem_cons_self).trans b) c (RVs.mono hf hh r fun n hn => hs n (List.mem_cons_of_mem _ hn))
theorem RVs.mono (hf : ∀ n, F n → F' n) (hh : ∀ n, F n → h'[n]? = h[n]?) : ∀ {k : Nat} {S : List Nat} {u : List U} {d : List D}, RVs h F k S u d → (∀ n ∈ S, h'[n]? = h[n]?) → RVs h' F' k S u d
  | _, _, _, _, .nil, _ => .nil
  | _, _, _, _, .cons a b, hs => .cons (RV.mono hf hh a fun n hn => hs n (List.mem_append_left _ hn)) (RVs.mono hf hh b fun n hn => hs n (List.mem_append_right _ hn))
end
mutual
/-- what is owned may be frozen -/
theorem RV.frz : ∀ {k : Nat} {S : List Nat} {u : U} {d : D}, RV h F k S u d → (∀ n, F n → F' n) → (∀ n ∈ S, F' n) → RF h F' u d
  | _, _, _, _, .fz r, hf, _ => r.mono hf fun _ _ => rfl
  | _, _, _, _, .non, _, _ => .non
  | _, _, _, _, .bl b, _, _ => .bl b
  | _, _, _, _, .int b, _, _ => .int b
  | _, _, _, _, .str b, _, _ => .str b
  | _, _, _, _, .op b, _, _ => .op b
  | _, _, _, _, .fl b c, hf, _ => .fl (b.mono hf fun _ _ => rfl)
  | _, _, _, _, .tup r, hf, hs => .tup (RVs.frz r hf hs)
  | _, _, _, _, .ref b r, hf, hs => .ref (hs _ List.mem_cons_self) b (RVs.frz r hf fun n hn => hs n (List.mem_cons_of_mem _ hn))
  | _, _, _, _, .dic b c r, hf, hs => .dic (hs _ List.mem_cons_self) b c.1 (RVs.frz r hf fun n hn => hs n (List.mem_cons_of_mem _ hn))
  | _, _, _, _, .gl x, _, _ => .gl x
  | _, _, _, _, .ins b c r, hf, hs => .ins (hs _ List.mem_cons_self) b c.1 (RVs.frz r hf fun n hn => hs n (List.mem_cons_of_mem _ hn))
theorem RVs.frz : ∀ {k : Nat} {S : List Nat} {u : List U} {d : List D}, RVs h F k S u d → (∀ n, F n → F' n) → (∀ n ∈ S, F' n) → RFs h F' u d
  | _, _, _, _, .nil, _, _ => .nil
  | _, _, _, _, .cons a b, hf, hs => .cons (RV.frz a hf fun n hn => hs n (List.mem_append_left _ hn)) (RVs.frz b hf fun n hn => hs n (List.mem_append_right _ hn))
end
mutual
theorem RV.bd (hb : ∀ n, F n → n < h.length) : ∀ {k : Nat} {S : List Nat} {u : U} {d : D}, RV h F k S u d → ∀ n ∈ S, n < h.length
  | _, _, _, _, .tup r, n, hn => RVs.bd hb r n hn
  | _, _, _, _, .ref b r, n, hn => by
    rcases List.mem_cons.mp hn with rfl | hn
    · exact (List.getElem?_eq_some_iff.mp b).1
    · exact RVs.bd hb r n hn
  | _, _, _, _, .dic b c r, n, hn => by
    rcases List.mem_cons.mp hn with rfl | hn
    · exact (List.getElem?_eq_some_iff.mp b).1
    · exact RVs.bd hb r n hn
  | _, _, _, _, .ins b c r, n, hn => by
    rcases List.mem_cons.mp hn with rfl | hn
    · exact (List.getElem?_eq_some_iff.mp b).1
    · exact RVs.bd hb r n hn
theorem RVs.bd (hb : ∀ n, F n → n < h.length) : ∀ {k : Nat} {S : List Nat} {u : List U} {d : List D}, RVs h F k S u d → ∀ n ∈ S, n < h.length
  | _, _, _, _, .cons a b, n, hn => by
    rcases List.mem_append.mp hn with hn | hn
    · exact RV.bd hb a n hn
    · exact RVs.bd hb b n hn
end
theorem RFs.length : ∀ {us : List U} {ds : List D}, RFs h F us ds → us.length = ds.length
  | _, _, .nil => rfl
  | _, _, .cons _ b => by rw [List.length_cons, List.length_cons, b.length]
theorem RFs.get : ∀ {us : List U} {ds : List D} {i : Nat} {u : U}, RFs h F us ds → us[i]? = some u → ∃ d, ds[i]? = some d ∧ RF h F u d
  | _, _, _, _, .nil, e => by simp at e
  | _, _, 0, _, .cons a _, e => by
    simp at e
    subst e
    exact ⟨_, rfl, a⟩
  | _, _, i + 1, _, .cons _ b, e => by
    obtain ⟨v, h1, h2⟩ := b.get (i := i) (by simpa using e)
    exact ⟨v, by simpa using h1, h2⟩
theorem RFs.append : ∀ {us vs : List U} {ds es : List D}, RFs h F us ds → RFs h F vs es → RFs h F (us ++ vs) (ds ++ es)
  | _, _, _, _, .nil, s => s
  | _, _, _, _, .cons a b, s => .cons a (b.append s)
theorem RFs.take : ∀ {us : List U} {ds : List D} (n : Nat), RFs h F us ds → RFs h F (us.take n) (ds.take n)
  | _, _, 0, _ => .nil
  | _, _, _ + 1, .nil => .nil
  | _, _, n + 1, .cons a b => .cons a (b.take n)
theorem RFs.drop : ∀ {us : List U} {ds : List D} (n : Nat), RFs h F us ds → RFs h F (us.drop n) (ds.drop n)
  | _, _, 0, r => r
  | _, _, _ + 1, .nil => .nil
  | _, _, n + 1, .cons _ b => b.drop n
theorem RFs.reverse : ∀ {us : List U} {ds : List D}, RFs h F us ds → RFs h F us.reverse ds.reverse
  | _, _, .nil => .nil
  | _, _, .cons a b => by
    rw [List.reverse_cons, List.reverse_cons]
    exact b.reverse.append (.cons a .nil)
theorem RFs.replicate {us : List U} {ds : List D} (r : RFs h F us ds) : ∀ n : Nat, RFs h F (List.replicate n us).flatten (List.replicate n ds).flatten
  | 0 => .nil
  | n + 1 => by
    rw [List.replicate_succ, List.replicate_succ, List.flatten_cons, List.flatten_cons]
    exact r.append (r.replicate n)
end

/-! ### the state -/
structure Gd (dp : Nat → Nat) (F : Nat → Prop) (S : Nat → List Nat) (h : IH) (ve : UE) (env : En) : Prop where
  len : ve.length = env.length
  get : ∀ (i : Nat) u, ve[i]? = some (some u) → ∃ d, env[i]? = some (some d) ∧ RV h F (dp i) (S i) u d
  nd : ∀ i, (S i).Nodup
  dj : ∀ i j n, n ∈ S i → n ∈ S j → i = j
  nf : ∀ i n, n ∈ S i → ¬ F n
  bd : ∀ i n, n ∈ S i → n < h.length
  fb : ∀ n, F n → n < h.length
structure EP (dp : Nat → Nat) (io : List Nat) (F : Nat → Prop) (S : Nat → List Nat) (h : IH) (ve : UE) (env : En) (F' : Nat → Prop) (S' : Nat → List Nat) (h' : IH) (ve' : UE) : Prop where
  gd : Gd dp F' S' h' ve' env
  st : ∀ i, i ∉ io → S' i = S i ∧ ve'[i]? = ve[i]?
  ff : ∀ n, F n → F' n
  fn : ∀ n, F' n → F n ∨ h.length ≤ n ∨ ∃ i, i ∈ io ∧ n ∈ S i
  hl : h.length ≤ h'.length
  fr : ∀ n, n < h.length → (∀ i ∈ io, n ∉ S i) → h'[n]? = h[n]?
  sn : ∀ i n, n ∈ S' i → n ∈ S i ∨ h.length ≤ n
/-- what may be read: all cells but those of the slots that calls may change -/
def Gr (io : List Nat) (S : Nat → List Nat) (h : IH) (n : Nat) : Prop := n < h.length ∧ ∀ i ∈ io, n ∉ S i
inductive Md where
  | fl | fz | bor | fr (k : Nat)
/-- a value by its mode; Sr: the cells that it owns -/
def RM (io : List Nat) (F : Nat → Prop) (S : Nat → List Nat) (h : IH) (Sr : List Nat) (u : U) (d : D) : Md → Prop
  | .fl => RF h F u d ∧ flat u = true ∧ Sr = []
  | .fz => RF h F u d ∧ Sr = []
  | .bor => RF h (Gr io S h) u d ∧ Sr = []
  | .fr k => RV h F k Sr u d
/-- owned cells of a value that is on its way: new since h0, nobody else's -/
structure Tm (F : Nat → Prop) (S : Nat → List Nat) (lo : Nat) (h : IH) (Sr : List Nat) : Prop where
  nd : Sr.Nodup
  lo : ∀ n ∈ Sr, lo ≤ n
  bd : ∀ n ∈ Sr, n < h.length
  nf : ∀ n ∈ Sr, ¬ F n
  ns : ∀ n ∈ Sr, ∀ i, n ∉ S i
abbrev VE := UE → ER U
abbrev VT := UE → ER Bool
abbrev VA := UE → ER (List U)
abbrev VS := UE → UO
def RX (h : IH) (F : Nat → Prop) (x : XU) (y : XD) : Prop := x.cls = y.cls ∧ x.fs.map (·.1) = y.fs.map (·.1) ∧ RFs h F (x.fs.map (·.2)) (y.fs.map (·.2))
section
variable {dp : Nat → Nat} {io : List Nat} {F F' F2 : Nat → Prop} {S S' S2 : Nat → List Nat} {h h' h2 : IH} {ve ve' ve2 : UE} {env : En}
theorem EP.refl (g : Gd dp F S h ve env) : EP dp io F S h ve env F S h ve := ⟨g, fun _ _ => ⟨rfl, rfl⟩, fun _ x => x, fun _ x => .inl x, Nat.le_refl _, fun _ _ _ => rfl, fun _ _ x => .inl x⟩
theorem EP.trans (a : EP dp io F S h ve env F' S' h' ve') (b : EP dp io F' S' h' ve' env F2 S2 h2 ve2) : EP dp io F S h ve env F2 S2 h2 ve2 := by
  refine ⟨b.gd, fun i hi => ⟨(b.st i hi).1.trans (a.st i hi).1, (b.st i hi).2.trans (a.st i hi).2⟩, fun n x => b.ff n (a.ff n x), fun n x => ?_, Nat.le_trans a.hl b.hl, fun n hn hs => ?_, fun i n x => ?_⟩
  · rcases b.fn n x with y | y | ⟨i, hi, y⟩
    · exact a.fn n y
    · exact .inr (.inl (Nat.le_trans a.hl y))
    · rcases a.sn i n y with z | z
      · exact .inr (.inr ⟨i, hi, z⟩)
      · exact .inr (.inl z)
  · rw [b.fr n (Nat.lt_of_lt_of_le hn a.hl) fun i hi z => ?_, a.fr n hn hs]
    rcases a.sn i n z with y | y
    · exact hs i hi y
    · omega
  · rcases b.sn i n x with y | y
    · exact a.sn i n y
    · exact .inr (Nat.le_trans a.hl y)
/-- the heap grows, its new cells may be frozen -/
theorem Gd.grow (g : Gd dp F S h ve env) (q : IH) (hf : ∀ n, F n → F' n) (hn : ∀ n, F' n → F n ∨ (h.length ≤ n ∧ n < (h ++ q).length)) : Gd dp F' S (h ++ q) ve env := by
  have hk : ∀ n, n < h.length → (h ++ q)[n]? = h[n]? := fun n hn => List.getElem?_append_left hn
  refine ⟨g.len, fun i u e => ?_, g.nd, g.dj, fun i n x y => ?_, fun i n x => ?_, fun n x => ?_⟩
  · obtain ⟨d, e1, r⟩ := g.get i u e
    exact ⟨d, e1, r.mono hf (fun n x => hk n (g.fb n x)) fun n x => hk n (g.bd i n x)⟩
  · rcases hn n y with z | z
    · exact g.nf i n x z
    · have := g.bd i n x
      omega
  · have := g.bd i n x
    rw [List.length_append]
    omega
  · rcases hn n x with z | z
    · have := g.fb n z
      rw [List.length_append]
      omega
    · exact z.2
theorem EP.grow (g : Gd dp F S h ve env) (q : IH) (hf : ∀ n, F n → F' n) (hn : ∀ n, F' n → F n ∨ (h.length ≤ n ∧ n < (h ++ q).length)) : EP dp io F S h ve env F' S (h ++ q) ve :=
  ⟨g.grow q hf hn, fun _ _ => ⟨rfl, rfl⟩, hf, fun n x => (hn n x).imp id fun z => .inl z.1, by rw [List.length_append]; omega, fun n hn _ => List.getElem?_append_left hn, fun _ _ x => .inl x⟩
/-- frozen in part: no heap is changed -/
theorem Gd.frz (g : Gd dp F S h ve env) (hf : ∀ n, F n → F' n) (hn : ∀ n, F' n → F n ∨ (n < h.length ∧ ∀ i, n ∉ S i)) : Gd dp F' S h ve env := by
  refine ⟨g.len, fun i u e => ?_, g.nd, g.dj, fun i n x y => ?_, g.bd, fun n x => ?_⟩
  · obtain ⟨d, e1, r⟩ := g.get i u e
    exact ⟨d, e1, r.mono hf (fun n x => rfl) fun n x => rfl⟩
  · rcases hn n y with z | z
    · exact g.nf i n x z
    · exact z.2 i x
  · rcases hn n x with z | z
    · exact g.fb n z
    · exact z.1
theorem EP.frzR (a : EP dp io F S h ve env F' S' h' ve') {Sr : List Nat} (t : Tm F' S' h.length h' Sr) : EP dp io F S h ve env (fun n => F' n ∨ n ∈ Sr) S' h' ve' :=
  ⟨a.gd.frz (fun _ x => .inl x) fun n x => x.imp id fun z => ⟨t.bd n z, t.ns n z⟩, a.st, fun n x => .inl (a.ff n x), fun n x => by
    rcases x with x | x
    · exact a.fn n x
    · exact .inr (.inl (t.lo n x)), a.hl, a.fr, a.sn⟩
theorem Gr.ep (a : EP dp io F S h ve env F' S' h' ve') {n : Nat} (x : Gr io S h n) : Gr io S' h' n := ⟨Nat.lt_of_lt_of_le x.1 a.hl, fun i hi z => by
  rcases a.sn i n z with y | y
  · exact x.2 i hi y
  · exact absurd x.1 (Nat.not_lt.mpr y)⟩
theorem Gr.of (g : Gd dp F S h ve env) {n : Nat} (x : F n) : Gr io S h n := ⟨g.fb n x, fun i _ z => g.nf i n z x⟩
/-- a value stays while another expression is run -/
theorem RM.keep (g : Gd dp F S h ve env) (a : EP dp io F S h ve env F' S' h' ve') {Sr : List Nat} {lo : Nat} (t : Tm F S lo h Sr) {u : U} {d : D} : ∀ {md : Md}, RM io F S h Sr u d md → RM io F' S' h' Sr u d md := by
  have hF : ∀ n, F n → h'[n]? = h[n]? := fun n x => a.fr n (g.fb n x) fun i _ z => g.nf i n z x
  intro md r
  cases md with
  | fl => exact ⟨r.1.mono a.ff hF, r.2⟩
  | fz => exact ⟨r.1.mono a.ff hF, r.2⟩
  | bor => exact ⟨r.1.mono (fun n x => Gr.ep a x) fun n x => a.fr n x.1 x.2, r.2⟩
  | fr k => exact RV.mono a.ff hF r fun n hn => a.fr n (t.bd n hn) fun i _ => t.ns n hn i
theorem Tm.keep (a : EP dp io F S h ve env F' S' h' ve') {Sr : List Nat} {lo : Nat} (t : Tm F S lo h Sr) : Tm F' S' lo h' Sr :=
  ⟨t.nd, t.lo, fun n hn => Nat.lt_of_lt_of_le (t.bd n hn) a.hl, fun n hn x => by
    rcases a.fn n x with y | y | ⟨i, _, y⟩
    · exact t.nf n hn y
    · exact absurd (t.bd n hn) (Nat.not_lt.mpr y)
    · exact t.ns n hn i y, fun n hn i x => by
    rcases a.sn i n x with y | y
    · exact t.ns n hn i y
    · exact absurd (t.bd n hn) (Nat.not_lt.mpr y)⟩
theorem Tm.nil {lo : Nat} : Tm F S lo h [] := ⟨List.nodup_nil, (fun _ x => nomatch x), (fun _ x => nomatch x), (fun _ x => nomatch x), (fun _ x => nomatch x)⟩
theorem Tm.low {lo lo' : Nat} {Sr : List Nat} (t : Tm F S lo h Sr) (hl : lo' ≤ lo) : Tm F S lo' h Sr := ⟨t.nd, fun n hn => Nat.le_trans hl (t.lo n hn), t.bd, t.nf, t.ns⟩
theorem RX.mono {x : XU} {y : XD} (hf : ∀ n, F n → F' n) (hh : ∀ n, F n → h'[n]? = h[n]?) (r : RX h F x y) : RX h' F' x y := ⟨r.1, r.2.1, r.2.2.mono hf hh⟩
end

/-! ### judgements -/
/-- how an expression's ends are told -/
def PoE (lo : Nat) (dp : Nat → Nat) (io : List Nat) (F : Nat → Prop) (S : Nat → List Nat) (h : IH) (ve : UE) (env : En) {α β : Type} (R : (Nat → Prop) → (Nat → List Nat) → IH → List Nat → α → β → Prop) : ER α → Res β → Prop
  | .val u ve', r => ∃ d h' F' S' Sr, r = .val d h' ∧ EP dp io F S h ve env F' S' h' ve' ∧ Tm F' S' lo h' Sr ∧ R F' S' h' Sr u d
  | .exc x ve', r => ∃ y h' F' S', r = .exc y h' ∧ EP dp io F S h ve env F' S' h' ve' ∧ RX h' F' x y
  | .stk, _ => True
abbrev RE (io : List Nat) (md : Md) : (Nat → Prop) → (Nat → List Nat) → IH → List Nat → U → D → Prop := fun F S h Sr u d => RM io F S h Sr u d md
abbrev RB : (Nat → Prop) → (Nat → List Nat) → IH → List Nat → Bool → Bool → Prop := fun _ _ _ _ u d => u = d
/-- values of one mode -/
def RA (io : List Nat) (md : Md) : (Nat → Prop) → (Nat → List Nat) → IH → List Nat → List U → List D → Prop := fun F S h Sr us ds => match md with
  | .fl => RFs h F us ds ∧ flats us = true ∧ Sr = []
  | .fz => RFs h F us ds ∧ Sr = []
  | .bor => RFs h (Gr io S h) us ds ∧ Sr = []
  | .fr k => RVs h F k Sr us ds
def SE (dp : Nat → Nat) (io : List Nat) (md : Md) (m : ME) (v : VE) : Prop := ∀ F S h ve env, Gd dp F S h ve env → PoE h.length dp io F S h ve env (RE io md) (v ve) (m env h)
def SB (dp : Nat → Nat) (io : List Nat) (m : MT) (v : VT) : Prop := ∀ F S h ve env, Gd dp F S h ve env → PoE h.length dp io F S h ve env RB (v ve) (m env h)
def SA (dp : Nat → Nat) (io : List Nat) (md : Md) (m : MA) (v : VA) : Prop := ∀ F S h ve env, Gd dp F S h ve env → PoE h.length dp io F S h ve env (RA io md) (v ve) (m env h)
def ER.bind {α β : Type} (r : ER α) (f : α → UE → ER β) : ER β := match r with
  | .val a e => f a e
  | .exc x e => .exc x e
  | .stk => .stk
def ER.bindS {α : Type} (r : ER α) (f : α → UE → UO) : UO := match r with
  | .val a e => f a e
  | .exc x e => .exc x e
  | .stk => .stk
def UO.then (o : UO) (f : UE → UO) : UO := match o with
  | .nx e => f e
  | .rt d e => .rt d e
  | .bk e => .bk e
  | .ct e => .ct e
  | .exc x e => .exc x e
  | .stk => .stk
section
variable {lo lo' : Nat} {dp : Nat → Nat} {io : List Nat} {F F' F2 : Nat → Prop} {S S' S2 : Nat → List Nat} {h h' h2 : IH} {ve ve' ve2 : UE} {env : En}
theorem PoE.bind {α β γ δ : Type} {R : (Nat → Prop) → (Nat → List Nat) → IH → List Nat → α → β → Prop} {R2 : (Nat → Prop) → (Nat → List Nat) → IH → List Nat → γ → δ → Prop} {r : ER α} {m : Res β} {f : α → UE → ER γ} {g : β → IH → Res δ}
    (p : PoE lo dp io F S h ve env R r m) (q : ∀ a b F' S' h' ve' Sr, EP dp io F S h ve env F' S' h' ve' → Tm F' S' lo h' Sr → R F' S' h' Sr a b → PoE lo' dp io F' S' h' ve' env R2 (f a ve') (g b h')) :
    PoE lo' dp io F S h ve env R2 (r.bind f) (m.bind g) := by
  cases r with
  | val a ve1 =>
    obtain ⟨b, h1, F1, S1, Sr, rfl, e1, t1, r1⟩ := p
    have z := q a b F1 S1 h1 ve1 Sr e1 t1 r1
    show PoE lo' dp io F S h ve env R2 (f a ve1) (g b h1)
    revert z
    cases f a ve1 with
    | val c ve2 =>
      rintro ⟨e, h2, F2, S2, Sr2, z1, e2, t2, r2⟩
      exact ⟨e, h2, F2, S2, Sr2, z1, e1.trans e2, t2, r2⟩
    | exc x ve2 =>
      rintro ⟨y, h2, F2, S2, z1, e2, rx⟩
      exact ⟨y, h2, F2, S2, z1, e1.trans e2, rx⟩
    | stk => exact fun _ => trivial
  | exc x ve1 =>
    obtain ⟨y, h1, F1, S1, rfl, e1, rx⟩ := p
    exact ⟨y, h1, F1, S1, rfl, e1, rx⟩
  | stk => trivial
theorem PoE.low {α β : Type} {R : (Nat → Prop) → (Nat → List Nat) → IH → List Nat → α → β → Prop} {r : ER α} {m : Res β} (p : PoE lo dp io F S h ve env R r m) (hl : lo' ≤ lo) : PoE lo' dp io F S h ve env R r m := by
  cases r with
  | val a ve1 =>
    obtain ⟨b, h1, F1, S1, Sr, e, e1, t1, r1⟩ := p
    exact ⟨b, h1, F1, S1, Sr, e, e1, t1.low hl, r1⟩
  | exc x ve1 => exact p
  | stk => trivial
/-- the end of a chain -/
theorem PoE.val {α β : Type} {R : (Nat → Prop) → (Nat → List Nat) → IH → List Nat → α → β → Prop} {a : α} {b : β} {Sr : List Nat} (g : Gd dp F S h ve env) (t : Tm F S lo h Sr) (r : R F S h Sr a b) : PoE lo dp io F S h ve env R (.val a ve) (.val b h) :=
  ⟨b, h, F, S, Sr, rfl, .refl g, t, r⟩
end
/-! ### modes -/
section
variable {dp : Nat → Nat} {io : List Nat} {md : Md} {m : ME} {v : VE} {ma : MA} {va : VA}
theorem PoE.map {lo : Nat} {F : Nat → Prop} {S : Nat → List Nat} {h : IH} {ve : UE} {env : En} {α β : Type} {R R2 : (Nat → Prop) → (Nat → List Nat) → IH → List Nat → α → β → Prop} {r : ER α} {k : Res β} (p : PoE lo dp io F S h ve env R r k)
    (q : ∀ F' S' h' ve' Sr a b, EP dp io F S h ve env F' S' h' ve' → Tm F' S' lo h' Sr → R F' S' h' Sr a b → ∃ F2 Sr2, EP dp io F S h ve env F2 S' h' ve' ∧ Tm F2 S' lo h' Sr2 ∧ R2 F2 S' h' Sr2 a b) : PoE lo dp io F S h ve env R2 r k := by
  cases r with
  | val a ve1 =>
    obtain ⟨b, h1, F1, S1, Sr, rfl, e1, t1, r1⟩ := p
    obtain ⟨F2, Sr2, e2, t2, r2⟩ := q F1 S1 h1 ve1 Sr a b e1 t1 r1
    exact ⟨b, h1, F2, S1, Sr2, rfl, e2, t2, r2⟩
  | exc x ve1 => exact p
  | stk => trivial
theorem SE.fl_fz (p : SE dp io .fl m v) : SE dp io .fz m v := fun F S h ve env g => (p F S h ve env g).map fun F' S' h' ve' Sr a b e t r => ⟨F', Sr, e, t, r.1, r.2.2⟩
theorem SE.fz_bor (p : SE dp io .fz m v) : SE dp io .bor m v := fun F S h ve env g => (p F S h ve env g).map fun F' S' h' ve' Sr a b e t r => ⟨F', Sr, e, t, r.1.mono (fun n x => Gr.of e.gd x) fun _ _ => rfl, r.2⟩
theorem SE.fl_bor (p : SE dp io .fl m v) : SE dp io .bor m v := p.fl_fz.fz_bor
theorem SE.fl_fr (k : Nat) (p : SE dp io .fl m v) : SE dp io (.fr k) m v := fun F S h ve env g => (p F S h ve env g).map fun F' S' h' ve' Sr a b e t ⟨r1, r2, r3⟩ => by
  subst r3
  exact ⟨F', [], e, t, r1.rv k r2⟩
theorem SE.fz_fr0 (p : SE dp io .fz m v) : SE dp io (.fr 0) m v := fun F S h ve env g => (p F S h ve env g).map fun F' S' h' ve' Sr a b e t ⟨r1, r3⟩ => by
  subst r3
  exact ⟨F', [], e, t, .fz r1⟩
/-- what is new is frozen -/
theorem SE.fr_fz {k : Nat} (p : SE dp io (.fr k) m v) : SE dp io .fz m v := fun F S h ve env g => (p F S h ve env g).map fun F' S' h' ve' Sr a b e t r =>
  ⟨fun n => F' n ∨ n ∈ Sr, [], e.frzR t, .nil, RV.frz r (fun _ x => .inl x) fun _ x => .inr x, rfl⟩
theorem SE.fr_bor {k : Nat} (p : SE dp io (.fr k) m v) : SE dp io .bor m v := p.fr_fz.fz_bor
theorem SA.fl_fz (p : SA dp io .fl ma va) : SA dp io .fz ma va := fun F S h ve env g => (p F S h ve env g).map fun F' S' h' ve' Sr a b e t r => ⟨F', Sr, e, t, r.1, r.2.2⟩
theorem SA.fz_bor (p : SA dp io .fz ma va) : SA dp io .bor ma va := fun F S h ve env g => (p F S h ve env g).map fun F' S' h' ve' Sr a b e t r => ⟨F', Sr, e, t, r.1.mono (fun n x => Gr.of e.gd x) fun _ _ => rfl, r.2⟩
theorem SA.fr_fz {k : Nat} (p : SA dp io (.fr k) ma va) : SA dp io .fz ma va := fun F S h ve env g => (p F S h ve env g).map fun F' S' h' ve' Sr a b e t r =>
  ⟨fun n => F' n ∨ n ∈ Sr, [], e.frzR t, .nil, RVs.frz r (fun _ x => .inl x) fun _ x => .inr x, rfl⟩
/-- a value that is looked at: flat -/
def vSolid (v : VE) : VE := fun e => (v e).bind fun u e1 => if flat u = true then .val u e1 else .stk
theorem SE.solid (p : SE dp io .bor m v) : SE dp io .fl m (vSolid v) := fun F S h ve env g => by
  have q := p F S h ve env g
  unfold vSolid
  revert q
  cases v ve with
  | val u e1 =>
    rintro ⟨d, h1, F1, S1, Sr, z, e2, t, r⟩
    show PoE _ _ _ _ _ _ _ _ _ (if flat u = true then _ else _) _
    split
    · rename_i hf
      exact ⟨d, h1, F1, S1, Sr, z, e2, t, r.1.flat hf _ _, hf, r.2⟩
    · trivial
  | exc x e1 => exact fun q => q
  | stk => exact fun q => q
end
end VV
set_option Elab.async false
set_option linter.all false
set_option maxRecDepth 100000
namespace VV
open PySem L2 DD

def ofO (o : Option U) (e : UE) : ER U := match o with
  | some u => .val u e
  | none => .stk
def vVar (i : Nat) : VE := fun e => match e[i]? with
  | some (some u) => .val u e
  | _ => .stk
def vC (u : U) : VE := fun e => .val u e
def vUn (f : U → Option U) (a : VE) : VE := fun e => (a e).bind fun x e1 => ofO (f x) e1
def vBin (f : U → U → Option U) (a b : VE) : VE := fun e => (a e).bind fun x e1 => (b e1).bind fun y e2 => ofO (f x y) e2
def vNil : VA := fun e => .val [] e
def vCons (a : VE) (r : VA) : VA := fun e => (a e).bind fun x e1 => (r e1).bind fun xs e2 => .val (x :: xs) e2
def vOp (f : List U → Option U) (r : VA) : VE := fun e => (r e).bind fun us e1 => ofO (f us) e1
/-- what an operation does: D by U -/
abbrev Nw (h q : IH) (G : Nat → Prop) : Nat → Prop := fun n => G n ∨ (h.length ≤ n ∧ n < (h ++ q).length)
def Od1 (f : D → IH → Res D) (g : U → Option U) : Prop := ∀ h (G : Nat → Prop) u d r, (∀ n, G n → n < h.length) → RF h G u d → g u = some r → ∃ e q, f d h = .val e (h ++ q) ∧ RF (h ++ q) (Nw h q G) r e
def Od2 (f : D → D → IH → Res D) (g : U → U → Option U) : Prop := ∀ h (G : Nat → Prop) u d u' d' r, (∀ n, G n → n < h.length) → RF h G u d → RF h G u' d' → g u u' = some r → ∃ e q, f d d' h = .val e (h ++ q) ∧ RF (h ++ q) (Nw h q G) r e
def OdN (f : List D → IH → Res D) (g : List U → Option U) : Prop := ∀ h (G : Nat → Prop) us ds r, (∀ n, G n → n < h.length) → RFs h G us ds → g us = some r → ∃ e q, f ds h = .val e (h ++ q) ∧ RF (h ++ q) (Nw h q G) r e
structure Nx (h q : IH) (Sr : List Nat) : Prop where
  nd : Sr.Nodup
  lo : ∀ n ∈ Sr, h.length ≤ n
  bd : ∀ n ∈ Sr, n < (h ++ q).length
def Oo2 (k : Nat) (f : D → D → IH → Res D) (g : U → U → Option U) : Prop := ∀ h (G : Nat → Prop) u d u' d' r, (∀ n, G n → n < h.length) → RF h G u d → RF h G u' d' → g u u' = some r → ∃ e q Sr, f d d' h = .val e (h ++ q) ∧ RV (h ++ q) G k Sr r e ∧ Nx h q Sr
def OoN (k : Nat) (f : List D → IH → Res D) (g : List U → Option U) : Prop := ∀ h (G : Nat → Prop) us ds r, (∀ n, G n → n < h.length) → RFs h G us ds → g us = some r → ∃ e q Sr, f ds h = .val e (h ++ q) ∧ RV (h ++ q) G k Sr r e ∧ Nx h q Sr
def Fl1 (g : U → Option U) : Prop := ∀ u r, g u = some r → flat r = true
def Fl2 (g : U → U → Option U) : Prop := ∀ u u' r, g u u' = some r → flat r = true
def FlN (g : List U → Option U) : Prop := ∀ u r, g u = some r → flat r = true
section
variable {lo : Nat} {dp : Nat → Nat} {io : List Nat} {F : Nat → Prop} {S : Nat → List Nat} {h q : IH} {ve : UE} {env : En} {u : U} {d : D}
theorem PoE.opfz (g : Gd dp F S h ve env) (r : RF (h ++ q) (Nw h q F) u d) : PoE lo dp io F S h ve env (RE io .fz) (.val u ve) (.val d (h ++ q)) :=
  ⟨d, h ++ q, _, S, [], rfl, EP.grow g q (fun _ x => .inl x) (fun _ x => x), .nil, r, rfl⟩
theorem Gr.new (g : Gd dp F S h ve env) {n : Nat} (x : Nw h q (Gr io S h) n) : Gr io S (h ++ q) n := by
  rcases x with x | x
  · exact ⟨by rw [List.length_append]; have := x.1; omega, x.2⟩
  · exact ⟨x.2, fun i _ z => by have := g.bd i n z; omega⟩
theorem PoE.opbor (g : Gd dp F S h ve env) (r : RF (h ++ q) (Nw h q (Gr io S h)) u d) : PoE lo dp io F S h ve env (RE io .bor) (.val u ve) (.val d (h ++ q)) :=
  ⟨d, h ++ q, F, S, [], rfl, EP.grow g q (fun _ x => x) (fun _ x => .inl x), .nil, r.mono (fun n x => Gr.new g x) fun _ _ => rfl, rfl⟩
theorem PoE.opfl (g : Gd dp F S h ve env) {G : Nat → Prop} (r : RF (h ++ q) G u d) (hf : flat u = true) : PoE lo dp io F S h ve env (RE io .fl) (.val u ve) (.val d (h ++ q)) :=
  ⟨d, h ++ q, F, S, [], rfl, EP.grow g q (fun _ x => x) (fun _ x => .inl x), .nil, r.flat hf _ _, hf, rfl⟩
theorem PoE.opfr (g : Gd dp F S h ve env) {k : Nat} {Sr : List Nat} (hl : lo ≤ h.length) (r : RV (h ++ q) F k Sr u d) (n : Nx h q Sr) : PoE lo dp io F S h ve env (RE io (.fr k)) (.val u ve) (.val d (h ++ q)) :=
  ⟨d, h ++ q, F, S, Sr, rfl, EP.grow g q (fun _ x => x) (fun _ x => .inl x), ⟨n.nd, fun m hm => Nat.le_trans hl (n.lo m hm), n.bd, fun m hm x => absurd (g.fb m x) (Nat.not_lt.mpr (n.lo m hm)), fun m hm i x => absurd (g.bd i m x) (Nat.not_lt.mpr (n.lo m hm))⟩, r⟩
theorem Gr.bd {n : Nat} (x : Gr io S h n) : n < h.length := x.1
end
section
variable {dp : Nat → Nat} {io : List Nat} {md : Md} {ma mb mc : ME} {va vb vc : VE} {mr : MA} {vr : VA}
theorem se_var (i : Nat) (hi : dp i = 0) : SE dp io .fz (mVar i) (vVar i) := fun F S h ve env g => by
  unfold vVar mVar
  cases e : ve[i]? with
  | none => trivial
  | some o =>
    cases o with
    | none => trivial
    | some u =>
      obtain ⟨d, e1, r⟩ := g.get i u e
      rw [e1]
      rw [hi] at r
      generalize hs : S i = T at r
      cases r with
      | fz r => exact PoE.val g .nil ⟨r, rfl⟩
theorem se_own (i : Nat) (hi : i ∉ io) : SE dp io .bor (mVar i) (vVar i) := fun F S h ve env g => by
  unfold vVar mVar
  cases e : ve[i]? with
  | none => trivial
  | some o =>
    cases o with
    | none => trivial
    | some u =>
      obtain ⟨d, e1, r⟩ := g.get i u e
      rw [e1]
      exact PoE.val g .nil ⟨r.frz (fun n x => Gr.of g x) fun n x => ⟨g.bd i n x, fun j hj y => hi (by rw [g.dj i j n x y]; exact hj)⟩, rfl⟩
theorem se_C {u : U} {d : D} (hf : flat u = true) (r : ∀ h F, RF h F u d) : SE dp io .fl (mC d) (vC u) := fun F S h ve env g => PoE.val g .nil ⟨r h F, hf, rfl⟩
theorem se_int {i : Int} : SE dp io .fl (mC (.int i)) (vC (.int i)) := se_C rfl fun _ _ => .int i
theorem se_str {i : Str} : SE dp io .fl (mC (.str i)) (vC (.str i)) := se_C rfl fun _ _ => .str i
theorem se_bl {i : Bool} : SE dp io .fl (mC (.bl i)) (vC (.bl i)) := se_C rfl fun _ _ => .bl i
theorem se_non : SE dp io .fl (mC .non) (vC .non) := se_C rfl fun _ _ => .non
theorem se_op {v : V} : SE dp io .fl (mC (.op v)) (vC (.op v)) := se_C rfl fun _ _ => .op v
theorem se_un_fl {f : D → IH → Res D} {g : U → Option U} (od : Od1 f g) (fl : Fl1 g) (ha : SE dp io .bor ma va) : SE dp io .fl (mUn f ma) (vUn g va) := fun F S h ve env gd =>
  (ha F S h ve env gd).bind fun x d F1 S1 h1 ve1 Sr e1 t1 r1 => by
    cases z : g x with
    | none => trivial
    | some u =>
      obtain ⟨e, q, z1, z2⟩ := od h1 _ x d u (fun n y => y.1) r1.1 z
      rw [z1]
      exact PoE.opfl e1.gd z2 (fl _ _ z)
/-- two values -/
theorem PoE.two {γ δ : Type} {R2 : (Nat → Prop) → (Nat → List Nat) → IH → List Nat → γ → δ → Prop} {F : Nat → Prop} {S : Nat → List Nat} {h : IH} {ve : UE} {env : En} {lo : Nat} (ha : SE dp io md ma va) (hb : SE dp io md mb vb) (gd : Gd dp F S h ve env) {f : U → U → UE → ER γ} {g : D → D → IH → Res δ}
    (q : ∀ x y a b F' S' h' ve' Sr Tr, EP dp io F S h ve env F' S' h' ve' → Tm F' S' h.length h' Sr → Tm F' S' h.length h' Tr → (∀ n ∈ Sr, n ∉ Tr) → RM io F' S' h' Sr x a md → RM io F' S' h' Tr y b md → PoE lo dp io F' S' h' ve' env R2 (f x y ve') (g a b h')) :
    PoE lo dp io F S h ve env R2 ((va ve).bind fun x e1 => (vb e1).bind fun y e2 => f x y e2) ((ma env h).bind fun a h1 => (mb env h1).bind fun b h2 => g a b h2) :=
  (ha F S h ve env gd).bind fun x a F1 S1 h1 ve1 Sr e1 t1 r1 => by
    have z := (hb F1 S1 h1 ve1 env e1.gd).bind (R2 := R2) (lo' := lo) (f := fun y e2 => f x y e2) (g := fun b h2 => g a b h2) fun y b F2 S2 h2 ve2 Tr e2 t2 r2 =>
      q x y a b F2 S2 h2 ve2 Sr Tr (e1.trans e2) (t1.keep e2) (t2.low e1.hl) (fun n h1 h2 => absurd (t1.bd n h1) (Nat.not_lt.mpr (t2.lo n h2))) (RM.keep e1.gd e2 t1 r1) r2
    exact z
theorem se_bin {f : D → D → IH → Res D} {g : U → U → Option U} (od : Od2 f g) (ha : SE dp io .fz ma va) (hb : SE dp io .fz mb vb) : SE dp io .fz (mBin f ma mb) (vBin g va vb) := fun F S h ve env gd =>
  PoE.two (f := fun x y e => ofO (g x y) e) (g := fun a b h => f a b h) ha hb gd fun x y a b F1 S1 h1 ve1 Sr Tr e1 t1 t2 _ r1 r2 => by
    cases z : g x y with
    | none => trivial
    | some u =>
      obtain ⟨e, q, z1, z2⟩ := od h1 F1 x a y b u e1.gd.fb r1.1 r2.1 z
      rw [z1]
      exact PoE.opfz e1.gd z2
theorem se_binB {f : D → D → IH → Res D} {g : U → U → Option U} (od : Od2 f g) (ha : SE dp io .bor ma va) (hb : SE dp io .bor mb vb) : SE dp io .bor (mBin f ma mb) (vBin g va vb) := fun F S h ve env gd =>
  PoE.two (f := fun x y e => ofO (g x y) e) (g := fun a b h => f a b h) ha hb gd fun x y a b F1 S1 h1 ve1 Sr Tr e1 t1 t2 _ r1 r2 => by
    cases z : g x y with
    | none => trivial
    | some u =>
      obtain ⟨e, q, z1, z2⟩ := od h1 _ x a y b u (fun n y => y.1) r1.1 r2.1 z
      rw [z1]
      exact PoE.opbor e1.gd z2
theorem se_binL {f : D → D → IH → Res D} {g : U → U → Option U} (od : Od2 f g) (fl : Fl2 g) (ha : SE dp io .bor ma va) (hb : SE dp io .bor mb vb) : SE dp io .fl (mBin f ma mb) (vBin g va vb) := fun F S h ve env gd =>
  PoE.two (f := fun x y e => ofO (g x y) e) (g := fun a b h => f a b h) ha hb gd fun x y a b F1 S1 h1 ve1 Sr Tr e1 t1 t2 _ r1 r2 => by
    cases z : g x y with
    | none => trivial
    | some u =>
      obtain ⟨e, q, z1, z2⟩ := od h1 _ x a y b u (fun n y => y.1) r1.1 r2.1 z
      rw [z1]
      exact PoE.opfl e1.gd z2 (fl _ _ _ z)
theorem se_binO {k : Nat} {f : D → D → IH → Res D} {g : U → U → Option U} (od : Oo2 k f g) (ha : SE dp io .fz ma va) (hb : SE dp io .fz mb vb) : SE dp io (.fr k) (mBin f ma mb) (vBin g va vb) := fun F S h ve env gd =>
  PoE.two (f := fun x y e => ofO (g x y) e) (g := fun a b h => f a b h) ha hb gd fun x y a b F1 S1 h1 ve1 Sr Tr e1 t1 t2 _ r1 r2 => by
    cases z : g x y with
    | none => trivial
    | some u =>
      obtain ⟨e, q, T, z1, z2, z3⟩ := od h1 F1 x a y b u e1.gd.fb r1.1 r2.1 z
      rw [z1]
      exact PoE.opfr e1.gd e1.hl z2 z3
/-! lists of expressions -/
theorem sa_nil : SA dp io md mNil vNil := fun F S h ve env g => by
  refine PoE.val g (Sr := []) .nil ?_
  cases md with
  | fl => exact ⟨.nil, rfl, rfl⟩
  | fz => exact ⟨.nil, rfl⟩
  | bor => exact ⟨.nil, rfl⟩
  | fr k => exact RVs.nil
theorem sa_cons (ha : SE dp io md ma va) (hr : SA dp io md mr vr) : SA dp io md (mCons ma mr) (vCons va vr) := fun F S h ve env gd =>
  (ha F S h ve env gd).bind fun x a F1 S1 h1 ve1 Sr e1 t1 r1 => (hr F1 S1 h1 ve1 env e1.gd).bind fun xs as F2 S2 h2 ve2 Tr e2 t2 r2 => by
    have k1 := RM.keep e1.gd e2 t1 r1
    have t3 : Tm F2 S2 h.length h2 (Sr ++ Tr) := by
      have t4 := t1.keep e2
      have t5 := t2.low e1.hl
      refine ⟨?_, fun n hn => ?_, fun n hn => ?_, fun n hn => ?_, fun n hn => ?_⟩
      · rw [List.nodup_append]
        refine ⟨t4.nd, t5.nd, fun a ha b hb e => ?_⟩
        subst e
        exact absurd (t1.bd a ha) (Nat.not_lt.mpr (t2.lo a hb))
      · exact (List.mem_append.mp hn).elim (t4.lo n) (t5.lo n)
      · exact (List.mem_append.mp hn).elim (t4.bd n) (t5.bd n)
      · exact (List.mem_append.mp hn).elim (t4.nf n) (t5.nf n)
      · exact (List.mem_append.mp hn).elim (t4.ns n) (t5.ns n)
    refine PoE.val (Sr := Sr ++ Tr) e2.gd t3 ?_
    cases md with
    | fl =>
      obtain ⟨a1, a2, rfl⟩ := k1
      obtain ⟨b1, b2, rfl⟩ := r2
      exact ⟨.cons a1 b1, by rw [flats, a2, b2]; rfl, rfl⟩
    | fz =>
      obtain ⟨a1, rfl⟩ := k1
      obtain ⟨b1, rfl⟩ := r2
      exact ⟨.cons a1 b1, rfl⟩
    | bor =>
      obtain ⟨a1, rfl⟩ := k1
      obtain ⟨b1, rfl⟩ := r2
      exact ⟨.cons a1 b1, rfl⟩
    | fr k => exact RVs.cons k1 r2
theorem se_call {f : List D → IH → Res D} {g : List U → Option U} (od : OdN f g) (hr : SA dp io .fz mr vr) : SE dp io .fz (mCall f mr) (vOp g vr) := fun F S h ve env gd =>
  (hr F S h ve env gd).bind fun xs as F1 S1 h1 ve1 Sr e1 t1 r1 => by
    cases z : g xs with
    | none => trivial
    | some u =>
      obtain ⟨e, q, z1, z2⟩ := od h1 F1 xs as u e1.gd.fb r1.1 z
      rw [z1]
      exact PoE.opfz e1.gd z2
theorem se_callB {f : List D → IH → Res D} {g : List U → Option U} (od : OdN f g) (hr : SA dp io .bor mr vr) : SE dp io .bor (mCall f mr) (vOp g vr) := fun F S h ve env gd =>
  (hr F S h ve env gd).bind fun xs as F1 S1 h1 ve1 Sr e1 t1 r1 => by
    cases z : g xs with
    | none => trivial
    | some u =>
      obtain ⟨e, q, z1, z2⟩ := od h1 _ xs as u (fun n y => y.1) r1.1 z
      rw [z1]
      exact PoE.opbor e1.gd z2
theorem se_callL {f : List D → IH → Res D} {g : List U → Option U} (od : OdN f g) (fl : FlN g) (hr : SA dp io .bor mr vr) : SE dp io .fl (mCall f mr) (vOp g vr) := fun F S h ve env gd =>
  (hr F S h ve env gd).bind fun xs as F1 S1 h1 ve1 Sr e1 t1 r1 => by
    cases z : g xs with
    | none => trivial
    | some u =>
      obtain ⟨e, q, z1, z2⟩ := od h1 _ xs as u (fun n y => y.1) r1.1 z
      rw [z1]
      exact PoE.opfl e1.gd z2 (fl _ _ z)
theorem se_callO {k : Nat} {f : List D → IH → Res D} {g : List U → Option U} (od : OoN k f g) (hr : SA dp io .fz mr vr) : SE dp io (.fr k) (mCall f mr) (vOp g vr) := fun F S h ve env gd =>
  (hr F S h ve env gd).bind fun xs as F1 S1 h1 ve1 Sr e1 t1 r1 => by
    cases z : g xs with
    | none => trivial
    | some u =>
      obtain ⟨e, q, T, z1, z2, z3⟩ := od h1 F1 xs as u e1.gd.fb r1.1 z
      rw [z1]
      exact PoE.opfr e1.gd e1.hl z2 z3
/-! displays -/
def vTup (r : VA) : VE := fun e => (r e).bind fun us e1 => if us.length ≤ sizeLine then .val (.tup us) e1 else .stk
def vLst (r : VA) : VE := fun e => (r e).bind fun us e1 => if us.length ≤ sizeLine then .val (.lst us) e1 else .stk
theorem RVs.length {h : IH} {F : Nat → Prop} : ∀ {k : Nat} {S : List Nat} {us : List U} {ds : List D}, RVs h F k S us ds → us.length = ds.length
  | _, _, _, _, .nil => rfl
  | _, _, _, _, .cons _ b => by rw [List.length_cons, List.length_cons, b.length]
theorem RA.len {F : Nat → Prop} {S : Nat → List Nat} {h : IH} {Sr : List Nat} {us : List U} {ds : List D} (r : RA io md F S h Sr us ds) : us.length = ds.length := by
  cases md with
  | fl => exact r.1.length
  | fz => exact r.1.length
  | bor => exact r.1.length
  | fr k => exact RVs.length r
theorem se_tup (hr : SA dp io md mr vr) (hm : md ≠ .fr 0) : SE dp io md (mTup mr) (vTup vr) := fun F S h ve env gd =>
  (hr F S h ve env gd).bind fun xs as F1 S1 h1 ve1 Sr e1 t1 r1 => by
    split
    · rename_i hl
      rw [if_pos (by rw [← r1.len]; exact hl)]
      refine PoE.val e1.gd t1 ?_
      cases md with
      | fl => exact ⟨.tup r1.1, r1.2.1, r1.2.2⟩
      | fz => exact ⟨.tup r1.1, r1.2⟩
      | bor => exact ⟨.tup r1.1, r1.2⟩
      | fr k =>
        cases k with
        | zero => exact absurd rfl hm
        | succ k => exact RV.tup r1
    · trivial
theorem last_new (h : IH) (o : IO) : (h ++ [o])[h.length]? = some o := by
  rw [List.getElem?_append_right (Nat.le_refl _), Nat.sub_self]
  rfl
theorem se_lstO {k : Nat} (hr : SA dp io (.fr k) mr vr) : SE dp io (.fr (k + 1)) (mLst mr) (vLst vr) := fun F S h ve env gd =>
  (hr F S h ve env gd).bind fun xs as F1 S1 h1 ve1 Sr e1 t1 r1 => by
    split
    · rename_i hl
      rw [if_pos (by rw [← RVs.length r1]; exact hl)]
      have g2 := EP.grow (io := io) e1.gd [.lst as] (fun _ x => x) (fun _ x => .inl x)
      refine ⟨_, _, F1, S1, h1.length :: Sr, rfl, g2, ?_, RV.ref (last_new h1 _) (RVs.mono (fun _ x => x) (fun n x => List.getElem?_append_left (e1.gd.fb n x)) r1 fun n hn => List.getElem?_append_left (t1.bd n hn))⟩
      refine ⟨List.nodup_cons.mpr ⟨fun hm => absurd (t1.bd _ hm) (Nat.lt_irrefl _), t1.nd⟩, fun n hn => ?_, fun n hn => ?_, fun n hn x => ?_, fun n hn i x => ?_⟩
      · rcases List.mem_cons.mp hn with rfl | hn
        · exact e1.hl
        · exact t1.lo n hn
      · rw [List.length_append, List.length_singleton]
        rcases List.mem_cons.mp hn with rfl | hn
        · omega
        · have := t1.bd n hn
          omega
      · rcases List.mem_cons.mp hn with rfl | hn
        · exact absurd (e1.gd.fb _ x) (Nat.lt_irrefl _)
        · exact t1.nf n hn x
      · rcases List.mem_cons.mp hn with rfl | hn
        · exact absurd (e1.gd.bd _ _ x) (Nat.lt_irrefl _)
        · exact t1.ns n hn i x
    · trivial
theorem SA.fz_fr0 (p : SA dp io .fz mr vr) : SA dp io (.fr 0) mr vr := fun F S h ve env g => (p F S h ve env g).map fun F' S' h' ve' Sr a b e t ⟨r1, r3⟩ => by
  subst r3
  exact ⟨F', [], e, t, r1.rv0⟩
theorem SA.fl_fr (k : Nat) (p : SA dp io .fl mr vr) : SA dp io (.fr k) mr vr := fun F S h ve env g => (p F S h ve env g).map fun F' S' h' ve' Sr a b e t ⟨r1, r2, r3⟩ => by
  subst r3
  exact ⟨F', [], e, t, r1.rv k r2⟩
theorem se_lstB (hr : SA dp io .bor mr vr) : SE dp io .bor (mLst mr) (vLst vr) := fun F S h ve env gd =>
  (hr F S h ve env gd).bind fun xs as F1 S1 h1 ve1 Sr e1 t1 r1 => by
    split
    · rename_i hl
      rw [if_pos (by rw [← r1.1.length]; exact hl)]
      refine PoE.opbor e1.gd (RF.ref (.inr ⟨Nat.le_refl _, by rw [List.length_append, List.length_singleton]; omega⟩) (last_new h1 _) (r1.1.mono (fun n x => .inl x) fun n x => List.getElem?_append_left x.1))
    · trivial
end
end VV
set_option Elab.async false
set_option linter.all false
set_option maxRecDepth 100000
namespace VV
open PySem L2 DD
/-! ### operations -/
theorem same {h : IH} {G : Nat → Prop} {f : Res D} {u : U} {e : D} (z : f = .val e h) (r : RF h G u e) : ∃ e' q, f = .val e' (h ++ q) ∧ RF (h ++ q) (Nw h q G) u e' :=
  ⟨e, [], by rw [List.append_nil]; exact z, by rw [List.append_nil]; exact r.mono (fun _ x => .inl x) fun _ _ => rfl⟩
def uSub : U → U → Option U
  | .int i, .int j => some (.int (i - j))
  | _, _ => none
def uMod : U → U → Option U
  | .int i, .int j => if 0 < j then some (.int (i % j)) else none
  | _, _ => none
def uDiv : U → U → Option U
  | .int i, .int j => if 0 < j ∧ (j < 1073741824 ∨ j.natAbs.log2 < 9000) then some (.int (i / j)) else none
  | _, _ => none
def uPow : U → U → Option U
  | .int i, .int j => if 0 ≤ j ∧ j ≤ 1000000 ∧ i.natAbs < 2 ^ 64 then some (.int (i ^ j.toNat)) else none
  | _, _ => none
def uNeg : U → Option U
  | .int i => some (.int (-i))
  | _ => none
def uCmp (p : Int → Int → Bool) : U → U → Option U
  | .int i, .int j => some (.bl (p i j))
  | _, _ => none
abbrev uLt := uCmp fun i j => decide (i < j)
abbrev uLe := uCmp fun i j => decide (i ≤ j)
abbrev uGt := uCmp fun i j => decide (j < i)
abbrev uGe := uCmp fun i j => decide (j ≤ i)
def uAdd : U → U → Option U
  | .int i, .int j => some (.int (i + j))
  | .str x, .str y => if x.length + y.length ≤ sizeLine then some (.str (x ++ y)) else none
  | .tup xs, .tup ys => if xs.length + ys.length ≤ sizeLine then some (.tup (xs ++ ys)) else none
  | .lst xs, .lst ys => if xs.length + ys.length ≤ sizeLine then some (.lst (xs ++ ys)) else none
  | _, _ => none
def uIAdd : U → U → Option U
  | .int i, .int j => some (.int (i + j))
  | .str x, .str y => if x.length + y.length ≤ sizeLine then some (.str (x ++ y)) else none
  | _, _ => none
def uMul : U → U → Option U
  | .int i, .int j => if (-(2 ^ 64) < i ∧ i < 2 ^ 64) ∨ (-(2 ^ 64) < j ∧ j < 2 ^ 64) then some (.int (i * j)) else none
  | .str z, .int k => if -1000000 ≤ k ∧ k ≤ 1000000 ∧ z.length ≤ 1000000 ∧ z.length * k.toNat ≤ sizeLine then some (.str (Txt.mul z k)) else none
  | .tup ds, .int k => if 0 < ds.length ∧ 2 ≤ k ∧ k ≤ 1000 ∧ ds.length ≤ 1000 then some (.tup (List.replicate k.toNat ds).flatten) else none
  | .lst xs, .int k => if -(2 ^ 63) ≤ k ∧ k < 2 ^ 63 ∧ xs.length * k.toNat ≤ sizeLine then some (.lst (List.replicate k.toNat xs).flatten) else none
  | _, _ => none
theorem od_sub : Od2 pySub uSub := fun h G u d u' d' r hb a b e => by
  cases a <;> cases b <;> simp only [uSub, reduceCtorEq, Option.some.injEq] at e
  subst e
  exact same rfl (.int _)
theorem od_mod : Od2 pyMod uMod := fun h G u d u' d' r hb a b e => by
  cases a <;> cases b <;> simp only [uMod, reduceCtorEq, Option.some.injEq] at e
  split at e <;> cases e
  rename_i z
  exact same (by simp only [pyMod, if_pos z]) (.int _)
theorem od_div : Od2 pyDiv uDiv := fun h G u d u' d' r hb a b e => by
  cases a <;> cases b <;> simp only [uDiv, reduceCtorEq, Option.some.injEq] at e
  split at e <;> cases e
  rename_i z
  exact same (by simp only [pyDiv, if_pos z]) (.int _)
theorem od_pow : Od2 pyPow uPow := fun h G u d u' d' r hb a b e => by
  cases a <;> cases b <;> simp only [uPow, reduceCtorEq, Option.some.injEq] at e
  split at e <;> cases e
  rename_i z
  exact same (by simp only [pyPow, if_pos z]) (.int _)
theorem od_neg : Od1 pyNeg uNeg := fun h G u d r hb a e => by
  cases a <;> simp only [uNeg, reduceCtorEq, Option.some.injEq] at e
  subst e
  exact same rfl (.int _)
theorem od_cmp {p : Int → Int → Bool} : Od2 (pyCmp p) (uCmp p) := fun h G u d u' d' r hb a b e => by
  cases a <;> cases b <;> simp only [uCmp, reduceCtorEq, Option.some.injEq] at e
  subst e
  exact same rfl (.bl _)
theorem fl_sub : Fl2 uSub := fun u u' r e => by
  unfold uSub at e
  split at e <;> cases e
  rfl
theorem fl_mod : Fl2 uMod := fun u u' r e => by
  unfold uMod at e
  split at e <;> (try split at e) <;> cases e
  rfl
theorem fl_div : Fl2 uDiv := fun u u' r e => by
  unfold uDiv at e
  split at e <;> (try split at e) <;> cases e
  rfl
theorem fl_pow : Fl2 uPow := fun u u' r e => by
  unfold uPow at e
  split at e <;> (try split at e) <;> cases e
  rfl
theorem fl_neg : Fl1 uNeg := fun u r e => by
  unfold uNeg at e
  split at e <;> cases e
  rfl
theorem fl_cmp {p : Int → Int → Bool} : Fl2 (uCmp p) := fun u u' r e => by
  unfold uCmp at e
  split at e <;> cases e
  rfl
theorem nw_last (h : IH) (o : IO) (G : Nat → Prop) : Nw h [o] G h.length := .inr ⟨Nat.le_refl _, by rw [List.length_append, List.length_singleton]; omega⟩
theorem RFs.grow {h q : IH} {G : Nat → Prop} (hb : ∀ n, G n → n < h.length) {us : List U} {ds : List D} (r : RFs h G us ds) : RFs (h ++ q) (Nw h q G) us ds := r.mono (fun _ x => .inl x) fun n x => List.getElem?_append_left (hb n x)
theorem RF.grow {h q : IH} {G : Nat → Prop} (hb : ∀ n, G n → n < h.length) {us : U} {ds : D} (r : RF h G us ds) : RF (h ++ q) (Nw h q G) us ds := r.mono (fun _ x => .inl x) fun n x => List.getElem?_append_left (hb n x)
theorem lstAt_of {h : IH} {n : Nat} {ds : List D} (e : h[n]? = some (.lst ds)) : lstAt h n = some ds := by
  unfold lstAt
  rw [e]
/-- a new list -/
theorem newL {h : IH} {G : Nat → Prop} (hb : ∀ n, G n → n < h.length) {us : List U} {ds : List D} (r : RFs h G us ds) : RF (h ++ [.lst ds]) (Nw h [.lst ds] G) (.lst us) (.ref h.length) := .ref (nw_last _ _ _) (last_new _ _) (r.grow hb)
theorem newO {h : IH} {G : Nat → Prop} (hb : ∀ n, G n → n < h.length) {us : List U} {ds : List D} (r : RFs h G us ds) : RV (h ++ [.lst ds]) G 1 [h.length] (.lst us) (.ref h.length) ∧ Nx h [.lst ds] [h.length] :=
  ⟨.ref (last_new _ _) (r.mono (fun _ x => x) fun n x => List.getElem?_append_left (hb n x)).rv0, List.nodup_cons.mpr ⟨by simp, List.nodup_nil⟩, fun n hn => by rw [List.mem_singleton.mp hn]; exact Nat.le_refl _, fun n hn => by rw [List.mem_singleton.mp hn, List.length_append, List.length_singleton]; omega⟩
theorem od_add : Od2 pyAdd uAdd := fun h G u d u' d' r hb a b e => by
  cases a <;> cases b <;> simp only [uAdd, reduceCtorEq, Option.some.injEq] at e
  · subst e
    exact same rfl (.int _)
  · split at e <;> cases e
    rename_i z
    exact same (by simp only [pyAdd, if_pos z]) (.str _)
  · split at e <;> cases e
    rename_i r1 _ _ r2 z
    exact same (by simp only [pyAdd, ← r1.length, ← r2.length, if_pos z]) (.tup (r1.append r2))
  · split at e <;> cases e
    rename_i f1 h1 r1 _ _ _ f2 h2 r2 z
    exact ⟨_, [_], by simp only [pyAdd, lstAt_of h1, lstAt_of h2, ← r1.length, ← r2.length, if_pos z], newL hb (r1.append r2)⟩
/-- lists alone -/
def uCat : U → U → Option U
  | .lst xs, .lst ys => if xs.length + ys.length ≤ sizeLine then some (.lst (xs ++ ys)) else none
  | _, _ => none
theorem oo_cat : Oo2 1 pyAdd uCat := fun h G u d u' d' r hb a b e => by
  cases a <;> cases b <;> simp only [uCat, reduceCtorEq, Option.some.injEq] at e
  split at e <;> cases e
  rename_i f1 h1 r1 _ _ _ f2 h2 r2 z
  exact ⟨_, [_], _, by simp only [pyAdd, lstAt_of h1, lstAt_of h2, ← r1.length, ← r2.length, if_pos z], newO hb (r1.append r2)⟩
theorem od_iadd : Od2 pyIAdd uIAdd := fun h G u d u' d' r hb a b e => by
  cases a <;> cases b <;> simp only [uIAdd, reduceCtorEq, Option.some.injEq] at e
  · subst e
    exact same rfl (.int _)
  · split at e <;> cases e
    rename_i z
    exact same (by simp only [pyIAdd, if_pos z]) (.str _)
theorem fl_iadd : Fl2 uIAdd := fun u u' r e => by
  unfold uIAdd at e
  split at e <;> (try split at e) <;> cases e <;> rfl
theorem od_mul : Od2 pyMul uMul := fun h G u d u' d' r hb a b e => by
  cases a <;> cases b <;> simp only [uMul, reduceCtorEq, Option.some.injEq] at e
  · split at e <;> cases e
    rename_i z
    exact same (by simp only [pyMul, if_pos z]) (.int _)
  · split at e <;> cases e
    rename_i z
    exact same (by simp only [pyMul, if_pos z]) (.str _)
  · split at e <;> cases e
    rename_i r1 _ z
    exact same (by simp only [pyMul, ← r1.length, if_pos z]) (.tup (r1.replicate _))
  · split at e <;> cases e
    rename_i f1 h1 r1 _ z
    exact ⟨_, [_], by simp only [pyMul, lstAt_of h1, ← r1.length, if_pos z], newL hb (r1.replicate _)⟩
def uRep : U → U → Option U
  | .lst xs, .int k => if -(2 ^ 63) ≤ k ∧ k < 2 ^ 63 ∧ xs.length * k.toNat ≤ sizeLine then some (.lst (List.replicate k.toNat xs).flatten) else none
  | _, _ => none
theorem oo_rep : Oo2 1 pyMul uRep := fun h G u d u' d' r hb a b e => by
  cases a <;> cases b <;> simp only [uRep, reduceCtorEq, Option.some.injEq] at e
  split at e <;> cases e
  rename_i f1 h1 r1 _ z
  exact ⟨_, [_], _, by simp only [pyMul, lstAt_of h1, ← r1.length, if_pos z], newO hb (r1.replicate _)⟩
/-! by data -/
def toPyU : Nat → U → Option PyData
  | 0, _ => none
  | n + 1, u => match u with
    | .non => some .none
    | .bl b => some (.bool b)
    | .int i => some (.int i)
    | .str x => some (.str x)
    | .tup us => (mapO (toPyU n) us).map .tuple
    | .fl us => (mapO (toPyU n) us).map .list
    | .lst us => (mapO (toPyU n) us).map .list
    | .dic _ => none
    | .op _ => none
    | .gl _ => none
    | .ins _ _ => none
theorem mapO_cons {α β : Type} {f : α → Option β} {x : α} {xs : List α} {r : List β} (e : mapO f (x :: xs) = some r) : ∃ a b, f x = some a ∧ mapO f xs = some b ∧ r = a :: b := by
  have e' : (match f x, mapO f xs with
      | some a, some b => some (a :: b)
      | _, _ => none) = some r := e
  cases z1 : f x with
  | none =>
    rw [z1] at e'
    cases e'
  | some a =>
    cases z2 : mapO f xs with
    | none =>
      rw [z1, z2] at e'
      cases e'
    | some b =>
      rw [z1, z2] at e'
      cases e'
      exact ⟨a, b, rfl, rfl, rfl⟩
theorem mapO_cons' {α β : Type} {f : α → Option β} {x : α} {xs : List α} {a : β} {b : List β} (h1 : f x = some a) (h2 : mapO f xs = some b) : mapO f (x :: xs) = some (a :: b) := by
  show (match f x, mapO f xs with
      | some a, some b => some (a :: b)
      | _, _ => none) = _
  rw [h1, h2]
theorem mapO_rel {h : IH} {G : Nat → Prop} {n : Nat} (ih : ∀ {u : U} {d : D} {p : PyData}, RF h G u d → toPyU n u = some p → toPy n h d = some p) : ∀ {us : List U} {ds : List D} {ps : List PyData}, RFs h G us ds → mapO (toPyU n) us = some ps → mapO (toPy n h) ds = some ps
  | _, _, _, .nil, e => e
  | _, _, _, .cons a b, e => by
    obtain ⟨x, xs, e1, e2, rfl⟩ := VV.mapO_cons e
    exact VV.mapO_cons' (ih a e1) (mapO_rel ih b e2)
theorem toPy_ok {h : IH} {G : Nat → Prop} : ∀ {n : Nat} {u : U} {d : D} {p : PyData}, RF h G u d → toPyU n u = some p → toPy n h d = some p
  | 0, _, _, _, _, e => by cases e
  | n + 1, _, _, _, .non, e => e
  | n + 1, _, _, _, .bl b, e => e
  | n + 1, _, _, _, .int b, e => e
  | n + 1, _, _, _, .str b, e => e
  | n + 1, _, _, _, .op b, e => e
  | n + 1, _, _, _, .tup (us := us) r, e => by
    have e' : (mapO (toPyU n) us).map PyData.tuple = some _ := e
    cases z : mapO (toPyU n) us with
    | none =>
      rw [z] at e'
      cases e'
    | some ps =>
      rw [z] at e'
      simp only [toPy, mapO_rel (fun r e => toPy_ok r e) r z]
      exact e'
  | n + 1, _, _, _, .fl (us := us) r, e => by
    have e' : (mapO (toPyU n) us).map PyData.list = some _ := e
    cases z : mapO (toPyU n) us with
    | none =>
      rw [z] at e'
      cases e'
    | some ps =>
      rw [z] at e'
      simp only [toPy, mapO_rel (fun r e => toPy_ok r e) r z]
      exact e'
  | n + 1, _, _, _, .ref (us := us) f hn r, e => by
    have e' : (mapO (toPyU n) us).map PyData.list = some _ := e
    cases z : mapO (toPyU n) us with
    | none =>
      rw [z] at e'
      cases e'
    | some ps =>
      rw [z] at e'
      simp only [toPy, lstAt_of hn, mapO_rel (fun r e => toPy_ok r e) r z]
      exact e'
  | n + 1, _, _, _, .dic _ _ _ _, e => by cases e
  | n + 1, _, _, _, .gl _, e => by cases e
  | n + 1, _, _, _, .ins _ _ _ _, e => by cases e
def eqTU (a b : U) : Option Bool := match toPyU 12 a, toPyU 12 b with
  | some p, some q => if (SeqAt.shaped p && SeqAt.shaped q) = true then some (PyData.eqv p q) else none
  | _, _ => none
def eqU (a b : U) : Option Bool := match a, b with
  | .int i, .int j => some (decide (i = j))
  | .str x, .str y => some (decide (x = y))
  | a, b => eqTU a b
theorem eqTU_ok {h : IH} {G : Nat → Prop} {a b : U} {c d : D} {k : Bool} (ra : RF h G a c) (rb : RF h G b d) (e : eqTU a b = some k) : eqT h c d = some k := by
  unfold eqTU at e
  unfold eqT
  cases z1 : toPyU 12 a with
  | none =>
    rw [z1] at e
    cases e
  | some p =>
    cases z2 : toPyU 12 b with
    | none =>
      rw [z1, z2] at e
      cases e
    | some q =>
      rw [z1, z2] at e
      rw [toPy_ok ra z1, toPy_ok rb z2]
      exact e
theorem eqU_ok {h : IH} {G : Nat → Prop} {a b : U} {c d : D} {k : Bool} (ra : RF h G a c) (rb : RF h G b d) (e : eqU a b = some k) : eqO h c d = some k := by
  unfold eqU at e
  split at e
  · cases ra
    cases rb
    exact e
  · cases ra
    cases rb
    exact e
  · rename_i n1 n2
    have z := eqTU_ok ra rb e
    unfold eqO
    split
    · cases ra
      cases rb
      exact (n1 _ _ rfl rfl).elim
    · cases ra
      cases rb
      exact (n2 _ _ rfl rfl).elim
    · exact z
def uEq (a b : U) : Option U := (eqU a b).map .bl
def uNe (a b : U) : Option U := (eqU a b).map fun k => .bl !k
theorem od_eq : Od2 pyEq uEq := fun h G u d u' d' r hb a b e => by
  unfold uEq at e
  cases z : eqU u u' with
  | none =>
    rw [z] at e
    cases e
  | some k =>
    rw [z] at e
    cases e
    exact same (by simp only [pyEq, eqU_ok a b z]) (.bl _)
theorem od_ne : Od2 pyNe uNe := fun h G u d u' d' r hb a b e => by
  unfold uNe at e
  cases z : eqU u u' with
  | none =>
    rw [z] at e
    cases e
  | some k =>
    rw [z] at e
    cases e
    exact same (by simp only [pyNe, eqU_ok a b z]) (.bl _)
theorem fl_eq : Fl2 uEq := fun u u' r e => by
  unfold uEq at e
  cases z : eqU u u' <;> rw [z] at e <;> cases e
  rfl
theorem fl_ne : Fl2 uNe := fun u u' r e => by
  unfold uNe at e
  cases z : eqU u u' <;> rw [z] at e <;> cases e
  rfl
def isNonU : U → Option Bool
  | .non => some true
  | .op _ => none
  | _ => some false
def uIs (a b : U) : Option U := match isNonU a, b with
  | some k, .non => some (.bl k)
  | _, _ => none
def uIsNot (a b : U) : Option U := match isNonU a, b with
  | some k, .non => some (.bl !k)
  | _, _ => none
theorem od_is : Od2 pyIs uIs := fun h G u d u' d' r hb a b e => by
  cases a <;> cases b <;> simp only [uIs, isNonU, reduceCtorEq, Option.some.injEq] at e <;> (subst e; exact same rfl (.bl _))
theorem od_isNot : Od2 pyIsNot uIsNot := fun h G u d u' d' r hb a b e => by
  cases a <;> cases b <;> simp only [uIsNot, isNonU, reduceCtorEq, Option.some.injEq] at e <;> (subst e; exact same rfl (.bl _))
theorem fl_is : Fl2 uIs := fun u u' r e => by
  unfold uIs at e
  split at e <;> cases e
  rfl
theorem fl_isNot : Fl2 uIsNot := fun u u' r e => by
  unfold uIsNot at e
  split at e <;> cases e
  rfl
def tyU : U → Option String
  | .non => some "NoneType"
  | .bl _ => some "bool"
  | .int _ => some "int"
  | .str _ => some "str"
  | .tup _ => some "tuple"
  | .fl _ => some "list"
  | .lst _ => some "list"
  | .dic kvs => if (kvs.all fun p => kk p.1) = true then some "dict" else none
  | .op _ => none
  | .gl _ => none
  | .ins _ _ => none
theorem all_keys {ks : List (KD × U)} {kvs : List (KD × D)} (e : ks.map (·.1) = kvs.map (·.1)) (f : KD → Bool) : (ks.all fun p => f p.1) = kvs.all fun p => f p.1 := by
  have h1 : (ks.all fun p => f p.1) = (ks.map (·.1)).all f := by rw [List.all_map]; rfl
  have h2 : (kvs.all fun p => f p.1) = (kvs.map (·.1)).all f := by rw [List.all_map]; rfl
  rw [h1, h2, e]
theorem tyU_ok {h : IH} {G : Nat → Prop} {a : U} {c : D} {t : String} (r : RF h G a c) (e : tyU a = some t) : tyD h c = some t := by
  cases r with
  | ref f hn q =>
    simp only [tyD, hn]
    exact e
  | dic f hn c q =>
    simp only [tyD, hn]
    simp only [tyU, all_keys c kk] at e
    exact e
  | ins f hn c q => cases e
  | _ => exact e
def tyMU (u : U) : Option String := match tyU u with
  | some T => if (T == "dict") = true then none else some T
  | none => none
theorem tyMU_ok {h : IH} {G : Nat → Prop} {a : U} {c : D} {t : String} (r : RF h G a c) (e : tyMU a = some t) : tyM h c = some t := by
  unfold tyMU at e
  unfold tyM
  cases z : tyU a with
  | none =>
    rw [z] at e
    cases e
  | some T =>
    rw [z] at e
    rw [tyU_ok r z]
    exact e
def uIsi : List U → Option U := fun as => match as with
  | [x, .op (.ty u)] => match tyU x with
    | some t => if (knownT t && knownT u && u != "NoneType") = true then some (.bl (isiB t u)) else none
    | none => none
  | _ => none
theorem od_isi : OdN pyIsi uIsi := fun h G us ds r hb rs e => by
  unfold uIsi at e
  split at e
  · rename_i x u
    split at e
    · rename_i t z
      split at e
      · rename_i z2
        cases e
        cases rs with
        | cons a b => cases b with
          | cons b c => cases c with
            | nil => cases b with
              | op => exact same (by simp only [pyIsi, tyU_ok a z, if_pos z2]) (.bl _)
      · cases e
    · cases e
  · cases e
theorem fl_isi : FlN uIsi := fun us r e => by
  unfold uIsi at e
  split at e
  · split at e
    · split at e <;> cases e
      rfl
    · cases e
  · cases e
def lenU : U → Option Nat
  | .str x => if x.length ≤ sizeLine then some x.length else none
  | .tup ds => some ds.length
  | .fl ds => some ds.length
  | .lst ds => some ds.length
  | _ => none
theorem lenU_ok {h : IH} {G : Nat → Prop} {a : U} {c : D} {t : Nat} (r : RF h G a c) (e : lenU a = some t) : lenD h c = some t := by
  cases r with
  | tup r =>
    simp only [lenU, lenD] at e ⊢
    rw [← r.length]
    exact e
  | fl r =>
    simp only [lenU, lenD] at e ⊢
    rw [← r.length]
    exact e
  | ref f hn r =>
    simp only [lenU, lenD, lstAt_of hn, Option.map_some] at e ⊢
    rw [← r.length]
    exact e
  | str x => exact e
  | _ => cases e
def uLen : List U → Option U := fun as => match as with
  | [x] => (lenU x).map fun n => .int (n : Nat)
  | _ => none
theorem od_len : OdN pyLen uLen := fun h G us ds r hb rs e => by
  unfold uLen at e
  split at e
  · rename_i x
    cases z : lenU x with
    | none =>
      rw [z] at e
      cases e
    | some n =>
      rw [z] at e
      cases e
      cases rs with
      | cons a b => cases b with
        | nil => exact same (by simp only [DD.pyLen, lenU_ok a z]) (.int _)
  · cases e
theorem fl_len : FlN uLen := fun us r e => by
  unfold uLen at e
  split at e
  · rename_i x
    cases z : lenU x <;> rw [z] at e <;> cases e
    rfl
  · cases e
def uInt : List U → Option U := fun as => match as with
  | [.int i] => some (.int i)
  | [.bl k] => some (.int (if k = true then 1 else 0))
  | _ => none
theorem od_int : OdN pyInt uInt := fun h G us ds r hb rs e => by
  cases rs with
  | nil => cases e
  | cons a b => cases b with
    | nil => cases a <;> first | (cases e; exact same rfl (.int _)) | cases e
    | cons b c => cases a <;> cases e
theorem fl_int : FlN uInt := fun us r e => by
  unfold uInt at e
  split at e <;> cases e <;> rfl
def seqU : U → Option (List U)
  | .fl ds => some ds
  | .lst ds => some ds
  | _ => none
theorem seqU_ok {h : IH} {G : Nat → Prop} {a : U} {c : D} {us : List U} (r : RF h G a c) (e : seqU a = some us) : ∃ ds, seqL h c = some ds ∧ RFs h G us ds := by
  cases r with
  | fl r =>
    cases e
    exact ⟨_, rfl, r⟩
  | ref f hn r =>
    cases e
    exact ⟨_, lstAt_of hn, r⟩
  | _ => cases e
def uTuple : List U → Option U := fun as => match as with
  | [.tup ds] => some (.tup ds)
  | [x] => (seqU x).map .tup
  | _ => none
theorem od_tuple : OdN pyTuple uTuple := fun h G us ds r hb rs e => by
  cases rs with
  | nil => cases e
  | cons a b => cases b with
    | nil => cases a with
      | tup q =>
        cases e
        exact same rfl (.tup q)
      | fl q =>
        cases e
        exact same rfl (.tup q)
      | ref f hn q =>
        cases e
        exact same (by simp only [pyTuple, seqL, lstAt_of hn]) (.tup q)
      | _ => cases e
    | cons b c => cases a <;> cases e
def uList : List U → Option U := fun as => match as with
  | [.tup ds] => some (.lst ds)
  | [x] => (seqU x).map .lst
  | _ => none
theorem list_cases {h : IH} {G : Nat → Prop} {us : List U} {ds : List D} {r : U} (rs : RFs h G us ds) (e : uList us = some r) : ∃ vs es, r = .lst vs ∧ RFs h G vs es ∧ pyList ds h = .val (.ref h.length) (h ++ [.lst es]) := by
  cases rs with
  | nil => cases e
  | cons a b => cases b with
    | nil => cases a with
      | tup q =>
        cases e
        exact ⟨_, _, rfl, q, rfl⟩
      | fl q =>
        cases e
        exact ⟨_, _, rfl, q, rfl⟩
      | ref f hn q =>
        cases e
        exact ⟨_, _, rfl, q, by simp only [pyList, seqD, seqL, lstAt_of hn]⟩
      | _ => cases e
    | cons b c => cases a <;> cases e
theorem od_list : OdN pyList uList := fun h G us ds r hb rs e => by
  obtain ⟨vs, es, rfl, q, z⟩ := list_cases rs e
  exact ⟨_, _, z, newL hb q⟩
theorem oo_list : OoN 1 pyList uList := fun h G us ds r hb rs e => by
  obtain ⟨vs, es, rfl, q, z⟩ := list_cases rs e
  exact ⟨_, _, _, z, newO hb q⟩
def intsU : List U → Option (List Int) := mapO fun d => match d with
  | .int i => some i
  | _ => none
def boolsU : List U → Option (List Bool) := mapO fun d => match d with
  | .bl i => some i
  | _ => none
theorem intsU_ok {h : IH} {G : Nat → Prop} : ∀ {us : List U} {ds : List D} {ns : List Int}, RFs h G us ds → intsU us = some ns → intsD ds = some ns
  | _, _, _, .nil, e => e
  | _, _, _, .cons a b, e => by
    obtain ⟨x, xs, e1, e2, rfl⟩ := mapO_cons e
    refine mapO_cons' ?_ (intsU_ok b e2)
    cases a <;> first | exact e1 | cases e1
theorem boolsU_ok {h : IH} {G : Nat → Prop} : ∀ {us : List U} {ds : List D} {ns : List Bool}, RFs h G us ds → boolsU us = some ns → boolsD ds = some ns
  | _, _, _, .nil, e => e
  | _, _, _, .cons a b, e => by
    obtain ⟨x, xs, e1, e2, rfl⟩ := mapO_cons e
    refine mapO_cons' ?_ (boolsU_ok b e2)
    cases a <;> first | exact e1 | cases e1
def seqTU : U → Option (List U)
  | .tup ds => some ds
  | d => seqU d
theorem seqTU_ok {h : IH} {G : Nat → Prop} {a : U} {c : D} {us : List U} (r : RF h G a c) (e : seqTU a = some us) : ∃ ds, seqD h c = some ds ∧ RFs h G us ds := by
  cases r with
  | tup r =>
    cases e
    exact ⟨_, rfl, r⟩
  | fl r =>
    cases e
    exact ⟨_, rfl, r⟩
  | ref f hn r =>
    cases e
    exact ⟨_, lstAt_of hn, r⟩
  | _ => cases e
def uSum : List U → Option U := fun as => match as with
  | [x] => match seqTU x with
    | some ds => (intsU ds).map fun ns => .int ns.sum
    | none => none
  | _ => none
def uAll : List U → Option U := fun as => match as with
  | [x] => match seqU x with
    | some ds => (boolsU ds).map fun ns => .bl (ns.all id)
    | none => none
  | _ => none
def uAny : List U → Option U := fun as => match as with
  | [x] => match seqU x with
    | some ds => (boolsU ds).map fun ns => .bl (ns.any id)
    | none => none
  | _ => none
theorem od_sum : OdN pySum uSum := fun h G us ds r hb rs e => by
  unfold uSum at e
  split at e
  · rename_i x
    cases rs with
    | cons a b => cases b with
      | nil =>
        split at e
        · rename_i vs z
          obtain ⟨es, z1, z2⟩ := seqTU_ok a z
          cases z3 : intsU vs with
          | none =>
            rw [z3] at e
            cases e
          | some ns =>
            rw [z3] at e
            cases e
            exact same (by simp only [pySum, z1, intsU_ok z2 z3]) (.int _)
        · cases e
  · cases e
theorem fl_sum : FlN uSum := fun us r e => by
  unfold uSum at e
  split at e
  · split at e
    · rename_i ds _
      cases z : intsU ds <;> rw [z] at e <;> cases e
      rfl
    · cases e
  · cases e
theorem od_all : OdN pyAll uAll := fun h G us ds r hb rs e => by
  unfold uAll at e
  split at e
  · rename_i x
    cases rs with
    | cons a b => cases b with
      | nil =>
        split at e
        · rename_i vs z
          obtain ⟨es, z1, z2⟩ := seqU_ok a z
          cases z3 : boolsU vs with
          | none =>
            rw [z3] at e
            cases e
          | some ns =>
            rw [z3] at e
            cases e
            exact same (by simp only [pyAll, z1, boolsU_ok z2 z3]) (.bl _)
        · cases e
  · cases e
theorem fl_all : FlN uAll := fun us r e => by
  unfold uAll at e
  split at e
  · split at e
    · rename_i ds _
      cases z : boolsU ds <;> rw [z] at e <;> cases e
      rfl
    · cases e
  · cases e
theorem od_any : OdN pyAny uAny := fun h G us ds r hb rs e => by
  unfold uAny at e
  split at e
  · rename_i x
    cases rs with
    | cons a b => cases b with
      | nil =>
        split at e
        · rename_i vs z
          obtain ⟨es, z1, z2⟩ := seqU_ok a z
          cases z3 : boolsU vs with
          | none =>
            rw [z3] at e
            cases e
          | some ns =>
            rw [z3] at e
            cases e
            exact same (by simp only [pyAny, z1, boolsU_ok z2 z3]) (.bl _)
        · cases e
  · cases e
theorem fl_any : FlN uAny := fun us r e => by
  unfold uAny at e
  split at e
  · split at e
    · rename_i ds _
      cases z : boolsU ds <;> rw [z] at e <;> cases e
      rfl
    · cases e
  · cases e
end VV
set_option Elab.async false
set_option linter.all false
set_option maxRecDepth 100000
namespace VV
open PySem L2 DD
/-! ### min, max, repr -/
def ofPyU : Nat → PyData → Option U
  | 0, _ => none
  | n + 1, p => match p with
    | .none => some .non
    | .bool b => some (.bl b)
    | .int i => some (.int i)
    | .str x => some (.str x)
    | .tuple ps => (mapO (ofPyU n) ps).map .tup
    | _ => none
theorem ofPy_all {n : Nat} (ih : ∀ {p : PyData} {u : U}, ofPyU n p = some u → ∃ d, ofPy n p = some d ∧ (∀ h G, RF h G u d) ∧ flat u = true) : ∀ {ps : List PyData} {us : List U}, mapO (ofPyU n) ps = some us → ∃ ds, mapO (ofPy n) ps = some ds ∧ (∀ h G, RFs h G us ds) ∧ flats us = true
  | [], _, e => by
    cases e
    exact ⟨[], rfl, fun _ _ => .nil, rfl⟩
  | p :: ps, _, e => by
    obtain ⟨a, b, e1, e2, rfl⟩ := mapO_cons e
    obtain ⟨d, z1, z2, z3⟩ := ih e1
    obtain ⟨ds, y1, y2, y3⟩ := ofPy_all ih e2
    exact ⟨d :: ds, mapO_cons' z1 y1, fun h G => .cons (z2 h G) (y2 h G), by rw [flats, z3, y3]; rfl⟩
theorem ofPy_ok : ∀ {n : Nat} {p : PyData} {u : U}, ofPyU n p = some u → ∃ d, ofPy n p = some d ∧ (∀ h G, RF h G u d) ∧ flat u = true
  | 0, _, _, e => by cases e
  | n + 1, p, u, e => by
    cases p with
    | none =>
      cases e
      exact ⟨_, rfl, fun _ _ => .non, rfl⟩
    | bool b =>
      cases e
      exact ⟨_, rfl, fun _ _ => .bl b, rfl⟩
    | int b =>
      cases e
      exact ⟨_, rfl, fun _ _ => .int b, rfl⟩
    | str b =>
      cases e
      exact ⟨_, rfl, fun _ _ => .str b, rfl⟩
    | tuple ps =>
      have e' : (mapO (ofPyU n) ps).map U.tup = some u := e
      cases z : mapO (ofPyU n) ps with
      | none =>
        rw [z] at e'
        cases e'
      | some us =>
        rw [z] at e'
        cases e'
        obtain ⟨ds, y1, y2, y3⟩ := ofPy_all (fun e => ofPy_ok e) z
        exact ⟨.tup ds, by simp only [ofPy, y1, Option.map_some], fun h G => .tup (y2 h G), y3⟩
    | _ => cases e
def bestU (g : PyData → List PyData → PyData) (ds : List U) : Option U := match mapO (toPyU 12) ds with
  | some (p :: ps) => if (alikeB (p :: ps) && PyData.canLayAll0 (p :: ps) && decide (PyData.depthAll (p :: ps) ≤ 60)) = true then ofPyU 12 (g p ps) else none
  | _ => none
theorem best_ok {g : PyData → List PyData → PyData} {h : IH} {G : Nat → Prop} {us : List U} {ds : List D} {u : U} (r : RFs h G us ds) (e : bestU g us = some u) : ∃ d, bestO g h ds = some d ∧ (∀ h G, RF h G u d) ∧ flat u = true := by
  unfold bestU at e
  unfold bestO
  split at e
  · rename_i p ps z
    split at e
    · rename_i c
      obtain ⟨d, z1, z2⟩ := ofPy_ok e
      exact ⟨d, by rw [mapO_rel (fun r e => toPy_ok r e) r z]; simp only [c, if_true]; exact z1, z2⟩
    · cases e
  · cases e
def uMin : List U → Option U := fun as => match as with
  | [.int i, .int j] => some (.int (if j < i then j else i))
  | [x] => match seqU x with
    | some ds => bestU PySem.W.minD ds
    | none => none
  | _ => none
def uMax : List U → Option U := fun as => match as with
  | [.int i, .int j] => some (.int (if j > i then j else i))
  | [x] => match seqU x with
    | some ds => bestU PySem.W.maxD ds
    | none => none
  | _ => none
theorem od_min : OdN pyMin uMin := fun h G us ds r hb rs e => by
  unfold uMin at e
  split at e
  · cases e
    cases rs with
    | cons a b => cases b with
      | cons b c => cases c with
        | nil =>
          cases a
          cases b
          exact same rfl (.int _)
  · rename_i x
    cases rs with
    | cons a b => cases b with
      | nil =>
        split at e
        · rename_i vs z
          obtain ⟨es, z1, z2⟩ := seqU_ok a z
          obtain ⟨d, y1, y2, y3⟩ := best_ok z2 e
          exact same (by simp only [pyMin, z1, y1]) (y2 _ _)
        · cases e
  · cases e
theorem fl_min : FlN uMin := fun us r e => by
  unfold uMin at e
  split at e
  · cases e
    rfl
  · split at e
    · unfold bestU at e
      split at e
      · split at e
        · exact (ofPy_ok e).choose_spec.2.2
        · cases e
      · cases e
    · cases e
  · cases e
theorem od_max : OdN pyMax uMax := fun h G us ds r hb rs e => by
  unfold uMax at e
  split at e
  · cases e
    cases rs with
    | cons a b => cases b with
      | cons b c => cases c with
        | nil =>
          cases a
          cases b
          exact same rfl (.int _)
  · rename_i x
    cases rs with
    | cons a b => cases b with
      | nil =>
        split at e
        · rename_i vs z
          obtain ⟨es, z1, z2⟩ := seqU_ok a z
          obtain ⟨d, y1, y2, y3⟩ := best_ok z2 e
          exact same (by simp only [pyMax, z1, y1]) (y2 _ _)
        · cases e
  · cases e
theorem fl_max : FlN uMax := fun us r e => by
  unfold uMax at e
  split at e
  · cases e
    rfl
  · split at e
    · unfold bestU at e
      split at e
      · split at e
        · exact (ofPy_ok e).choose_spec.2.2
        · cases e
      · cases e
    · cases e
  · cases e
def uRepr : List U → Option U := fun as => match as with
  | [x] => match toPyU 12 x with
    | some p => match p with
      | .list _ | .tuple _ => if (p.showable && !p.hasDict && decide (p.depth ≤ 60) && decide (p.shown.length ≤ sizeLine)) = true then some (.str p.shown) else none
      | _ => none
    | none => none
  | _ => none
theorem od_repr : OdN pyRepr uRepr := fun h G us ds r hb rs e => by
  unfold uRepr at e
  split at e
  · rename_i x
    cases rs with
    | cons a b => cases b with
      | nil =>
        split at e
        · rename_i p z
          split at e
          · split at e
            · rename_i c
              cases e
              exact same (by simp only [DD.pyRepr, toPy_ok a z, c, if_true]) (.str _)
            · cases e
          · split at e
            · rename_i c
              cases e
              exact same (by simp only [DD.pyRepr, toPy_ok a z, c, if_true]) (.str _)
            · cases e
          · cases e
        · cases e
  · cases e
theorem fl_repr : FlN uRepr := fun us r e => by
  unfold uRepr at e
  split at e
  · split at e
    · split at e
      · split at e <;> cases e
        rfl
      · split at e <;> cases e
        rfl
      · cases e
    · cases e
  · cases e
/-! ### subscripts, slices, in -/
theorem atI_ok {h : IH} {G : Nat → Prop} {us : List U} {ds : List D} {i : Int} {u : U} (r : RFs h G us ds) (e : atI us i = some u) : ∃ d, atI ds i = some d ∧ RF h G u d := by
  unfold atI at e ⊢
  rw [← r.length]
  cases z : ixN us.length i with
  | none =>
    rw [z] at e
    cases e
  | some j =>
    rw [z] at e
    exact r.get e
mutual
def keyU : U → Option KD
  | .non => some .non
  | .bl b => some (.bl b)
  | .int i => some (.int i)
  | .str x => some (.str x)
  | .tup ds => (keyUs ds).map .tup
  | _ => none
def keyUs : List U → Option (List KD)
  | [] => some []
  | d :: ds => match keyU d, keyUs ds with
    | some k, some ks => some (k :: ks)
    | _, _ => none
end
mutual
theorem keyU_ok {h : IH} {G : Nat → Prop} : ∀ {u : U} {d : D} {k : KD}, RF h G u d → keyU u = some k → keyD d = some k
  | _, _, _, .non, e => by
    cases e
    rfl
  | _, _, _, .bl _, e => by
    cases e
    rfl
  | _, _, _, .int _, e => by
    cases e
    rfl
  | _, _, _, .str _, e => by
    cases e
    rfl
  | _, _, _, .tup r, e => by
    rw [keyU] at e
    obtain ⟨ks, z, rfl⟩ := Option.map_eq_some_iff.mp e
    rw [keyD, keyUs_ok r z]
    rfl
  | _, _, _, .op _, e => by simp [keyU] at e
  | _, _, _, .fl _, e => by simp [keyU] at e
  | _, _, _, .ref _ _ _, e => by simp [keyU] at e
  | _, _, _, .dic _ _ _ _, e => by simp [keyU] at e
  | _, _, _, .gl _, e => by simp [keyU] at e
  | _, _, _, .ins _ _ _ _, e => by simp [keyU] at e
theorem keyUs_ok {h : IH} {G : Nat → Prop} : ∀ {us : List U} {ds : List D} {ks : List KD}, RFs h G us ds → keyUs us = some ks → keyDs ds = some ks
  | _, _, _, .nil, e => by
    cases e
    rfl
  | _, _, _, .cons a b, e => by
    rw [keyUs] at e
    split at e
    · rename_i k ks z1 z2
      cases e
      rw [keyDs, keyU_ok a z1, keyUs_ok b z2]
    · cases e
end
def valU (kvs : List (KD × U)) (k : KD) : Option U := match kvs with
  | [] => none
  | (j, d) :: r => if eqK j k = true then some d else valU r k
theorem valU_ok {h : IH} {G : Nat → Prop} : ∀ {ks : List (KD × U)} {kvs : List (KD × D)} (k : KD), ks.map (·.1) = kvs.map (·.1) → RFs h G (ks.map (·.2)) (kvs.map (·.2)) → (match valU ks k with
    | none => valD kvs k = none
    | some u => ∃ d, valD kvs k = some d ∧ RF h G u d)
  | [], [], k, _, _ => rfl
  | [], _ :: _, k, e, _ => by simp at e
  | _ :: _, [], k, e, _ => by simp at e
  | (j, u) :: ks, (j', d) :: kvs, k, e, r => by
    simp only [List.map_cons, List.cons.injEq] at e
    obtain ⟨rfl, e⟩ := e
    cases r with
    | cons a b =>
      by_cases hj : eqK j k = true
      · simp only [valU, valD, if_pos hj]
        exact ⟨d, rfl, a⟩
      · simp only [valU, valD, if_neg hj]
        exact valU_ok k e b
def okU (kvs : List (KD × U)) (k : KD) : Bool := match kvs with
  | [] => kk k || isT k
  | (j, _) :: _ => (kk j && kk k) || (isT j && isT k)
theorem okU_ok {ks : List (KD × U)} {kvs : List (KD × D)} (e : ks.map (·.1) = kvs.map (·.1)) (k : KD) : okU ks k = okK kvs k := by
  cases ks with
  | nil => cases kvs with
    | nil => rfl
    | cons q r => simp at e
  | cons p r => cases kvs with
    | nil => simp at e
    | cons q r =>
      simp only [List.map_cons, List.cons.injEq] at e
      obtain ⟨j, u⟩ := p
      obtain ⟨j', u'⟩ := q
      obtain ⟨e1, e⟩ := e
      cases e1
      rfl
def getU (kvs : List (KD × U)) (y : U) : Option (Option U) := match keyU y with
  | some k => if okU kvs k = true then some (valU kvs k) else none
  | none => none
theorem getU_ok {h : IH} {G : Nat → Prop} {ks : List (KD × U)} {kvs : List (KD × D)} {y : U} {d : D} {o : Option U} (ek : ks.map (·.1) = kvs.map (·.1)) (q : RFs h G (ks.map (·.2)) (kvs.map (·.2))) (r : RF h G y d) (e : getU ks y = some o) : (o = none ∧ getK kvs d = some none) ∨ ∃ u d', o = some u ∧ getK kvs d = some (some d') ∧ RF h G u d' := by
  unfold getU at e
  split at e
  · rename_i k z
    split at e
    · rename_i zk
      cases e
      rw [okU_ok ek] at zk
      have y := valU_ok k ek q
      unfold getK
      rw [keyU_ok r z]
      simp only [if_pos zk]
      cases w : valU ks k with
      | none =>
        rw [w] at y
        exact .inl ⟨rfl, by rw [y]⟩
      | some u =>
        rw [w] at y
        obtain ⟨d', y1, y2⟩ := y
        exact .inr ⟨u, d', rfl, by rw [y1], y2⟩
    · cases e
  · cases e
def uIx : U → U → Option U
  | .str z, .int i => if z.length ≤ sizeLine then (atI z.cps.toList i).map fun c => .str ⟨#[c]⟩ else none
  | .tup ds, .int i => atI ds i
  | .fl ds, .int i => atI ds i
  | .lst ds, .int i => atI ds i
  | .dic kvs, k => match getU kvs k with
    | some o => o
    | none => none
  | _, _ => none
theorem od_ix : Od2 pyIx uIx := fun h G u d u' d' r hb a b e => by
  cases a with
  | str z =>
    cases b <;> simp only [uIx, reduceCtorEq] at e
    split at e
    · rename_i hl
      rename_i i
      cases y : atI z.cps.toList i with
      | none =>
        rw [y] at e
        cases e
      | some c =>
        rw [y] at e
        cases e
        exact same (by simp only [DD.pyIx, if_pos hl, y]) (.str _)
    · cases e
  | tup q =>
    cases b <;> simp only [uIx, reduceCtorEq] at e
    obtain ⟨d, z1, z2⟩ := atI_ok q e
    exact same (by simp only [DD.pyIx, z1]) z2
  | fl q =>
    cases b <;> simp only [uIx, reduceCtorEq] at e
    obtain ⟨d, z1, z2⟩ := atI_ok q e
    exact same (by simp only [DD.pyIx, z1]) z2
  | ref f hn q =>
    cases b <;> simp only [uIx, reduceCtorEq] at e
    obtain ⟨d, z1, z2⟩ := atI_ok q e
    exact same (by simp only [DD.pyIx, hn, z1]) z2
  | dic f hn ek q =>
    simp only [uIx] at e
    split at e
    · rename_i j z
      subst e
      rcases getU_ok ek q b z with ⟨z1, _⟩ | ⟨u, d', z1, z2, z3⟩
      · cases z1
      · cases z1
        exact same (by simp only [DD.pyIx, hn, z2]) z3
    · cases e
  | _ => cases b <;> simp only [uIx, reduceCtorEq] at e
abbrev VOp := UE → ER (Option Int)
def voN : VOp := fun e => .val none e
def voS (v : VE) : VOp := fun e => (v e).bind fun u e1 => match u with
  | .int i => .val (some i) e1
  | _ => .stk
def SO (dp : Nat → Nat) (io : List Nat) (m : MO) (v : VOp) : Prop := ∀ F S h ve env, Gd dp F S h ve env → PoE h.length dp io F S h ve env (fun _ _ _ Sr a b => a = b) (v ve) (m env h)
def uSlice (u : U) (lo hi : Option Int) : Option U := match u with
  | .tup ds => some (.tup (cutA ds lo hi))
  | .str z => if z.length ≤ sizeLine then some (.str (cutS z lo hi)) else none
  | x => (seqU x).map fun ds => .lst (cutA ds lo hi)
def vSl (a : VE) (lo hi : VOp) : VE := fun e => (a e).bind fun u e1 => (lo e1).bind fun l e2 => (hi e2).bind fun r e3 => ofO (uSlice u l r) e3
theorem cutA_ok {h : IH} {G : Nat → Prop} {us : List U} {ds : List D} (lo hi : Option Int) (r : RFs h G us ds) : RFs h G (cutA us lo hi) (cutA ds lo hi) := by
  unfold cutA
  rw [r.length]
  exact (r.drop _).take _
theorem slice_ok {h : IH} {G : Nat → Prop} {u : U} {d : D} {r : U} (lo hi : Option Int) (hb : ∀ n, G n → n < h.length) (a : RF h G u d) (e : uSlice u lo hi = some r) : ∃ e' q, pySlice d lo hi h = .val e' (h ++ q) ∧ RF (h ++ q) (Nw h q G) r e' := by
  cases a with
  | tup q =>
    cases e
    exact same rfl (.tup (cutA_ok lo hi q))
  | str z =>
    simp only [uSlice] at e
    split at e
    · rename_i hl
      cases e
      exact same (by simp only [DD.pySlice, if_pos hl]) (.str _)
    · cases e
  | fl q =>
    cases e
    exact ⟨_, _, rfl, newL hb (cutA_ok lo hi q)⟩
  | ref f hn q =>
    cases e
    exact ⟨_, [_], by simp only [DD.pySlice, seqL, lstAt_of hn], newL hb (cutA_ok lo hi q)⟩
  | _ => cases e
/-- lists alone -/
def uSliceL (u : U) (lo hi : Option Int) : Option U := match u with
  | .fl ds => some (.lst (cutA ds lo hi))
  | .lst ds => some (.lst (cutA ds lo hi))
  | _ => none
theorem sliceL_ok {h : IH} {G : Nat → Prop} {u : U} {d : D} {r : U} (lo hi : Option Int) (hb : ∀ n, G n → n < h.length) (a : RF h G u d) (e : uSliceL u lo hi = some r) : ∃ e' q Sr, pySlice d lo hi h = .val e' (h ++ q) ∧ RV (h ++ q) G 1 Sr r e' ∧ Nx h q Sr := by
  cases a with
  | fl q =>
    cases e
    exact ⟨_, _, _, rfl, newO hb (cutA_ok lo hi q)⟩
  | ref f hn q =>
    cases e
    exact ⟨_, [_], _, by simp only [DD.pySlice, seqL, lstAt_of hn], newO hb (cutA_ok lo hi q)⟩
  | _ => cases e
def vSlL (a : VE) (lo hi : VOp) : VE := fun e => (a e).bind fun u e1 => (lo e1).bind fun l e2 => (hi e2).bind fun r e3 => ofO (uSliceL u l r) e3
section
variable {dp : Nat → Nat} {io : List Nat} {ma : ME} {va : VE} {ml mh : MO} {vl vh : VOp}
theorem so_none : SO dp io moN voN := fun F S h ve env g => PoE.val (Sr := []) g .nil rfl
theorem so_some (ha : SE dp io .bor ma va) : SO dp io (moS ma) (voS va) := fun F S h ve env gd =>
  (ha F S h ve env gd).bind fun x d F1 S1 h1 ve1 Sr e1 t1 r1 => by
    obtain ⟨r1, rfl⟩ := r1
    cases r1 <;> first
      | trivial
      | exact PoE.val (Sr := []) e1.gd .nil rfl
theorem sl_go {md : Md} {lo : Nat} {R2 : (Nat → Prop) → (Nat → List Nat) → IH → List Nat → U → D → Prop} {F : Nat → Prop} {S : Nat → List Nat} {h : IH} {ve : UE} {env : En} {f : U → Option Int → Option Int → Option U} (ha : SE dp io md ma va) (hl : SO dp io ml vl) (hh : SO dp io mh vh) (gd : Gd dp F S h ve env)
    (q : ∀ x a l r F' S' h' ve' Sr, EP dp io F S h ve env F' S' h' ve' → RM io F' S' h' Sr x a md → PoE lo dp io F' S' h' ve' env R2 (ofO (f x l r) ve') (pySlice a l r h')) :
    PoE lo dp io F S h ve env R2 ((va ve).bind fun u e1 => (vl e1).bind fun l e2 => (vh e2).bind fun r e3 => ofO (f u l r) e3) (mSl ma ml mh env h) :=
  (ha F S h ve env gd).bind fun x d F1 S1 h1 ve1 Sr e1 t1 r1 => (hl F1 S1 h1 ve1 env e1.gd).bind fun l l' F2 S2 h2 ve2 Tr e2 t2 r2 => (hh F2 S2 h2 ve2 env e2.gd).bind fun r r' F3 S3 h3 ve3 Vr e3 t3 r3 => by
    subst r2 r3
    exact q x d l r F3 S3 h3 ve3 Sr (e1.trans (e2.trans e3)) (RM.keep e1.gd (e2.trans e3) t1 r1)
theorem se_slice (ha : SE dp io .fz ma va) (hl : SO dp io ml vl) (hh : SO dp io mh vh) : SE dp io .fz (mSl ma ml mh) (vSl va vl vh) := fun F S h ve env gd =>
  sl_go ha hl hh gd fun x a l r F1 S1 h1 ve1 Sr e1 r1 => by
    cases z : uSlice x l r with
    | none => trivial
    | some u =>
      obtain ⟨e, q, z1, z2⟩ := slice_ok l r e1.gd.fb r1.1 z
      rw [z1]
      exact PoE.opfz e1.gd z2
theorem se_sliceB (ha : SE dp io .bor ma va) (hl : SO dp io ml vl) (hh : SO dp io mh vh) : SE dp io .bor (mSl ma ml mh) (vSl va vl vh) := fun F S h ve env gd =>
  sl_go ha hl hh gd fun x a l r F1 S1 h1 ve1 Sr e1 r1 => by
    cases z : uSlice x l r with
    | none => trivial
    | some u =>
      obtain ⟨e, q, z1, z2⟩ := slice_ok l r (fun n y => y.1) r1.1 z
      rw [z1]
      exact PoE.opbor e1.gd z2
theorem se_sliceO (ha : SE dp io .fz ma va) (hl : SO dp io ml vl) (hh : SO dp io mh vh) : SE dp io (.fr 1) (mSl ma ml mh) (vSlL va vl vh) := fun F S h ve env gd =>
  sl_go ha hl hh gd fun x a l r F1 S1 h1 ve1 Sr e1 r1 => by
    cases z : uSliceL x l r with
    | none => trivial
    | some u =>
      obtain ⟨e, q, T, z1, z2, z3⟩ := sliceL_ok l r e1.gd.fb r1.1 z
      rw [z1]
      exact PoE.opfr e1.gd e1.hl z2 z3
end
def inTU (x y : U) : Option Bool := match toPyU 12 x, toPyU 12 y with
  | some d, some (.list ds) => if (SeqAt.shaped d && SeqAt.shaped (.list ds)) = true then some (ds.any fun z => PyData.eqv z d) else none
  | some d, some (.tuple ds) => if (SeqAt.shaped d && SeqAt.shaped (.list ds)) = true then some (ds.any fun z => PyData.eqv z d) else none
  | _, _ => none
def inU : U → U → Option Bool
  | .str w, .str z => some (!(Builtin.Str.occurrences z w 0 z.length 1).isEmpty)
  | x, .dic kvs => (getU kvs x).map Option.isSome
  | x, y => inTU x y
theorem inTU_ok {h : IH} {G : Nat → Prop} {x y : U} {a b : D} {k : Bool} (ra : RF h G x a) (rb : RF h G y b) (e : inTU x y = some k) : inT h a b = some k := by
  unfold inTU at e
  unfold inT
  cases z1 : toPyU 12 x with
  | none =>
    rw [z1] at e
    cases e
  | some d =>
    cases z2 : toPyU 12 y with
    | none =>
      rw [z1, z2] at e
      cases e
    | some q =>
      rw [z1, z2] at e
      rw [toPy_ok ra z1, toPy_ok rb z2]
      exact e
theorem inU_ok {h : IH} {G : Nat → Prop} {x y : U} {a b : D} {k : Bool} (ra : RF h G x a) (rb : RF h G y b) (e : inU x y = some k) : inO h a b = some k := by
  unfold inU at e
  split at e
  · cases ra
    cases rb
    exact e
  · cases rb with
    | @dic n lk ks kvs' f hn ek q =>
      obtain ⟨o, z, rfl⟩ := Option.map_eq_some_iff.mp e
      have z1 : inK h a (.ref n) = some o.isSome := by
        have hd : dicAt h n = some kvs' := by
          unfold dicAt
          rw [hn]
        simp only [inK, hd]
        rcases getU_ok ek q ra z with ⟨rfl, z2⟩ | ⟨u, d', rfl, z2, _⟩ <;> rw [z2] <;> rfl
      unfold inO
      cases ra <;> first | (simp only [z1]; done) | (simp [getU, keyU] at z)
  · rename_i n1 n2
    have z := inTU_ok ra rb e
    unfold inO
    split
    · cases ra
      cases rb
      first | exact (n1 _ _ rfl rfl).elim | exact (n1 rfl rfl).elim | exact (n2 _ _ rfl rfl).elim
    · have z2 : inK h a b = none := by
        cases rb with
        | ref f hn q => simp only [inK, dicAt, hn]
        | dic f hn c q => first | exact (n1 _ rfl).elim | exact (n2 _ rfl).elim
        | ins f hn c q => simp only [inK, dicAt, hn]
        | _ => rfl
      rw [z2]
      exact z
def uIn (a b : U) : Option U := (inU a b).map .bl
def uNotIn (a b : U) : Option U := (inU a b).map fun k => .bl !k
theorem od_in : Od2 pyIn uIn := fun h G u d u' d' r hb a b e => by
  unfold uIn at e
  cases z : inU u u' with
  | none =>
    rw [z] at e
    cases e
  | some k =>
    rw [z] at e
    cases e
    exact same (by simp only [DD.pyIn, inU_ok a b z]) (.bl _)
theorem od_notIn : Od2 pyNotIn uNotIn := fun h G u d u' d' r hb a b e => by
  unfold uNotIn at e
  cases z : inU u u' with
  | none =>
    rw [z] at e
    cases e
  | some k =>
    rw [z] at e
    cases e
    exact same (by simp only [DD.pyNotIn, inU_ok a b z]) (.bl _)
theorem fl_in : Fl2 uIn := fun u u' r e => by
  unfold uIn at e
  cases z : inU u u' <;> rw [z] at e <;> cases e
  rfl
theorem fl_notIn : Fl2 uNotIn := fun u u' r e => by
  unfold uNotIn at e
  cases z : inU u u' <;> rw [z] at e <;> cases e
  rfl
end VV
set_option Elab.async false
set_option linter.all false
set_option maxRecDepth 100000
namespace VV
open PySem L2 DD
/-! ### tests, conditional values -/
def truU : U → Option Bool
  | .non => some false
  | .bl b => some b
  | .int i => some (i != 0)
  | .str x => if x.length ≤ sizeLine then some ((x.length : Int) != 0) else none
  | .tup ds => some !ds.isEmpty
  | .fl ds => some !ds.isEmpty
  | .lst ds => some !ds.isEmpty
  | _ => none
theorem RFs.isEmpty {h : IH} {G : Nat → Prop} {us : List U} {ds : List D} (r : RFs h G us ds) : us.isEmpty = ds.isEmpty := by
  cases r <;> rfl
theorem truU_ok {h : IH} {G : Nat → Prop} {u : U} {d : D} {k : Bool} (r : RF h G u d) (e : truU u = some k) : truD h d = some k := by
  cases r with
  | tup q =>
    simp only [truU, truD] at e ⊢
    rw [← q.isEmpty]
    exact e
  | fl q =>
    simp only [truU, truD] at e ⊢
    rw [← q.isEmpty]
    exact e
  | ref f hn q =>
    simp only [truU, truD, hn] at e ⊢
    rw [← q.isEmpty]
    exact e
  | dic f hn c q => cases e
  | gl x => cases e
  | ins f hn c q => cases e
  | _ => exact e
def vTru (a : VE) : VT := fun e => (a e).bind fun u e1 => match truU u with
  | some b => .val b e1
  | none => .stk
def vTst (a : VE) : VT := fun e => (a e).bind fun u e1 => match u with
  | .bl b => .val b e1
  | _ => .stk
def vAnd (a b : VT) : VT := fun e => (a e).bind fun k e1 => if k then b e1 else .val false e1
def vOr (a b : VT) : VT := fun e => (a e).bind fun k e1 => if k then .val true e1 else b e1
def vNot (a : VT) : VT := fun e => (a e).bind fun k e1 => .val (!k) e1
def vAndV (a b : VE) : VE := fun e => (a e).bind fun d e1 => match truU d with
  | some true => b e1
  | some false => .val d e1
  | none => .stk
def vOrV (a b : VE) : VE := fun e => (a e).bind fun d e1 => match truU d with
  | some true => .val d e1
  | some false => b e1
  | none => .stk
def vNotV (a : VE) : VE := fun e => (a e).bind fun d e1 => match truU d with
  | some k => .val (.bl !k) e1
  | none => .stk
def vIf (c : VT) (a b : VE) : VE := fun e => (c e).bind fun k e1 => if k then a e1 else b e1
def vChain (f f' : U → U → Option U) (a b c : VE) : VE := fun e => (a e).bind fun x e1 => (b e1).bind fun y e2 => match f x y with
  | some (.bl true) => (c e2).bind fun w e3 => ofO (f' y w) e3
  | some (.bl false) => .val (.bl false) e2
  | _ => .stk
section
variable {dp : Nat → Nat} {io : List Nat} {md : Md} {ma mb mc : ME} {va vb vc : VE} {ta tb : MT} {wa wb : VT}
theorem RM.rf {F : Nat → Prop} {S : Nat → List Nat} {h : IH} {ve : UE} {env : En} {Sr : List Nat} {u : U} {d : D} (g : Gd dp F S h ve env) {lo : Nat} (t : Tm F S lo h Sr) : ∀ {md : Md}, RM io F S h Sr u d md → RF h (Gr io S h) u d := by
  intro md r
  cases md with
  | fl => exact r.1.mono (fun n x => Gr.of g x) fun _ _ => rfl
  | fz => exact r.1.mono (fun n x => Gr.of g x) fun _ _ => rfl
  | bor => exact r.1
  | fr k => exact RV.frz r (fun n x => Gr.of g x) fun n hn => ⟨t.bd n hn, fun i _ => t.ns n hn i⟩
theorem sb_tru (ha : SE dp io md ma va) : SB dp io (mTru ma) (vTru va) := fun F S h ve env gd =>
  (ha F S h ve env gd).bind fun x d F1 S1 h1 ve1 Sr e1 t1 r1 => by
    cases z : truU x with
    | none => trivial
    | some k =>
      simp only [truU_ok (r1.rf e1.gd t1) z]
      exact PoE.val (Sr := []) e1.gd .nil rfl
theorem sb_tst (ha : SE dp io .bor ma va) : SB dp io (mTst ma) (vTst va) := fun F S h ve env gd =>
  (ha F S h ve env gd).bind fun x d F1 S1 h1 ve1 Sr e1 t1 r1 => by
    obtain ⟨r1, rfl⟩ := r1
    cases r1 <;> first
      | trivial
      | exact PoE.val (Sr := []) e1.gd .nil rfl
theorem sb_and (ha : SB dp io ta wa) (hb : SB dp io tb wb) : SB dp io (mAnd ta tb) (vAnd wa wb) := fun F S h ve env gd =>
  (ha F S h ve env gd).bind fun x d F1 S1 h1 ve1 Sr e1 t1 r1 => by
    subst r1
    cases x with
    | true => exact (hb F1 S1 h1 ve1 env e1.gd).low e1.hl
    | false => exact PoE.val (Sr := []) e1.gd .nil rfl
theorem sb_or (ha : SB dp io ta wa) (hb : SB dp io tb wb) : SB dp io (mOr ta tb) (vOr wa wb) := fun F S h ve env gd =>
  (ha F S h ve env gd).bind fun x d F1 S1 h1 ve1 Sr e1 t1 r1 => by
    subst r1
    cases x with
    | false => exact (hb F1 S1 h1 ve1 env e1.gd).low e1.hl
    | true => exact PoE.val (Sr := []) e1.gd .nil rfl
theorem sb_not (ha : SB dp io ta wa) : SB dp io (mNot ta) (vNot wa) := fun F S h ve env gd =>
  (ha F S h ve env gd).bind fun x d F1 S1 h1 ve1 Sr e1 t1 r1 => by
    subst r1
    exact PoE.val (Sr := []) e1.gd .nil rfl
def vYes : VT := fun e => .val true e
theorem sb_yes : SB dp io mYes vYes := fun F S h ve env gd => PoE.val (Sr := []) gd .nil rfl
theorem se_and (ha : SE dp io md ma va) (hb : SE dp io md mb vb) : SE dp io md (mAndV ma mb) (vAndV va vb) := fun F S h ve env gd =>
  (ha F S h ve env gd).bind fun x d F1 S1 h1 ve1 Sr e1 t1 r1 => by
    cases z : truU x with
    | none => trivial
    | some k =>
      simp only [truU_ok (r1.rf e1.gd t1) z]
      cases k with
      | true => exact (hb F1 S1 h1 ve1 env e1.gd).low e1.hl
      | false => exact PoE.val e1.gd t1 r1
theorem se_or (ha : SE dp io md ma va) (hb : SE dp io md mb vb) : SE dp io md (mOrV ma mb) (vOrV va vb) := fun F S h ve env gd =>
  (ha F S h ve env gd).bind fun x d F1 S1 h1 ve1 Sr e1 t1 r1 => by
    cases z : truU x with
    | none => trivial
    | some k =>
      simp only [truU_ok (r1.rf e1.gd t1) z]
      cases k with
      | false => exact (hb F1 S1 h1 ve1 env e1.gd).low e1.hl
      | true => exact PoE.val e1.gd t1 r1
theorem se_not (ha : SE dp io md ma va) : SE dp io .fl (mNotV ma) (vNotV va) := fun F S h ve env gd =>
  (ha F S h ve env gd).bind fun x d F1 S1 h1 ve1 Sr e1 t1 r1 => by
    cases z : truU x with
    | none => trivial
    | some k =>
      simp only [truU_ok (r1.rf e1.gd t1) z]
      exact PoE.val (Sr := []) e1.gd .nil ⟨.bl _, rfl, rfl⟩
theorem se_if (hc : SB dp io ta wa) (ha : SE dp io md ma va) (hb : SE dp io md mb vb) : SE dp io md (mIf ta ma mb) (vIf wa va vb) := fun F S h ve env gd =>
  (hc F S h ve env gd).bind fun x d F1 S1 h1 ve1 Sr e1 t1 r1 => by
    subst r1
    cases x with
    | true => exact (ha F1 S1 h1 ve1 env e1.gd).low e1.hl
    | false => exact (hb F1 S1 h1 ve1 env e1.gd).low e1.hl
theorem se_chain {f f' : D → D → IH → Res D} {g g' : U → U → Option U} (od : Od2 f g) (od' : Od2 f' g') (fl' : Fl2 g') (ha : SE dp io .bor ma va) (hb : SE dp io .bor mb vb) (hc : SE dp io .bor mc vc) : SE dp io .fl (mChain f f' ma mb mc) (vChain g g' va vb vc) := fun F S h ve env gd =>
  (ha F S h ve env gd).bind fun x a F1 S1 h1 ve1 Sr e1 t1 r1 => (hb F1 S1 h1 ve1 env e1.gd).bind fun y b F2 S2 h2 ve2 Tr e2 t2 r2 => by
    have k1 := RM.keep e1.gd e2 t1 r1
    cases z : g x y with
    | none => trivial
    | some u =>
      obtain ⟨e, q, z1, z2⟩ := od h2 _ x a y b u (fun n y => y.1) k1.1 r2.1 z
      simp only [z1]
      have e3 := EP.grow (io := io) e2.gd q (fun _ x => x) (fun _ x => .inl x)
      cases z2 with
      | bl k =>
        cases k with
        | false => exact ⟨_, _, F2, S2, [], rfl, e3, .nil, .bl _, rfl, rfl⟩
        | true =>
          have r3 := RM.keep e2.gd e3 t2 r2
          have z3 := (hc F2 S2 (h2 ++ q) ve2 env e3.gd).bind (lo' := h.length) (R2 := RE io .fl) (f := fun w e4 => ofO (g' y w) e4) (g := fun w h4 => f' b w h4) fun w c F4 S4 h4 ve4 Vr e4 t4 r4 => by
            have r5 := RM.keep e3.gd e4 (t2.keep e3) r3
            cases z5 : g' y w with
            | none => trivial
            | some u' =>
              obtain ⟨e', q', y1, y2⟩ := od' h4 _ y b w c u' (fun n y => y.1) r5.1 r4.1 z5
              rw [y1]
              exact PoE.opfl e4.gd y2 (fl' _ _ _ z5)
          show PoE h.length dp io F2 S2 h2 ve2 env (RE io .fl) _ ((Res.val (D.bl true) (h2 ++ q)).bind _)
          revert z3
          show PoE h.length dp io F2 S2 (h2 ++ q) ve2 env (RE io .fl) ((vc ve2).bind fun w e3 => ofO (g' y w) e3) ((mc env (h2 ++ q)).bind fun w h4 => f' b w h4) → PoE h.length dp io F2 S2 h2 ve2 env (RE io .fl) ((vc ve2).bind fun w e3 => ofO (g' y w) e3) ((mc env (h2 ++ q)).bind fun w h4 => f' b w h4)
          cases (vc ve2).bind fun w e3 => ofO (g' y w) e3 with
          | val u2 ve5 =>
            rintro ⟨d5, h5, F5, S5, S6, w1, w2, w3, w4⟩
            exact ⟨d5, h5, F5, S5, S6, w1, e3.trans w2, w3, w4⟩
          | exc x5 ve5 =>
            rintro ⟨d5, h5, F5, S5, w1, w2, w4⟩
            exact ⟨d5, h5, F5, S5, w1, e3.trans w2, w4⟩
          | stk => exact fun _ => trivial
      | _ => trivial
end
/-! ### targets -/
abbrev VTg := U → UE → Option UE
abbrev VTs := List U → UE → Option UE
def tN (i : Nat) : VTg := fun u e => some (e.set i (some u))
def tsNil : VTs := fun us e => match us with
  | [] => some e
  | _ => none
def tsCons (t : VTg) (r : VTs) : VTs := fun us e => match us with
  | u :: us => match t u e with
    | some e1 => r us e1
    | none => none
  | [] => none
def tT (n : Nat) (r : VTs) : VTg := fun u e => match u with
  | .tup us => if us.length = n then r us e else none
  | _ => none
/-- slots that a target binds: ts; they hold what is frozen -/
structure GP (dp : Nat → Nat) (ts : List Nat) (F : Nat → Prop) (S : Nat → List Nat) (h : IH) (ve : UE) (env : En) (S' : Nat → List Nat) (ve' : UE) (env' : En) : Prop where
  gd : Gd dp F S' h ve' env'
  so : ∀ i, S' i = S i ∨ S' i = []
  ln : ve'.length = ve.length
  st : ∀ i, i ∉ ts → S' i = S i ∧ env'[i]? = env[i]? ∧ ve'[i]? = ve[i]?
def SG (dp : Nat → Nat) (ts : List Nat) (g : MTg) (t : VTg) : Prop := ∀ F S h ve env u d, Gd dp F S h ve env → RF h F u d → match t u ve with
  | some ve' => ∃ env' S', g d env h = some (env', h) ∧ GP dp ts F S h ve env S' ve' env'
  | none => True
def SGs (dp : Nat → Nat) (ts : List Nat) (g : MTs) (t : VTs) : Prop := ∀ F S h ve env u d, Gd dp F S h ve env → RFs h F u d → match t u ve with
  | some ve' => ∃ env' S', g d env h = some (env', h) ∧ GP dp ts F S h ve env S' ve' env'
  | none => True
section
variable {dp : Nat → Nat} {ts us : List Nat} {F : Nat → Prop} {S : Nat → List Nat} {h : IH} {ve : UE} {env : En}
/-- a slot gets a value -/
theorem Gd.set (g : Gd dp F S h ve env) (i : Nat) {u : U} {d : D} {Sr : List Nat} {lo : Nat} (t : Tm F S lo h Sr) (r : RV h F (dp i) Sr u d) : Gd dp F (fun j => if j = i then Sr else S j) h (ve.set i (some u)) (env.set i (some d)) := by
  refine ⟨by rw [List.length_set, List.length_set]; exact g.len, fun j v e => ?_, fun j => ?_, fun j k n hj hk => ?_, fun j n hj => ?_, fun j n hj => ?_, g.fb⟩
  · rw [List.getElem?_set] at e ⊢
    by_cases hj : i = j
    · subst hj
      rw [if_pos rfl] at e ⊢
      by_cases hi : i < ve.length
      · rw [if_pos hi] at e
        cases e
        rw [if_pos (by rw [← g.len]; exact hi)]
        refine ⟨d, rfl, ?_⟩
        rw [if_pos rfl]
        exact r
      · rw [if_neg hi] at e
        cases e
    · rw [if_neg hj] at e ⊢
      obtain ⟨d', e1, r1⟩ := g.get j v e
      refine ⟨d', e1, ?_⟩
      rw [if_neg fun z => hj z.symm]
      exact r1
  · split
    · exact t.nd
    · exact g.nd j
  · split at hj <;> split at hk
    · rename_i a b
      rw [a, b]
    · exact absurd hk (t.ns n hj k)
    · exact absurd hj (t.ns n hk j)
    · exact g.dj j k n hj hk
  · split at hj
    · exact t.nf n hj
    · exact g.nf j n hj
  · split at hj
    · exact t.bd n hj
    · exact g.bd j n hj
theorem sg_name (i : Nat) (hi : dp i = 0) : SG dp [i] (gN i) (tN i) := fun F S h ve env u d g r => by
  refine ⟨env.set i (some d), fun j => if j = i then [] else S j, rfl, ?_, fun j => ?_, List.length_set, fun j hj => ?_⟩
  · exact g.set i (lo := 0) .nil (by rw [hi]; exact .fz r)
  · split
    · exact .inr rfl
    · exact .inl rfl
  · have hj : j ≠ i := fun e => hj (by rw [e]; exact List.mem_singleton_self _)
    refine ⟨if_neg hj, List.getElem?_set_ne fun e => hj e.symm, List.getElem?_set_ne fun e => hj e.symm⟩
theorem sgs_nil : SGs dp [] gsNil tsNil := fun F S h ve env u d g r => by
  cases r with
  | nil => exact ⟨env, S, rfl, g, fun _ => .inl rfl, rfl, fun _ _ => ⟨rfl, rfl, rfl⟩⟩
  | cons a b => trivial
theorem sgs_cons {g : MTg} {gs : MTs} {t : VTg} {r : VTs} (h1 : SG dp ts g t) (h2 : SGs dp us gs r) : SGs dp (ts ++ us) (gsCons g gs) (tsCons t r) := fun F S h ve env u d gd rs => by
  cases rs with
  | nil => trivial
  | cons a b =>
    rename_i x y xs ys
    have z := h1 F S h ve env x y gd a
    unfold tsCons gsCons
    dsimp only
    revert z
    cases t x ve with
    | none => exact fun _ => trivial
    | some ve1 =>
      rintro ⟨env1, S1, e1, p1⟩
      rw [e1]
      have z := h2 F S1 h ve1 env1 xs ys p1.gd b
      dsimp only
      revert z
      cases r xs ve1 with
      | none => exact fun _ => trivial
      | some ve2 =>
        rintro ⟨env2, S2, e2, p2⟩
        refine ⟨env2, S2, e2, p2.gd, fun i => ?_, p2.ln.trans p1.ln, fun i hi => ?_⟩
        · rcases p2.so i with z | z
          · rw [z]
            exact p1.so i
          · exact .inr z
        · obtain ⟨a1, a2, a3⟩ := p2.st i fun z => hi (List.mem_append_right _ z)
          obtain ⟨b1, b2, b3⟩ := p1.st i fun z => hi (List.mem_append_left _ z)
          exact ⟨a1.trans b1, a2.trans b2, a3.trans b3⟩
theorem sg_tup {n : Nat} {gs : MTs} {r : VTs} (h1 : SGs dp ts gs r) : SG dp ts (gT n gs) (tT n r) := fun F S h ve env u d gd rs => by
  cases rs with
  | tup q =>
    rename_i xs ys
    by_cases hl : xs.length = n
    · have z := h1 F S h ve env xs ys gd q
      simp only [tT, gT, ← q.length, if_pos hl]
      exact z
    · simp only [tT, if_neg hl]
  | _ => trivial
end
/-! ### what is walked -/
abbrev VI := UE → ER (List U)
/-- the items: frozen -/
def RI : (Nat → Prop) → (Nat → List Nat) → IH → List Nat → List U → Src → Prop := fun F S h Sr us s => match s with
  | .st ds => RFs h F us ds
  | .lv get => ∀ h' : IH, (∀ n, F n → h'[n]? = h[n]?) → ∃ ds, get h' = some ds ∧ RFs h F us ds
def SI (dp : Nat → Nat) (io : List Nat) (m : MI) (v : VI) : Prop := ∀ F S h ve env, Gd dp F S h ve env → PoE h.length dp io F S h ve env RI (v ve) (m env h)
def signsU (z : Str) : List U := z.cps.toList.map fun c => .str ⟨#[c]⟩
def itU : U → Option (List U)
  | .tup ds => some ds
  | .fl ds => some ds
  | .lst ds => some ds
  | .str z => some (signsU z)
  | _ => none
def vIt (a : VE) : VI := fun e => (a e).bind fun u e1 => match itU u with
  | some us => .val us e1
  | none => .stk
def rangeU (lo : Int) (n : Nat) : List U := (List.range n).map fun i => .int (lo + (i : Nat))
def vRng1 (a : VE) : VI := fun e => (a e).bind fun d e1 => match d with
  | .int j => .val (rangeU 0 j.toNat) e1
  | _ => .stk
def vRng2 (a b : VE) : VI := fun e => (a e).bind fun x e1 => (b e1).bind fun y e2 => match x, y with
  | .int i, .int j => .val (rangeU i (j - i).toNat) e2
  | _, _ => .stk
def enumU (i : Nat) : List U → List U
  | [] => []
  | d :: ds => .tup [.int (i : Nat), d] :: enumU (i + 1) ds
def vEn (a : VE) : VI := fun e => (a e).bind fun u e1 => match itU u with
  | some us => .val (enumU 0 us) e1
  | none => .stk
section
variable {dp : Nat → Nat} {io : List Nat} {ma mb : ME} {va vb : VE}
theorem signs_ok {h : IH} {F : Nat → Prop} (z : Str) : RFs h F (signsU z) (signsD z) := by
  unfold signsU signsD
  generalize z.cps.toList = cs
  induction cs with
  | nil => exact .nil
  | cons c cs ih => exact .cons (.str _) ih
theorem range_ok {h : IH} {F : Nat → Prop} (lo : Int) (n : Nat) : RFs h F (rangeU lo n) (rangeD lo n) := by
  unfold rangeU rangeD
  generalize List.range n = cs
  induction cs with
  | nil => exact .nil
  | cons c cs ih => exact .cons (.int _) ih
theorem enum_ok {h : IH} {F : Nat → Prop} : ∀ (i : Nat) {us : List U} {ds : List D}, RFs h F us ds → RFs h F (enumU i us) (enumD i ds)
  | _, _, _, .nil => .nil
  | i, _, _, .cons a b => .cons (.tup (.cons (.int _) (.cons a .nil))) (enum_ok (i + 1) b)
theorem si_val (ha : SE dp io .fz ma va) : SI dp io (mIt ma) (vIt va) := fun F S h ve env gd =>
  (ha F S h ve env gd).bind fun x d F1 S1 h1 ve1 Sr e1 t1 r1 => by
    obtain ⟨r1, rfl⟩ := r1
    cases r1 with
    | tup q => exact PoE.val (Sr := []) e1.gd .nil q
    | fl q => exact PoE.val (Sr := []) e1.gd .nil q
    | str z => exact PoE.val (Sr := []) e1.gd .nil (signs_ok z)
    | ref f hn q =>
      rename_i n us ds
      simp only [srcD, lstAt_of hn]
      refine PoE.val (R := RI) (Sr := []) e1.gd .nil fun h' hk => ⟨ds, ?_, q⟩
      exact lstAt_of ((hk n f).trans hn)
    | _ => trivial
theorem si_enum (ha : SE dp io .fz ma va) : SI dp io (mEn ma) (vEn va) := fun F S h ve env gd =>
  (ha F S h ve env gd).bind fun x d F1 S1 h1 ve1 Sr e1 t1 r1 => by
    obtain ⟨r1, rfl⟩ := r1
    cases r1 with
    | tup q => exact PoE.val (Sr := []) e1.gd .nil (enum_ok 0 q)
    | fl q => exact PoE.val (Sr := []) e1.gd .nil (enum_ok 0 q)
    | str z => exact PoE.val (Sr := []) e1.gd .nil (enum_ok 0 (signs_ok z))
    | ref f hn q =>
      rename_i n us ds
      simp only [enSrc, lstAt_of hn]
      refine PoE.val (R := RI) (Sr := []) e1.gd .nil fun h' hk => ⟨enumD 0 ds, ?_, enum_ok 0 q⟩
      simp only [lstAt_of ((hk n f).trans hn), Option.map_some]
    | _ => trivial
theorem si_range1 (ha : SE dp io .bor ma va) : SI dp io (mRng1 ma) (vRng1 va) := fun F S h ve env gd =>
  (ha F S h ve env gd).bind fun x d F1 S1 h1 ve1 Sr e1 t1 r1 => by
    obtain ⟨r1, rfl⟩ := r1
    cases r1 with
    | int i => exact PoE.val (R := RI) (Sr := []) e1.gd .nil (range_ok 0 _)
    | _ => trivial
theorem si_range2 (ha : SE dp io .bor ma va) (hb : SE dp io .bor mb vb) : SI dp io (mRng2 ma mb) (vRng2 va vb) := fun F S h ve env gd =>
  PoE.two (f := fun x y e2 => match x, y with
    | .int i, .int j => .val (rangeU i (j - i).toNat) e2
    | _, _ => .stk) (g := fun x y h2 => match x, y with
    | .int i, .int j => Res.val (Src.st (rangeD i (j - i).toNat)) h2
    | _, _ => .stk) ha hb gd fun x y a b F1 S1 h1 ve1 Sr Tr e1 t1 t2 _ r1 r2 => by
      obtain ⟨r1, rfl⟩ := r1
      obtain ⟨r2, rfl⟩ := r2
      cases r1 with
      | int i => cases r2 with
        | int j => exact PoE.val (R := RI) (Sr := []) e1.gd .nil (range_ok i _)
        | _ => trivial
      | _ => trivial
end
end VV
set_option Elab.async false
set_option linter.all false
set_option maxRecDepth 100000
namespace VV
open PySem L2 DD
/-! ### statements -/
abbrev dpOf (l : List Nat) : Nat → Nat := fun i => l.getD i 0
/-- ps: how deep the function's first parameters are owned (they are changed for the caller); b0: what stood when it began -/
structure SP (ps : List Nat) (b0 : Nat) (dp : Nat → Nat) (F : Nat → Prop) (S : Nat → List Nat) (h : IH) (env : En) (F' : Nat → Prop) (S' : Nat → List Nat) (h' : IH) (ve' : UE) (env' : En) : Prop where
  gd : Gd dp F' S' h' ve' env'
  lw : ∀ i, ps.length ≤ i → ∀ n ∈ S' i, b0 ≤ n
  ff : ∀ n, F n → F' n
  fn : ∀ n, F' n → F n ∨ h.length ≤ n ∨ ∃ i, n ∈ S i
  hl : h.length ≤ h'.length
  fr : ∀ n, n < h.length → (∀ i, n ∉ S i) → h'[n]? = h[n]?
  sn : ∀ i n, n ∈ S' i → h.length ≤ n ∨ (i < ps.length ∧ n ∈ S i) ∨ ∃ j, ps.length ≤ j ∧ n ∈ S j
  ro : ∀ i, i < ps.length → env'[i]? = env[i]?
/-- the ends: dp of going on, dl of break and continue; return and raise leave what is owned by the first parameters alone -/
def PoS (ps : List Nat) (b0 : Nat) (rm : Md) (dl dp : Nat → Nat) (F : Nat → Prop) (S : Nat → List Nat) (h : IH) (env : En) : UO → Out → Prop
  | .nx ve', o => ∃ env' h' F' S', o = .nx env' h' ∧ SP ps b0 dp F S h env F' S' h' ve' env'
  | .bk ve', o => ∃ env' h' F' S', o = .bk env' h' ∧ SP ps b0 dl F S h env F' S' h' ve' env'
  | .ct ve', o => ∃ env' h' F' S', o = .ct env' h' ∧ SP ps b0 dl F S h env F' S' h' ve' env'
  | .rt u ve', o => ∃ d env' h' F' S' Sr, o = .rt d h' ∧ SP ps b0 (dpOf ps) F S h env F' S' h' ve' env' ∧ Tm F' S' b0 h' Sr ∧ RM [] F' S' h' Sr u d rm
  | .exc x ve', o => ∃ y env' h' F' S', o = .exc y env' h' ∧ SP ps b0 (dpOf ps) F S h env F' S' h' ve' env' ∧ RX h' F' x y
  | .stk, _ => True
def SS (ps : List Nat) (rm : Md) (dl dp dp' : Nat → Nat) (m : MS) (v : VS) : Prop := ∀ b0 F S h ve env, Gd dp F S h ve env → (∀ i, ps.length ≤ i → ∀ n ∈ S i, b0 ≤ n) → b0 ≤ h.length → PoS ps b0 rm dl dp' F S h env (v ve) (m env h)
/-- dp keeps the first parameters -/
def Pd (ps : List Nat) (dp : Nat → Nat) : Prop := ∀ i, dpOf ps i = dp i ∨ dpOf ps i = 0
theorem pd_of {ps l : List Nat} (h : (ps.zipIdx.all fun p => decide (l.getD p.2 0 = p.1)) = true) : Pd ps (dpOf l) := fun i => by
  by_cases hi : i < ps.length
  · rw [List.all_eq_true] at h
    have := h (ps[i], i) (by rw [List.mk_mem_zipIdx_iff_getElem?]; exact List.getElem?_eq_getElem hi)
    simp only [decide_eq_true_eq] at this
    left
    unfold dpOf
    rw [this, List.getD_eq_getElem?_getD, List.getElem?_eq_getElem hi]
    rfl
  · right
    unfold dpOf
    rw [List.getD_eq_getElem?_getD, List.getElem?_eq_none (by omega)]
    rfl
section
variable {ps : List Nat} {b0 : Nat} {rm : Md} {dl dp dp' dp2 : Nat → Nat} {F F' F2 : Nat → Prop} {S S' S2 : Nat → List Nat} {h h' h2 : IH} {ve ve' ve2 : UE} {env env' env2 : En} {io : List Nat}
/-- what is owned is frozen -/
theorem Gd.weak (g : Gd dp F S h ve env) (hw : ∀ i, dp2 i = dp i ∨ dp2 i = 0) : Gd dp2 (fun n => F n ∨ ∃ i, dp2 i = 0 ∧ n ∈ S i) (fun i => if dp2 i = 0 then [] else S i) h ve env := by
  refine ⟨g.len, fun i u e => ?_, fun i => ?_, fun i j n hi hj => ?_, fun i n hi hf => ?_, fun i n hi => ?_, fun n hf => ?_⟩
  · obtain ⟨d, e1, r⟩ := g.get i u e
    refine ⟨d, e1, ?_⟩
    split
    · rename_i z
      rw [z]
      exact .fz (r.frz (fun n x => .inl x) fun n x => .inr ⟨i, z, x⟩)
    · rename_i z
      rcases hw i with w | w
      · rw [w]
        exact r.mono (fun n x => .inl x) (fun _ _ => rfl) fun _ _ => rfl
      · exact absurd w z
  · split
    · exact List.nodup_nil
    · exact g.nd i
  · split at hi
    · cases hi
    · split at hj
      · cases hj
      · exact g.dj i j n hi hj
  · split at hi
    · cases hi
    · rename_i z
      rcases hf with hf | ⟨j, z2, hj⟩
      · exact g.nf i n hi hf
      · rw [g.dj i j n hi hj] at z
        exact z z2
  · split at hi
    · cases hi
    · exact g.bd i n hi
  · rcases hf with hf | ⟨j, _, hj⟩
    · exact g.fb n hf
    · exact g.bd j n hj
theorem SP.weak (p : SP ps b0 dp F S h env F' S' h' ve' env') (hw : ∀ i, dp2 i = dp i ∨ dp2 i = 0) : SP ps b0 dp2 F S h env (fun n => F' n ∨ ∃ i, dp2 i = 0 ∧ n ∈ S' i) (fun i => if dp2 i = 0 then [] else S' i) h' ve' env' := by
  refine ⟨p.gd.weak hw, fun i hi n hn => ?_, fun n x => .inl (p.ff n x), fun n x => ?_, p.hl, p.fr, fun i n hn => ?_, p.ro⟩
  · split at hn
    · cases hn
    · exact p.lw i hi n hn
  · rcases x with x | ⟨i, _, hi⟩
    · exact p.fn n x
    · rcases p.sn i n hi with q | ⟨_, q⟩ | ⟨j, _, q⟩
      · exact .inr (.inl q)
      · exact .inr (.inr ⟨i, q⟩)
      · exact .inr (.inr ⟨j, q⟩)
  · split at hn
    · cases hn
    · exact p.sn i n hn
theorem SP.trans (a : SP ps b0 dp F S h env F' S' h' ve' env') (b : SP ps b0 dp' F' S' h' env' F2 S2 h2 ve2 env2) : SP ps b0 dp' F S h env F2 S2 h2 ve2 env2 := by
  refine ⟨b.gd, b.lw, fun n x => b.ff n (a.ff n x), fun n x => ?_, Nat.le_trans a.hl b.hl, fun n hn hs => ?_, fun i n x => ?_, fun i hi => (b.ro i hi).trans (a.ro i hi)⟩
  · rcases b.fn n x with y | y | ⟨i, y⟩
    · exact a.fn n y
    · exact .inr (.inl (Nat.le_trans a.hl y))
    · rcases a.sn i n y with q | ⟨_, q⟩ | ⟨j, _, q⟩
      · exact .inr (.inl q)
      · exact .inr (.inr ⟨i, q⟩)
      · exact .inr (.inr ⟨j, q⟩)
  · rw [b.fr n (Nat.lt_of_lt_of_le hn a.hl) fun i z => ?_, a.fr n hn hs]
    rcases a.sn i n z with y | ⟨_, y⟩ | ⟨j, _, y⟩
    · omega
    · exact hs i y
    · exact hs j y
  · rcases b.sn i n x with y | ⟨z, y⟩ | ⟨j, z, y⟩
    · exact .inl (Nat.le_trans a.hl y)
    · exact a.sn i n y
    · rcases a.sn j n y with q | ⟨w, q⟩ | q
      · exact .inl q
      · omega
      · exact .inr (.inr q)
/-- an expression's end as a statement's -/
theorem EP.sp (a : EP dp io F S h ve env F' S' h' ve') (lw : ∀ i, ps.length ≤ i → ∀ n ∈ S i, b0 ≤ n) (hb : b0 ≤ h.length) : SP ps b0 dp F S h env F' S' h' ve' env := by
  refine ⟨a.gd, fun i hi n hn => ?_, a.ff, fun n x => (a.fn n x).imp id fun z => z.imp id fun ⟨i, _, y⟩ => ⟨i, y⟩, a.hl, fun n hn hs => a.fr n hn fun i _ => hs i, fun i n x => ?_, fun _ _ => rfl⟩
  · rcases a.sn i n hn with x | x
    · exact lw i hi n x
    · omega
  · rcases a.sn i n x with y | y
    · rcases Nat.lt_or_ge i ps.length with z | z
      · exact .inr (.inl ⟨z, y⟩)
      · exact .inr (.inr ⟨i, z, y⟩)
    · exact .inl y
theorem SP.low (a : SP ps b0 dp F S h env F' S' h' ve' env') (hb : b0 ≤ h.length) : b0 ≤ h'.length := Nat.le_trans hb a.hl
theorem RX.grow {x : XU} {y : XD} (hf : ∀ n, F n → F' n) (r : RX h F x y) : RX h F' x y := r.mono hf fun _ _ => rfl
theorem PoS.trans (a : SP ps b0 dp F S h env F' S' h' ve' env') {o : UO} {r : Out} (p : PoS ps b0 rm dl dp' F' S' h' env' o r) : PoS ps b0 rm dl dp' F S h env o r := by
  cases o with
  | nx e =>
    obtain ⟨e2, h2, F2, S2, z, q⟩ := p
    exact ⟨e2, h2, F2, S2, z, a.trans q⟩
  | bk e =>
    obtain ⟨e2, h2, F2, S2, z, q⟩ := p
    exact ⟨e2, h2, F2, S2, z, a.trans q⟩
  | ct e =>
    obtain ⟨e2, h2, F2, S2, z, q⟩ := p
    exact ⟨e2, h2, F2, S2, z, a.trans q⟩
  | rt u e =>
    obtain ⟨d, e2, h2, F2, S2, Sr, z, q, t, r⟩ := p
    exact ⟨d, e2, h2, F2, S2, Sr, z, a.trans q, t, r⟩
  | exc u e =>
    obtain ⟨d, e2, h2, F2, S2, z, q, r⟩ := p
    exact ⟨d, e2, h2, F2, S2, z, a.trans q, r⟩
  | stk => trivial
/-- an expression, then a statement -/
theorem PoE.bindS {α β : Type} {R : (Nat → Prop) → (Nat → List Nat) → IH → List Nat → α → β → Prop} {r : ER α} {m : Res β} {f : α → UE → UO} {g : β → IH → Out} {lo : Nat} (pd : Pd ps dp) (lw : ∀ i, ps.length ≤ i → ∀ n ∈ S i, b0 ≤ n) (hb : b0 ≤ h.length) (p : PoE lo dp io F S h ve env R r m)
    (q : ∀ a b F' S' h' ve' Sr, EP dp io F S h ve env F' S' h' ve' → Tm F' S' lo h' Sr → R F' S' h' Sr a b → (∀ i, ps.length ≤ i → ∀ n ∈ S' i, b0 ≤ n) → b0 ≤ h'.length → PoS ps b0 rm dl dp' F' S' h' env (f a ve') (g b h')) :
    PoS ps b0 rm dl dp' F S h env (r.bindS f) (m.bindS env g) := by
  cases r with
  | val a ve1 =>
    obtain ⟨b, h1, F1, S1, Sr, rfl, e1, t1, r1⟩ := p
    have s1 := e1.sp lw hb
    exact PoS.trans s1 (q a b F1 S1 h1 ve1 Sr e1 t1 r1 s1.lw (s1.low hb))
  | exc x ve1 =>
    obtain ⟨y, h1, F1, S1, rfl, e1, rx⟩ := p
    exact ⟨y, env, h1, _, _, rfl, (e1.sp lw hb).weak pd, rx.grow fun n x => .inl x⟩
  | stk => trivial
/-- .. told from the beginning -/
theorem PoE.bindS0 {α β : Type} {R : (Nat → Prop) → (Nat → List Nat) → IH → List Nat → α → β → Prop} {r : ER α} {m : Res β} {f : α → UE → UO} {g : β → IH → Out} {lo : Nat} (pd : Pd ps dp) (lw : ∀ i, ps.length ≤ i → ∀ n ∈ S i, b0 ≤ n) (hb : b0 ≤ h.length) (p : PoE lo dp io F S h ve env R r m)
    (q : ∀ a b F' S' h' ve' Sr, EP dp io F S h ve env F' S' h' ve' → Tm F' S' lo h' Sr → R F' S' h' Sr a b → SP ps b0 dp F S h env F' S' h' ve' env → PoS ps b0 rm dl dp' F S h env (f a ve') (g b h')) :
    PoS ps b0 rm dl dp' F S h env (r.bindS f) (m.bindS env g) := by
  cases r with
  | val a ve1 =>
    obtain ⟨b, h1, F1, S1, Sr, rfl, e1, t1, r1⟩ := p
    exact q a b F1 S1 h1 ve1 Sr e1 t1 r1 (e1.sp lw hb)
  | exc x ve1 =>
    obtain ⟨y, h1, F1, S1, rfl, e1, rx⟩ := p
    exact ⟨y, env, h1, _, _, rfl, (e1.sp lw hb).weak pd, rx.grow fun n x => .inl x⟩
  | stk => trivial
/-- a slot gets what an expression made -/
theorem SP.set (s : SP ps b0 dp F S h env F' S' h' ve' env') (i : Nat) (hi : ps.length ≤ i) {u : U} {d : D} {Sr : List Nat} (t : Tm F' S' h.length h' Sr) (hb : b0 ≤ h.length) (r : RV h' F' (dp i) Sr u d) : SP ps b0 dp F S h env F' (fun j => if j = i then Sr else S' j) h' (ve'.set i (some u)) (env'.set i (some d)) := by
  refine ⟨s.gd.set i t r, fun j hj n hn => ?_, s.ff, s.fn, s.hl, s.fr, fun j n hn => ?_, fun j hj => ?_⟩
  · split at hn
    · exact Nat.le_trans hb (t.lo n hn)
    · exact s.lw j hj n hn
  · split at hn
    · exact .inl (t.lo n hn)
    · exact s.sn j n hn
  · rw [List.getElem?_set_ne (by omega)]
    exact s.ro j hj
end
/-! rules -/
def vSkip : VS := fun e => .nx e
def vSeq (a b : VS) : VS := fun e => (a e).then b
def vAsg (v : VE) (i : Nat) : VS := fun e => (v e).bindS fun u e1 => .nx (e1.set i (some u))
def toUO : Option UE → UO
  | some e => .nx e
  | none => .stk
def vAsgT (v : VE) (t : VTg) : VS := fun e => (v e).bindS fun u e1 => toUO (t u e1)
def vExpr (v : VE) : VS := fun e => (v e).bindS fun _ e1 => .nx e1
def vRet (v : VE) : VS := fun e => (v e).bindS fun u e1 => .rt u e1
def vRetN : VS := fun e => .rt .non e
def vRetT (i : Nat) : VS := fun e => match e[i]? with
  | some (some u) => .rt u (e.set i none)
  | _ => .stk
def vIfS (c : VT) (a b : VS) : VS := fun e => (c e).bindS fun k e1 => if k then a e1 else b e1
def vBrk : VS := fun e => .bk e
def vCnt : VS := fun e => .ct e
def vNever : VS := fun _ => .stk
def vAug (i : Nat) (f : U → U → Option U) (v : VE) : VS := fun e => (vBin f (vVar i) v e).bindS fun u e1 => .nx (e1.set i (some u))
def vWhile : Nat → VT → VS → VS
  | 0, _, _ => fun _ => .stk
  | n + 1, c, b => fun e => (c e).bindS fun t e1 => if t then (match b e1 with
    | .nx e2 => vWhile n c b e2
    | .ct e2 => vWhile n c b e2
    | .bk e2 => .nx e2
    | .rt d e2 => .rt d e2
    | .exc x e2 => .exc x e2
    | .stk => .stk) else .nx e1
def forV (t : VTg) (b : VS) : List U → VS
  | [] => fun e => .nx e
  | u :: us => fun e => match t u e with
    | none => .stk
    | some e1 => match b e1 with
      | .nx e2 => forV t b us e2
      | .ct e2 => forV t b us e2
      | .bk e2 => .nx e2
      | .rt d e2 => .rt d e2
      | .exc x e2 => .exc x e2
      | .stk => .stk
def vFor (it : VI) (t : VTg) (b : VS) : VS := fun e => (it e).bindS fun us e1 => forV t b us e1
section
variable {ps : List Nat} {rm : Md} {dl dp dp' dp2 : Nat → Nat} {io : List Nat} {ma : ME} {va : VE} {m1 m2 : MS} {v1 v2 : VS} {tc : MT} {wc : VT}
theorem Gd.sp {b0 : Nat} {F : Nat → Prop} {S : Nat → List Nat} {h : IH} {ve : UE} {env : En} (g : Gd dp F S h ve env) (lw : ∀ i, ps.length ≤ i → ∀ n ∈ S i, b0 ≤ n) (hb : b0 ≤ h.length) : SP ps b0 dp F S h env F S h ve env := (EP.refl (io := []) g).sp lw hb
theorem ss_skip : SS ps rm dl dp dp sNil vSkip := fun b0 F S h ve env g lw hb => ⟨env, h, F, S, rfl, g.sp lw hb⟩
theorem ss_never : SS ps rm dl dp dp' (fun _ _ => .stk) vNever := fun b0 F S h ve env g lw hb => trivial
theorem ss_neverM (m : MS) : SS ps rm dl dp dp' m vNever := fun b0 F S h ve env g lw hb => trivial
theorem ss_seq (h1 : SS ps rm dl dp dp' m1 v1) (h2 : SS ps rm dl dp' dp2 m2 v2) : SS ps rm dl dp dp2 (sSeq m1 m2) (vSeq v1 v2) := fun b0 F S h ve env g lw hb => by
  have z := h1 b0 F S h ve env g lw hb
  unfold vSeq sSeq
  revert z
  cases v1 ve with
  | nx e =>
    rintro ⟨e1, h3, F1, S1, z, q⟩
    rw [z]
    exact PoS.trans q (h2 b0 F1 S1 h3 e e1 q.gd q.lw (q.low hb))
  | bk e =>
    rintro ⟨e1, h3, F1, S1, z, q⟩
    rw [z]
    exact ⟨e1, h3, F1, S1, rfl, q⟩
  | ct e =>
    rintro ⟨e1, h3, F1, S1, z, q⟩
    rw [z]
    exact ⟨e1, h3, F1, S1, rfl, q⟩
  | rt u e =>
    rintro ⟨d, e1, h3, F1, S1, Sr, z, q⟩
    rw [z]
    exact ⟨d, e1, h3, F1, S1, Sr, rfl, q⟩
  | exc u e =>
    rintro ⟨d, e1, h3, F1, S1, z, q⟩
    rw [z]
    exact ⟨d, e1, h3, F1, S1, rfl, q⟩
  | stk => exact fun _ => trivial
/-- lists are frozen ahead of a statement, behind it -/
theorem SS.pre (hw : ∀ i, dp2 i = dp i ∨ dp2 i = 0) (h1 : SS ps rm dl dp2 dp' m1 v1) : SS ps rm dl dp dp' m1 v1 := fun b0 F S h ve env g lw hb =>
  have s := (g.sp lw hb).weak hw
  PoS.trans s (h1 b0 _ _ h ve env s.gd s.lw hb)
theorem SS.post (hw : ∀ i, dp2 i = dp' i ∨ dp2 i = 0) (h1 : SS ps rm dl dp dp' m1 v1) : SS ps rm dl dp dp2 m1 v1 := fun b0 F S h ve env g lw hb => by
  have z := h1 b0 F S h ve env g lw hb
  revert z
  cases v1 ve with
  | nx e =>
    rintro ⟨e1, h3, F1, S1, z, q⟩
    exact ⟨e1, h3, _, _, z, q.weak hw⟩
  | bk e => exact fun z => z
  | ct e => exact fun z => z
  | rt u e => exact fun z => z
  | exc u e => exact fun z => z
  | stk => exact fun z => z
theorem wk_of {a b : List Nat} (h : (a.zipIdx.all fun p => decide (p.1 = 0) || decide (b.getD p.2 0 = p.1)) = true) : ∀ i, dpOf a i = dpOf b i ∨ dpOf a i = 0 := fun i => by
  by_cases hi : i < a.length
  · rw [List.all_eq_true] at h
    have := h (a[i], i) (by rw [List.mk_mem_zipIdx_iff_getElem?]; exact List.getElem?_eq_getElem hi)
    simp only [Bool.or_eq_true, decide_eq_true_eq] at this
    have e : dpOf a i = a[i] := by
      unfold dpOf
      rw [List.getD_eq_getElem?_getD, List.getElem?_eq_getElem hi]
      rfl
    rw [e]
    rcases this with z | z
    · exact .inr z
    · exact .inl z.symm
  · right
    unfold dpOf
    rw [List.getD_eq_getElem?_getD, List.getElem?_eq_none (by omega)]
    rfl
theorem ss_expr (pd : Pd ps dp) {md : Md} (ha : SE dp io md ma va) : SS ps rm dl dp dp (sExpr ma) (vExpr va) := fun b0 F S h ve env g lw hb =>
  PoE.bindS pd lw hb (ha F S h ve env g) fun a b F1 S1 h1 ve1 Sr e1 t1 r1 lw1 hb1 => ⟨env, h1, F1, S1, rfl, e1.gd.sp lw1 hb1⟩
theorem ss_ret (pd : Pd ps dp) (ha : SE dp io rm ma va) (hm : rm ≠ .bor) : SS ps rm dl dp dp' (sRet ma) (vRet va) := fun b0 F S h ve env g lw hb =>
  PoE.bindS pd lw hb (ha F S h ve env g) fun a b F1 S1 h1 ve1 Sr e1 t1 r1 lw1 hb1 => by
    have s := (e1.gd.sp lw1 hb1).weak pd
    refine ⟨b, env, h1, _, _, Sr, rfl, s, ⟨t1.nd, fun n hn => Nat.le_trans hb (t1.lo n hn), t1.bd, fun n hn x => ?_, fun n hn i x => ?_⟩, ?_⟩
    · rcases x with x | ⟨i, _, x⟩
      · exact t1.nf n hn x
      · exact t1.ns n hn i x
    · split at x
      · cases x
      · exact t1.ns n hn i x
    · cases rm with
      | fl => exact ⟨r1.1.mono (fun n x => .inl x) fun _ _ => rfl, r1.2⟩
      | fz => exact ⟨r1.1.mono (fun n x => .inl x) fun _ _ => rfl, r1.2⟩
      | bor => exact absurd rfl hm
      | fr k => exact RV.mono (fun n x => .inl x) (fun _ _ => rfl) r1 fun _ _ => rfl
theorem ss_retN (pd : Pd ps dp) (hm : rm ≠ .bor) : SS ps rm dl dp dp' sRetN vRetN := fun b0 F S h ve env g lw hb => by
  have s := (g.sp lw hb).weak pd
  refine ⟨.non, env, h, _, _, [], rfl, s, .nil, ?_⟩
  cases rm with
  | fl => exact ⟨.non, rfl, rfl⟩
  | fz => exact ⟨.non, rfl⟩
  | bor => exact absurd rfl hm
  | fr k => exact RF.rv k .non rfl
/-- an owned list is handed out -/
theorem ss_retT {k : Nat} (i : Nat) (pd : Pd ps dp) (hi : ps.length ≤ i) (hk : dp i = k) : SS ps (.fr k) dl dp dp' (sRet (mVar i)) (vRetT i) := fun b0 F S h ve env g lw hb => by
  unfold vRetT sRet mVar
  cases e : ve[i]? with
  | none => trivial
  | some o =>
    cases o with
    | none => trivial
    | some u =>
      obtain ⟨d, e1, r⟩ := g.get i u e
      rw [e1]
      have s := (g.sp (ps := ps) lw hb)
      have g2 : Gd dp F (fun j => if j = i then [] else S j) h (ve.set i none) env := by
        refine ⟨by rw [List.length_set]; exact g.len, fun j v ej => ?_, fun j => ?_, fun j k n hj hk => ?_, fun j n hj => ?_, fun j n hj => ?_, g.fb⟩
        · rw [List.getElem?_set] at ej
          split at ej
          · split at ej <;> cases ej
          · rename_i z
            rw [if_neg fun q => z q.symm]
            exact g.get j v ej
        · split
          · exact List.nodup_nil
          · exact g.nd j
        · split at hj
          · cases hj
          · split at hk
            · cases hk
            · exact g.dj j k n hj hk
        · split at hj
          · cases hj
          · exact g.nf j n hj
        · split at hj
          · cases hj
          · exact g.bd j n hj
      have s2 : SP ps b0 dp F S h env F (fun j => if j = i then [] else S j) h (ve.set i none) env := by
        refine ⟨g2, fun j hj n hn => ?_, fun _ x => x, fun _ x => .inl x, Nat.le_refl _, fun _ _ _ => rfl, fun j n hn => ?_, fun _ _ => rfl⟩
        · split at hn
          · cases hn
          · exact lw j hj n hn
        · split at hn
          · cases hn
          · rcases Nat.lt_or_ge j ps.length with z | z
            · exact .inr (.inl ⟨z, hn⟩)
            · exact .inr (.inr ⟨j, z, hn⟩)
      refine ⟨d, env, h, _, _, S i, rfl, s2.weak pd, ⟨g.nd i, lw i hi, g.bd i, fun n hn x => ?_, fun n hn j x => ?_⟩, ?_⟩
      · rcases x with x | ⟨j, _, x⟩
        · exact g.nf i n hn x
        · split at x
          · cases x
          · rename_i z
            exact z (g.dj j i n x hn)
      · split at x
        · cases x
        · split at x
          · cases x
          · rename_i z
            exact z (g.dj j i n x hn)
      · show RV h _ k (S i) u d
        rw [← hk]
        exact r.mono (fun n x => .inl x) (fun _ _ => rfl) fun _ _ => rfl
theorem ss_asg (pd : Pd ps dp) (i : Nat) (ha : SE dp io (.fr (dp i)) ma va) (hi : ps.length ≤ i) : SS ps rm dl dp dp (sAsg ma (gN i)) (vAsg va i) := fun b0 F S h ve env g lw hb =>
  PoE.bindS0 pd lw hb (ha F S h ve env g) fun a b F1 S1 h1 ve1 Sr e1 t1 r1 s1 => ⟨env.set i (some b), h1, F1, _, rfl, s1.set i hi t1 hb r1⟩
theorem GP.sp {ts : List Nat} {b0 : Nat} {F F' : Nat → Prop} {S S' S2 : Nat → List Nat} {h h' : IH} {ve' ve2 : UE} {env env' env2 : En} (s : SP ps b0 dp F S h env F' S' h' ve' env') (p : GP dp ts F' S' h' ve' env' S2 ve2 env2) (hts : ∀ i ∈ ts, ps.length ≤ i) : SP ps b0 dp F S h env F' S2 h' ve2 env2 := by
  refine ⟨p.gd, fun j hj n hn => ?_, s.ff, s.fn, s.hl, s.fr, fun j n hn => ?_, fun j hj => ?_⟩
  · rcases p.so j with z | z
    · rw [z] at hn
      exact s.lw j hj n hn
    · rw [z] at hn
      cases hn
  · rcases p.so j with z | z
    · rw [z] at hn
      exact s.sn j n hn
    · rw [z] at hn
      cases hn
  · rw [(p.st j fun z => absurd (hts j z) (by omega)).2.1]
    exact s.ro j hj
theorem ss_asgT {ts : List Nat} {gt : MTg} {t : VTg} (pd : Pd ps dp) (ha : SE dp io .fz ma va) (ht : SG dp ts gt t) (hts : ∀ i ∈ ts, ps.length ≤ i) : SS ps rm dl dp dp (sAsg ma gt) (vAsgT va t) := fun b0 F S h ve env g lw hb =>
  PoE.bindS0 pd lw hb (ha F S h ve env g) fun a b F1 S1 h1 ve1 Sr e1 t1 r1 s1 => by
    have z := ht F1 S1 h1 ve1 env a b e1.gd r1.1
    revert z
    cases t a ve1 with
    | none => exact fun _ => trivial
    | some ve2 =>
      rintro ⟨env2, S2, z, p⟩
      rw [z]
      exact ⟨env2, h1, F1, S2, rfl, p.sp s1 hts⟩
theorem ss_if (pd : Pd ps dp) (hc : SB dp io tc wc) (h1 : SS ps rm dl dp dp' m1 v1) (h2 : SS ps rm dl dp dp' m2 v2) : SS ps rm dl dp dp' (sIf tc m1 m2) (vIfS wc v1 v2) := fun b0 F S h ve env g lw hb =>
  PoE.bindS pd lw hb (hc F S h ve env g) fun a b F1 S1 h3 ve1 Sr e1 t1 r1 lw1 hb1 => by
    subst r1
    cases a with
    | true => exact h1 b0 F1 S1 h3 ve1 env e1.gd lw1 hb1
    | false => exact h2 b0 F1 S1 h3 ve1 env e1.gd lw1 hb1
theorem ss_brk : SS ps rm dl dl dp' sBrk vBrk := fun b0 F S h ve env g lw hb => ⟨env, h, F, S, rfl, g.sp lw hb⟩
theorem ss_cnt : SS ps rm dl dl dp' sCnt vCnt := fun b0 F S h ve env g lw hb => ⟨env, h, F, S, rfl, g.sp lw hb⟩
theorem ss_aug (pd : Pd ps dp) (i : Nat) {f : D → D → IH → Res D} {gf : U → U → Option U} (od : Od2 f gf) (fl : Fl2 gf) (h0 : dp i = 0) (ha : SE dp io .bor ma va) (hi : ps.length ≤ i) : SS ps rm dl dp dp (sAug i f ma) (vAug i gf va) := fun b0 F S h ve env g lw hb =>
  PoE.bindS0 pd lw hb ((se_binL od fl (se_var i h0).fz_bor ha) F S h ve env g) fun a b F1 S1 h1 ve1 Sr e1 t1 r1 s1 => by
    obtain ⟨r1, r2, rfl⟩ := r1
    refine ⟨env.set i (some b), h1, F1, _, rfl, s1.set i hi t1 hb ?_⟩
    rw [h0]
    exact .fz r1
/-- the value may be a tuple, a list -/
theorem ss_augF (pd : Pd ps dp) (i : Nat) {f : D → D → IH → Res D} {gf : U → U → Option U} (od : Od2 f gf) (h0 : dp i = 0) (ha : SE dp io .fz ma va) (hi : ps.length ≤ i) : SS ps rm dl dp dp (sAug i f ma) (vAug i gf va) := fun b0 F S h ve env g lw hb =>
  PoE.bindS0 pd lw hb ((se_bin od (se_var i h0) ha) F S h ve env g) fun a b F1 S1 h1 ve1 Sr e1 t1 r1 s1 => by
    obtain ⟨r1, rfl⟩ := r1
    refine ⟨env.set i (some b), h1, F1, _, rfl, s1.set i hi t1 hb ?_⟩
    rw [h0]
    exact .fz r1
theorem ss_while (n : Nat) (pd : Pd ps dp) (hc : SB dp io tc wc) (h1 : SS ps rm dp dp dp m1 v1) : SS ps rm dl dp dp (whileM n tc m1) (vWhile n wc v1) := by
  induction n with
  | zero => exact fun b0 F S h ve env g lw hb => trivial
  | succ n ih =>
    refine fun b0 F S h ve env g lw hb => PoE.bindS pd lw hb (hc F S h ve env g) fun a b F1 S1 h3 ve1 Sr e1 t1 r1 lw1 hb1 => ?_
    subst r1
    cases a with
    | false => exact ⟨env, h3, F1, S1, rfl, e1.gd.sp lw1 hb1⟩
    | true =>
      have z := h1 b0 F1 S1 h3 ve1 env e1.gd lw1 hb1
      simp only [if_true]
      revert z
      cases v1 ve1 with
      | nx e =>
        rintro ⟨e2, h4, F2, S2, z, q⟩
        rw [z]
        exact PoS.trans q (ih b0 F2 S2 h4 e e2 q.gd q.lw (q.low hb1))
      | ct e =>
        rintro ⟨e2, h4, F2, S2, z, q⟩
        rw [z]
        exact PoS.trans q (ih b0 F2 S2 h4 e e2 q.gd q.lw (q.low hb1))
      | bk e =>
        rintro ⟨e2, h4, F2, S2, z, q⟩
        rw [z]
        exact ⟨e2, h4, F2, S2, rfl, q⟩
      | rt u e =>
        rintro ⟨d, e2, h4, F2, S2, Sr, z, q⟩
        rw [z]
        exact ⟨d, e2, h4, F2, S2, Sr, rfl, q⟩
      | exc u e =>
        rintro ⟨d, e2, h4, F2, S2, z, q⟩
        rw [z]
        exact ⟨d, e2, h4, F2, S2, rfl, q⟩
      | stk => exact fun _ => trivial
/-- one turn of a for -/
theorem for_turn {ts : List Nat} {gt : MTg} {t : VTg} {b0 : Nat} {F : Nat → Prop} {S : Nat → List Nat} {h : IH} {ve : UE} {env : En} {u : U} {d : D} {k : UE → UO} {km : En → IH → Out} (ht : SG dp ts gt t) (hts : ∀ i ∈ ts, ps.length ≤ i) (h1 : SS ps rm dp dp dp m1 v1) (g : Gd dp F S h ve env) (lw : ∀ i, ps.length ≤ i → ∀ n ∈ S i, b0 ≤ n) (hb : b0 ≤ h.length) (r : RF h F u d)
    (q : ∀ F' S' h' ve' env', SP ps b0 dp F S h env F' S' h' ve' env' → PoS ps b0 rm dl dp F' S' h' env' (k ve') (km env' h')) :
    PoS ps b0 rm dl dp F S h env (match t u ve with
      | none => .stk
      | some e1 => match v1 e1 with
        | .nx e2 => k e2
        | .ct e2 => k e2
        | .bk e2 => .nx e2
        | .rt d e2 => .rt d e2
        | .exc x e2 => .exc x e2
        | .stk => .stk) (match gt d env h with
      | none => .stk
      | some (e, h1) => match m1 e h1 with
        | .nx e h2 => km e h2
        | .ct e h2 => km e h2
        | .bk e h2 => .nx e h2
        | .rt d h2 => .rt d h2
        | .exc x e h2 => .exc x e h2
        | .stk => .stk) := by
  have z := ht F S h ve env u d g r
  revert z
  cases t u ve with
  | none => exact fun _ => trivial
  | some ve1 =>
    rintro ⟨env1, S1, z, p⟩
    rw [z]
    have s1 := p.sp (g.sp lw hb) hts
    have z := h1 b0 F S1 h ve1 env1 s1.gd s1.lw hb
    dsimp only
    revert z
    cases v1 ve1 with
    | nx e =>
      rintro ⟨e2, h4, F2, S2, z, q2⟩
      rw [z]
      exact PoS.trans (s1.trans q2) (q F2 S2 h4 e e2 (s1.trans q2))
    | ct e =>
      rintro ⟨e2, h4, F2, S2, z, q2⟩
      rw [z]
      exact PoS.trans (s1.trans q2) (q F2 S2 h4 e e2 (s1.trans q2))
    | bk e =>
      rintro ⟨e2, h4, F2, S2, z, q⟩
      rw [z]
      exact ⟨e2, h4, F2, S2, rfl, s1.trans q⟩
    | rt u e =>
      rintro ⟨d, e2, h4, F2, S2, Sr, z, q⟩
      rw [z]
      exact ⟨d, e2, h4, F2, S2, Sr, rfl, s1.trans q.1, q.2⟩
    | exc u e =>
      rintro ⟨d, e2, h4, F2, S2, z, q⟩
      rw [z]
      exact ⟨d, e2, h4, F2, S2, rfl, s1.trans q.1, q.2⟩
    | stk => exact fun _ => trivial
theorem SP.fz {b0 : Nat} {F F' : Nat → Prop} {S S' : Nat → List Nat} {h h' : IH} {ve ve' : UE} {env env' : En} (g : Gd dp F S h ve env) (s : SP ps b0 dp' F S h env F' S' h' ve' env') : ∀ n, F n → h'[n]? = h[n]? := fun n x => s.fr n (g.fb n x) fun i z => g.nf i n z x
theorem forS_ok {ts : List Nat} {gt : MTg} {t : VTg} (ht : SG dp ts gt t) (hts : ∀ i ∈ ts, ps.length ≤ i) (h1 : SS ps rm dp dp dp m1 v1) : ∀ {us : List U} {ds : List D} {b0 : Nat} {F : Nat → Prop} {S : Nat → List Nat} {h : IH} {ve : UE} {env : En}, Gd dp F S h ve env → (∀ i, ps.length ≤ i → ∀ n ∈ S i, b0 ≤ n) → b0 ≤ h.length → RFs h F us ds →
    PoS ps b0 rm dl dp F S h env (forV t v1 us ve) (forS gt m1 ds env h)
  | _, _, b0, F, S, h, ve, env, g, lw, hb, .nil => ⟨env, h, F, S, rfl, g.sp lw hb⟩
  | _, _, b0, F, S, h, ve, env, g, lw, hb, .cons a b => for_turn (k := forV t v1 _) (km := forS gt m1 _) ht hts h1 g lw hb a fun F' S' h' ve' env' s =>
      forS_ok ht hts h1 s.gd s.lw (s.low hb) (b.mono s.ff (s.fz g))
theorem forL_ok {ts : List Nat} {gt : MTg} {t : VTg} {get : IH → Option (List D)} (ht : SG dp ts gt t) (hts : ∀ i ∈ ts, ps.length ≤ i) (h1 : SS ps rm dp dp dp m1 v1) : ∀ (n i : Nat) {us : List U} {b0 : Nat} {F : Nat → Prop} {S : Nat → List Nat} {h : IH} {ve : UE} {env : En}, Gd dp F S h ve env → (∀ i, ps.length ≤ i → ∀ n ∈ S i, b0 ≤ n) → b0 ≤ h.length →
    (∀ h' : IH, (∀ n, F n → h'[n]? = h[n]?) → ∃ ds, get h' = some ds ∧ RFs h F us ds) → us.length < n + i → i ≤ us.length → PoS ps b0 rm dl dp F S h env (forV t v1 (us.drop i) ve) (forL get gt m1 n i env h)
  | 0, i, us, b0, F, S, h, ve, env, g, lw, hb, hg, hn, hi => by omega
  | n + 1, i, us, b0, F, S, h, ve, env, g, lw, hb, hg, hn, hi => by
    obtain ⟨ds, e, r⟩ := hg h fun _ _ => rfl
    unfold forL
    rw [e]
    dsimp only
    by_cases hi : i < us.length
    · obtain ⟨d, e1, r1⟩ := r.get (List.getElem?_eq_getElem hi)
      rw [e1, List.drop_eq_getElem_cons hi]
      refine for_turn (k := forV t v1 _) (km := forL get gt m1 n (i + 1)) ht hts h1 g lw hb r1 fun F' S' h' ve' env' s => ?_
      have hf := s.fz g
      refine forL_ok ht hts h1 n (i + 1) s.gd s.lw (s.low hb) (fun h2 hk => ?_) (by omega) (by omega)
      obtain ⟨ds2, e2, r2⟩ := hg h2 fun n x => (hk n (s.ff n x)).trans (hf n x)
      exact ⟨ds2, e2, r2.mono s.ff hf⟩
    · rw [List.drop_eq_nil_of_le (by omega), List.getElem?_eq_none (by rw [← r.length]; omega)]
      exact ⟨env, h, F, S, rfl, g.sp lw hb⟩
theorem ss_for {ts : List Nat} {gt : MTg} {t : VTg} {mi : MI} {vi : VI} (pd : Pd ps dp) (hi : SI dp io mi vi) (ht : SG dp ts gt t) (h1 : SS ps rm dp dp dp m1 v1) (hts : ∀ i ∈ ts, ps.length ≤ i) : SS ps rm dl dp dp (sFor mi gt m1) (vFor vi t v1) := fun b0 F S h ve env g lw hb =>
  PoE.bindS pd lw hb (hi F S h ve env g) fun us s F1 S1 h3 ve1 Sr e1 t1 r1 lw1 hb1 => by
    cases s with
    | st ds => exact forS_ok ht hts h1 e1.gd lw1 hb1 r1
    | lv get =>
      obtain ⟨ds, e, r⟩ := r1 h3 fun _ _ => rfl
      simp only [e]
      have := forL_ok (dl := dl) (us := us) ht hts h1 (ds.length + 1) 0 e1.gd lw1 hb1 r1 (by rw [r.length]; omega) (Nat.zero_le _)
      rw [List.drop_zero] at this
      exact this
end
end VV
set_option Elab.async false
set_option linter.all false
set_option maxRecDepth 100000
namespace VV
open PySem L2 DD
/-! ### several values, each to its own depth -/
section
variable (h : IH) (F : Nat → Prop)
inductive RVl : List Nat → List Nat → List U → List D → Prop
  | nil : RVl [] [] [] []
  | cons {k : Nat} {ks S T : List Nat} {u : U} {d : D} {us : List U} {ds : List D} : RV h F k S u d → RVl ks T us ds → RVl (k :: ks) (S ++ T) (u :: us) (d :: ds)
end
def SL (dp : Nat → Nat) (io : List Nat) (ks : List Nat) (m : MA) (v : VA) : Prop := ∀ F S h ve env, Gd dp F S h ve env → PoE h.length dp io F S h ve env (fun F' S' h' Sr us ds => RVl h' F' ks Sr us ds) (v ve) (m env h)
def setAll : List Nat → List U → UE → UE
  | i :: is, u :: us, e => setAll is us (e.set i (some u))
  | _, _, e => e
def setAllD : List Nat → List D → En → En
  | i :: is, u :: us, e => setAllD is us (e.set i (some u))
  | _, _, e => e
def vParN (is : List Nat) (r : VA) : VS := fun e => (r e).bindS fun us e1 => .nx (setAll is us e1)
section
variable {ps : List Nat} {rm : Md} {dl dp dp' dp2 : Nat → Nat} {io : List Nat} {ma : ME} {va : VE} {mr : MA} {vr : VA} {ks : List Nat}
theorem sl_nil : SL dp io [] mNil vNil := fun F S h ve env g => PoE.val (Sr := []) g .nil .nil
theorem Tm.append {F : Nat → Prop} {S : Nat → List Nat} {h : IH} {lo : Nat} {Sr Tr : List Nat} (a : Tm F S lo h Sr) (b : Tm F S lo h Tr) (hd : ∀ n ∈ Sr, n ∉ Tr) : Tm F S lo h (Sr ++ Tr) := by
  refine ⟨?_, fun n hn => ?_, fun n hn => ?_, fun n hn => ?_, fun n hn => ?_⟩
  · rw [List.nodup_append]
    refine ⟨a.nd, b.nd, fun x hx y hy e => ?_⟩
    subst e
    exact hd x hx hy
  · exact (List.mem_append.mp hn).elim (a.lo n) (b.lo n)
  · exact (List.mem_append.mp hn).elim (a.bd n) (b.bd n)
  · exact (List.mem_append.mp hn).elim (a.nf n) (b.nf n)
  · exact (List.mem_append.mp hn).elim (a.ns n) (b.ns n)
theorem sl_cons {k : Nat} (ha : SE dp io (.fr k) ma va) (hr : SL dp io ks mr vr) : SL dp io (k :: ks) (mCons ma mr) (vCons va vr) := fun F S h ve env gd =>
  (ha F S h ve env gd).bind fun x a F1 S1 h1 ve1 Sr e1 t1 r1 => (hr F1 S1 h1 ve1 env e1.gd).bind fun xs as F2 S2 h2 ve2 Tr e2 t2 r2 =>
    PoE.val (Sr := Sr ++ Tr) e2.gd ((t1.keep e2).append (t2.low e1.hl) fun n h1 h2 => absurd (t1.bd n h1) (Nat.not_lt.mpr (t2.lo n h2))) (.cons (RM.keep (md := .fr k) e1.gd e2 t1 r1) r2)
theorem SP.setAll {b0 : Nat} {F F' : Nat → Prop} {S : Nat → List Nat} {h h' : IH} {env : En} (hb : b0 ≤ h.length) : ∀ {is : List Nat} {us : List U} {ds : List D} {Sr : List Nat} {S' : Nat → List Nat} {ve' : UE} {env' : En}, SP ps b0 dp F S h env F' S' h' ve' env' → Tm F' S' h.length h' Sr → RVl h' F' (is.map dp) Sr us ds → (∀ i ∈ is, ps.length ≤ i) →
    ∃ S2, SP ps b0 dp F S h env F' S2 h' (VV.setAll is us ve') (setAllD is ds env')
  | [], _, _, _, S', _, _, s, _, _, _ => by
    refine ⟨S', ?_⟩
    unfold VV.setAll setAllD
    exact s
  | i :: is, us, ds, Sr, S', ve', env', s, t, r, hi => by
    cases r with
    | cons a b =>
      rename_i A B u d us ds
      have t1 : Tm F' S' h.length h' A := ⟨(List.nodup_append.mp t.nd).1, fun n hn => t.lo n (List.mem_append_left _ hn), fun n hn => t.bd n (List.mem_append_left _ hn), fun n hn => t.nf n (List.mem_append_left _ hn), fun n hn => t.ns n (List.mem_append_left _ hn)⟩
      have s1 := s.set i (hi i List.mem_cons_self) t1 hb a
      have t2 : Tm F' (fun j => if j = i then A else S' j) h.length h' B := ⟨(List.nodup_append.mp t.nd).2.1, fun n hn => t.lo n (List.mem_append_right _ hn), fun n hn => t.bd n (List.mem_append_right _ hn), fun n hn => t.nf n (List.mem_append_right _ hn), fun n hn j x => by
        split at x
        · exact (List.nodup_append.mp t.nd).2.2 n x n hn rfl
        · exact t.ns n (List.mem_append_right _ hn) j x⟩
      show ∃ S2, SP ps b0 dp F S h env F' S2 h' (VV.setAll is us (ve'.set i (some u))) (setAllD is ds (env'.set i (some d)))
      exact SP.setAll hb s1 t2 b fun j hj => hi j (List.mem_cons_of_mem _ hj)
theorem RVl.length {h : IH} {F : Nat → Prop} : ∀ {ks S : List Nat} {us : List U} {ds : List D}, RVl h F ks S us ds → us.length = ks.length ∧ ds.length = ks.length
  | _, _, _, _, .nil => ⟨rfl, rfl⟩
  | _, _, _, _, .cons _ b => by
    obtain ⟨a, c⟩ := b.length
    exact ⟨by rw [List.length_cons, List.length_cons, a], by rw [List.length_cons, List.length_cons, c]⟩
theorem ss_parN {f : List D → En → IH → Out} {is : List Nat} (pd : Pd ps dp) (ha : SL dp io (is.map dp) mr vr) (hi : ∀ i ∈ is, ps.length ≤ i) (hf : ∀ ds env h, ds.length = is.length → f ds env h = .nx (setAllD is ds env) h) : SS ps rm dl dp dp (fun env h => (mr env h).bindS env fun ds h1 => f ds env h1) (vParN is vr) := fun b0 F S h ve env g lw hb =>
  PoE.bindS0 pd lw hb (ha F S h ve env g) fun a b F1 S1 h1 ve1 Sr e1 t1 r1 s1 => by
    obtain ⟨S2, s2⟩ := SP.setAll hb s1 t1 r1 hi
    rw [hf b env h1 (by rw [r1.length.2, List.length_map])]
    exact ⟨_, h1, F1, S2, rfl, s2⟩
theorem ss_par (i j : Nat) (pd : Pd ps dp) (ha : SL dp io [dp i, dp j] mr vr) (hi : ps.length ≤ i) (hj : ps.length ≤ j) : SS ps rm dl dp dp (sPar i j mr) (vParN [i, j] vr) :=
  ss_parN (f := fun ds env h1 => match ds with
    | [d, e] => .nx ((env.set i (some d)).set j (some e)) h1
    | _ => .stk) (is := [i, j]) pd ha (fun k hk => by simp at hk; omega) fun ds env h hl => match ds, hl with
    | [d, e], _ => rfl
theorem ss_par3 (i j k : Nat) (pd : Pd ps dp) (ha : SL dp io [dp i, dp j, dp k] mr vr) (hi : ps.length ≤ i) (hj : ps.length ≤ j) (hk : ps.length ≤ k) : SS ps rm dl dp dp (sPar3 i j k mr) (vParN [i, j, k] vr) :=
  ss_parN (f := fun ds env h1 => match ds with
    | [d, e, f] => .nx (((env.set i (some d)).set j (some e)).set k (some f)) h1
    | _ => .stk) (is := [i, j, k]) pd ha (fun k hk => by simp at hk; omega) fun ds env h hl => match ds, hl with
    | [d, e, f], _ => rfl
def gsOf : List Nat → MTs
  | [] => gsNil
  | i :: is => gsCons (gN i) (gsOf is)
theorem gsOf_ok : ∀ (is : List Nat) (ds : List D) (env : En) (h : IH), ds.length = is.length → gsOf is ds env h = some (setAllD is ds env, h)
  | [], [], env, h, _ => rfl
  | i :: is, d :: ds, env, h, e => gsOf_ok is ds (env.set i (some d)) h (by simpa using e)
theorem bind_bindS {α β : Type} (r : Res α) (f : α → IH → Res β) (env : En) (g : β → IH → Out) : (r.bind f).bindS env g = r.bindS env fun a h => (f a h).bindS env g := by
  cases r <;> rfl
/-- a tuple's parts to names -/
theorem ss_parT (is : List Nat) (n : Nat) (pd : Pd ps dp) (ha : SL dp io (is.map dp) mr vr) (hn : is.length = n) (hs : n ≤ sizeLine) (hi : ∀ i ∈ is, ps.length ≤ i) : SS ps rm dl dp dp (sAsg (mTup mr) (gT n (gsOf is))) (vParN is vr) := by
  have := ss_parN (rm := rm) (dl := dl) (f := fun ds env h1 => (if ds.length ≤ sizeLine then Res.val (D.tup ds) h1 else .stk).bindS env fun d h1 => toOut (gT n (gsOf is) d env h1)) (is := is) pd ha hi fun ds env h hl => by
    rw [if_pos (by omega)]
    simp only [Res.bindS, gT, hl, hn, if_true, gsOf_ok is ds env h hl, toOut]
  have e : sAsg (mTup mr) (gT n (gsOf is)) = fun env h => (mr env h).bindS env fun ds h1 => (if ds.length ≤ sizeLine then Res.val (D.tup ds) h1 else .stk).bindS env fun d h1 => toOut (gT n (gsOf is) d env h1) := by
    funext env h
    unfold sAsg mTup
    rw [bind_bindS]
  rw [e]
  exact this
end
/-! ### lists and dicts that are changed -/
theorem RVs.get {h : IH} {F : Nat → Prop} {k : Nat} : ∀ {S : List Nat} {us : List U} {ds : List D} {i : Nat} {u : U}, RVs h F k S us ds → us[i]? = some u → ∃ d A T B, ds[i]? = some d ∧ S = A ++ T ++ B ∧ RV h F k T u d ∧
    ∀ h' F' u' d' T', (∀ n, F n → F' n) → (∀ n, F n → h'[n]? = h[n]?) → (∀ n, n ∈ A ∨ n ∈ B → h'[n]? = h[n]?) → RV h' F' k T' u' d' → RVs h' F' k (A ++ T' ++ B) (us.set i u') (ds.set i d')
  | _, _, _, _, _, .nil, e => by simp at e
  | _, _, _, 0, _, .cons (S := S) (T := T) a b, e => by
    simp at e
    subst e
    exact ⟨_, [], S, T, rfl, rfl, a, fun h' F' u' d' T' hf hh hs r => RVs.cons r (RVs.mono hf hh b fun n hn => hs n (.inr hn))⟩
  | _, _, _, i + 1, _, .cons (S := S) (T := T) a b, e => by
    obtain ⟨d, A, T2, B, h1, h2, h3, h4⟩ := RVs.get (i := i) b (by simpa using e)
    refine ⟨d, S ++ A, T2, B, by simpa using h1, by rw [h2]; simp, h3, fun h' F' u' d' T' hf hh hs r => ?_⟩
    have := RVs.cons (a.mono hf hh fun n hn => hs n (.inl (List.mem_append_left _ hn))) (h4 h' F' u' d' T' hf hh (fun n hn => hs n (hn.imp (List.mem_append_right _) id)) r)
    simpa using this
theorem RVs.append {h : IH} {F : Nat → Prop} {k : Nat} : ∀ {S T : List Nat} {us vs : List U} {ds es : List D}, RVs h F k S us ds → RVs h F k T vs es → RVs h F k (S ++ T) (us ++ vs) (ds ++ es)
  | _, _, _, _, _, _, .nil, s => s
  | _, _, _, _, _, _, .cons a b, s => by
    rw [List.append_assoc]
    exact RVs.cons a (b.append s)
def setU (kvs : List (KD × U)) (k : KD) (v : U) : List (KD × U) := match kvs with
  | [] => []
  | (j, d) :: r => (if eqK j k = true then (j, v) else (j, d)) :: setU r k v
def putU (kvs : List (KD × U)) (k : KD) (v : U) : List (KD × U) := if (valU kvs k).isSome = true then setU kvs k v else kvs ++ [(k, v)]
/-- what is deep in a thing, by keys -/
def getP : U → List U → Option U
  | u, [] => some u
  | .lst us, k :: p => match k with
    | .int i => match ixN us.length i with
      | some j => match us[j]? with
        | some w => getP w p
        | none => none
      | none => none
    | _ => none
  | .dic kvs, k :: p => match keyU k with
    | some j => if okU kvs j = true then (match valU kvs j with
      | some w => getP w p
      | none => none) else none
    | none => none
  | _, _ :: _ => none
def setP : U → List U → U → U
  | _, [], w => w
  | .lst us, k :: p, w => match k with
    | .int i => match ixN us.length i with
      | some j => match us[j]? with
        | some x => .lst (us.set j (setP x p w))
        | none => .lst us
      | none => .lst us
    | _ => .lst us
  | .dic kvs, k :: p, w => match keyU k with
    | some j => match valU kvs j with
      | some x => .dic (setU kvs j (setP x p w))
      | none => .dic kvs
    | none => .dic kvs
  | u, _ :: _, _ => u
/-- the same way on D -/
def getPD (h : IH) : D → List D → Option D
  | d, [] => some d
  | d, k :: p => match DD.pyIx d k h with
    | .val x _ => getPD h x p
    | _ => none
theorem set_self {α : Type} (xs : List α) (i : Nat) (x : α) (e : xs[i]? = some x) : xs.set i x = xs := by
  apply List.ext_getElem?
  intro j
  rw [List.getElem?_set]
  split
  · rename_i z
    subst z
    split
    · exact e.symm
    · rw [List.getElem?_eq_none (by omega)]
  · rfl
theorem setU_keys : ∀ (kvs : List (KD × U)) (k : KD) (v : U), (setU kvs k v).map (·.1) = kvs.map (·.1)
  | [], _, _ => rfl
  | (j, d) :: r, k, v => by
    simp only [setU, List.map_cons, setU_keys r k v]
    split <;> rfl
theorem setD_keys : ∀ (kvs : List (KD × D)) (k : KD) (v : D), (setD kvs k v).map (·.1) = kvs.map (·.1)
  | [], _, _ => rfl
  | (j, d) :: r, k, v => by
    simp only [setD, List.map_cons, setD_keys r k v]
    split <;> rfl
/-- keys up to == -/
abbrev nkD (kvs : List (KD × D)) : List NestedKey := kvs.map fun p => nk p.1
theorem nkD_eq (kvs : List (KD × D)) : nkD kvs = (kvs.map (·.1)).map nk := by
  rw [List.map_map]
  rfl
theorem nk_keys {ks : List (KD × U)} {kvs : List (KD × D)} (e : ks.map (·.1) = kvs.map (·.1)) : (ks.map fun p => nk p.1) = nkD kvs := by
  rw [nkD_eq, ← e, List.map_map]
  rfl
theorem setU_not : ∀ (kvs : List (KD × U)) (k : KD) (v : U), nk k ∉ (kvs.map fun p => nk p.1) → setU kvs k v = kvs
  | [], _, _, _ => rfl
  | (j, d) :: r, k, v, hn => by
    rw [List.map_cons, List.mem_cons] at hn
    simp only [setU, setU_not r k v fun z => hn (.inr z)]
    rw [if_neg fun e => hn (.inl (eqK_iff.mp e).symm)]
theorem setD_not : ∀ (kvs : List (KD × D)) (k : KD) (v : D), nk k ∉ nkD kvs → setD kvs k v = kvs
  | [], _, _, _ => rfl
  | (j, d) :: r, k, v, hn => by
    rw [nkD, List.map_cons, List.mem_cons] at hn
    simp only [setD, setD_not r k v fun z => hn (.inr z)]
    rw [if_neg fun e => hn (.inl (eqK_iff.mp e).symm)]
theorem setU_cong : ∀ (kvs : List (KD × U)) (i k : KD) (v : U), eqK i k = true → setU kvs k v = setU kvs i v
  | [], _, _, _, _ => rfl
  | (j, d) :: r, i, k, v, e => by
    have e' := eqK_iff.mp e
    have q : eqK j k = eqK j i := by rw [eqK_nk, eqK_nk, e']
    simp only [setU, setU_cong r i k v e, q]
theorem setD_cong : ∀ (kvs : List (KD × D)) (i k : KD) (v : D), eqK i k = true → setD kvs k v = setD kvs i v
  | [], _, _, _, _ => rfl
  | (j, d) :: r, i, k, v, e => by
    have e' := eqK_iff.mp e
    have q : eqK j k = eqK j i := by rw [eqK_nk, eqK_nk, e']
    simp only [setD, setD_cong r i k v e, q]
/-- the value at a key of a dict, that may be changed -/
theorem RVs.key {h : IH} {F : Nat → Prop} {k : Nat} : ∀ {S : List Nat} {ks : List (KD × U)} {kvs : List (KD × D)} {j : KD} {u : U}, ks.map (·.1) = kvs.map (·.1) → (nkD kvs).Nodup → RVs h F k S (ks.map (·.2)) (kvs.map (·.2)) → valU ks j = some u → ∃ d A T B, valD kvs j = some d ∧ S = A ++ T ++ B ∧ RV h F k T u d ∧
    ∀ h' F' u' d' T', (∀ n, F n → F' n) → (∀ n, F n → h'[n]? = h[n]?) → (∀ n, n ∈ A ∨ n ∈ B → h'[n]? = h[n]?) → RV h' F' k T' u' d' → RVs h' F' k (A ++ T' ++ B) ((setU ks j u').map (·.2)) ((setD kvs j d').map (·.2))
  | _, [], _, _, _, _, _, _, e => by cases e
  | _, _ :: _, [], _, _, e, _, _, _ => by simp at e
  | _, (i, x) :: ks, (i', y) :: kvs, j, u, e, nd, r, z => by
    simp only [List.map_cons, List.cons.injEq] at e
    obtain ⟨rfl, e⟩ := e
    rw [nkD, List.map_cons, List.nodup_cons] at nd
    cases r with
    | cons a b =>
      rename_i S T
      by_cases hj : eqK i j = true
      · simp only [valU, if_pos hj, Option.some.injEq] at z
        subst z
        refine ⟨y, [], S, T, by simp only [valD, if_pos hj], rfl, a, fun h' F' u' d' T' hf hh hs r => ?_⟩
        simp only [setU, setD, if_pos hj, List.map_cons]
        rw [setU_cong ks i j u' hj, setD_cong kvs i j d' hj, setU_not ks i u' (by rw [nk_keys e]; exact nd.1), setD_not kvs i d' nd.1]
        exact RVs.cons r (RVs.mono hf hh b fun n hn => hs n (.inr hn))
      · simp only [valU, if_neg hj] at z
        obtain ⟨d, A, T2, B, h1, h2, h3, h4⟩ := RVs.key e nd.2 b z
        refine ⟨d, S ++ A, T2, B, by simp only [valD, if_neg hj, h1], by rw [h2]; simp, h3, fun h' F' u' d' T' hf hh hs r => ?_⟩
        have := RVs.cons (a.mono hf hh fun n hn => hs n (.inl (List.mem_append_left _ hn))) (h4 h' F' u' d' T' hf hh (fun n hn => hs n (hn.imp (List.mem_append_right _) id)) r)
        simp only [setU, setD, if_neg hj, List.map_cons]
        simpa using this
theorem setD_self : ∀ (kvs : List (KD × D)) (k : KD) (v : D), (nkD kvs).Nodup → valD kvs k = some v → setD kvs k v = kvs
  | [], _, _, _, _ => rfl
  | (j, d) :: r, k, v, nd, e => by
    rw [nkD, List.map_cons, List.nodup_cons] at nd
    by_cases hj : eqK j k = true
    · simp only [valD, if_pos hj, Option.some.injEq] at e
      subst e
      simp only [setD, if_pos hj]
      rw [setD_cong r j k d hj, setD_not r j d nd.1]
    · simp only [valD, if_neg hj] at e
      simp only [setD, if_neg hj, setD_self r k v nd.2 e]
/-- THE WAY to what is deep in an owned thing -/
theorem way {h : IH} {F : Nat → Prop} : ∀ {p : List U} {q : List D} {k : Nat} {S : List Nat} {u w : U} {d : D}, RFs h F p q → RV h F (p.length + (k + 1)) S u d → getP u p = some w → ∃ e A T B, (∀ h' : IH, (∀ n ∈ A, h'[n]? = h[n]?) → getPD h' d q = some e) ∧ S = A ++ T ++ B ∧ RV h F (k + 1) T w e ∧
    ∀ h' F' w' T', (∀ n, F n → F' n) → (∀ n, F n → h'[n]? = h[n]?) → (∀ n, n ∈ A ∨ n ∈ B → h'[n]? = h[n]?) → RV h' F' (k + 1) T' w' e → RV h' F' (p.length + (k + 1)) (A ++ T' ++ B) (setP u p w') d
  | [], _, k, S, u, w, d, .nil, r, e => by
    simp only [getP, Option.some.injEq] at e
    subst e
    have r' : RV h F (k + 1) S u d := by simpa using r
    refine ⟨d, [], S, [], fun _ _ => rfl, by simp, r', fun h' F' w' T' hf hh hs r2 => ?_⟩
    simpa [setP] using r2
  | x :: p, _, k, S, u, w, d, .cons (d := y) (ds := q) a b, r, e => by
    have hk : (x :: p).length + (k + 1) = (p.length + (k + 1)) + 1 := by rw [List.length_cons]; omega
    rw [hk] at r
    cases r with
    | ref hn rs =>
      rename_i n S us ds
      cases x with
      | int i =>
        cases a with
        | int =>
          simp only [getP] at e
          split at e
          · rename_i j hj
            split at e
            · rename_i v hv
              obtain ⟨dv, A, T, B, h1, h2, h3, h4⟩ := rs.get hv
              obtain ⟨e2, A2, T2, B2, z1, z2, z3, z4⟩ := way b h3 e
              refine ⟨e2, n :: (A ++ A2), T2, B2 ++ B, ?_, by rw [h2, z2]; simp, z3, fun h' F' w' T' hf hh hs r2 => ?_⟩
              · intro h' hA
                unfold getPD
                have : atI ds i = some dv := by
                  unfold atI
                  rw [← rs.length, hj]
                  exact h1
                simp only [DD.pyIx, hA n List.mem_cons_self, hn, this]
                exact z1 h' fun m hm => hA m (List.mem_cons_of_mem _ (List.mem_append_right _ hm))
              · rw [hk]
                simp only [setP, hj, hv]
                have y1 := z4 h' F' w' T' hf hh (fun m hm => hs m (by
                  rcases hm with hm | hm
                  · exact .inl (List.mem_cons_of_mem _ (List.mem_append_right _ hm))
                  · exact .inr (List.mem_append_left _ hm))) r2
                have y2 := h4 h' F' _ dv _ hf hh (fun m hm => hs m (by
                  rcases hm with hm | hm
                  · exact .inl (List.mem_cons_of_mem _ (List.mem_append_left _ hm))
                  · exact .inr (List.mem_append_right _ hm))) y1
                rw [set_self ds j dv h1] at y2
                have y3 := RV.ref ((hs n (.inl List.mem_cons_self)).trans hn) y2
                simpa using y3
            · cases e
          · cases e
      | _ => simp [getP] at e
    | dic hn c rs =>
      rename_i n S ks kvs
      simp only [getP] at e
      split at e
      · rename_i j hj
        split at e
        · rename_i hok
          split at e
          · rename_i v hv
            obtain ⟨dv, A, T, B, h1, h2, h3, h4⟩ := rs.key c.1 c.2 hv
            obtain ⟨e2, A2, T2, B2, z1, z2, z3, z4⟩ := way b h3 e
            refine ⟨e2, n :: (A ++ A2), T2, B2 ++ B, ?_, by rw [h2, z2]; simp, z3, fun h' F' w' T' hf hh hs r2 => ?_⟩
            · intro h' hA
              unfold getPD
              have hok2 : okK kvs j = true := by rw [← okU_ok c.1]; exact hok
              simp only [DD.pyIx, hA n List.mem_cons_self, hn, getK, keyU_ok a hj, if_pos hok2, h1]
              exact z1 h' fun m hm => hA m (List.mem_cons_of_mem _ (List.mem_append_right _ hm))
            · rw [hk]
              have y1 := z4 h' F' w' T' hf hh (fun m hm => hs m (by
                rcases hm with hm | hm
                · exact .inl (List.mem_cons_of_mem _ (List.mem_append_right _ hm))
                · exact .inr (List.mem_append_left _ hm))) r2
              have y2 := h4 h' F' _ dv _ hf hh (fun m hm => hs m (by
                rcases hm with hm | hm
                · exact .inl (List.mem_cons_of_mem _ (List.mem_append_left _ hm))
                · exact .inr (List.mem_append_right _ hm))) y1
              rw [setD_self kvs j dv c.2 h1] at y2
              have y3 := RV.dic (ks := setU ks j (setP v p w')) ((hs n (.inl List.mem_cons_self)).trans hn) ⟨by rw [setU_keys]; exact c.1, c.2⟩ y2
              simp only [setP, hj, hv]
              simpa using y3
          · cases e
        · cases e
      · cases e
    | _ => simp [getP] at e
end VV
set_option Elab.async false
set_option linter.all false
set_option maxRecDepth 100000
namespace VV
open PySem L2 DD
/-! ### ways as expressions -/
def slot (e : UE) (i : Nat) : Option U := match e[i]? with
  | some (some u) => some u
  | _ => none
def vHere (i : Nat) : VA := fun e => match slot e i with
  | some _ => .val [] e
  | none => .stk
def vStep (i : Nat) (ks : VA) (k : VE) : VA := fun e => (ks e).bind fun kv e1 => (k e1).bind fun x e2 => match slot e2 i with
  | some u => if (getP u (kv ++ [x])).isSome = true then .val (kv ++ [x]) e2 else .stk
  | none => .stk
def OP (dp : Nat → Nat) (io : List Nat) (i n : Nat) (o : ME) (ks : VA) : Prop := ∀ F S h ve env, Gd dp F S h ve env → PoE h.length dp io F S h ve env (fun F' S' h' Sr kv d => Sr = [] ∧ ∃ di kd, env[i]? = some (some di) ∧ RFs h' F' kv kd ∧ kv.length = n ∧ getPD h' di kd = some d) (ks ve) (o env h)
theorem slot_some {e : UE} {i : Nat} {u : U} (z : slot e i = some u) : e[i]? = some (some u) := by
  unfold slot at z
  split at z
  · rename_i z2
    cases z
    exact z2
  · cases z
theorem pyIx_heap {a b x : D} {h h' : IH} (e : DD.pyIx a b h = .val x h') : h' = h := by
  unfold DD.pyIx at e
  split at e
  · split at e
    · split at e
      · cases e
        rfl
      · cases e
    · cases e
  · split at e
    · cases e
      rfl
    · cases e
  · split at e
    · cases e
      rfl
    · cases e
  · split at e
    · split at e
      · split at e
        · cases e
          rfl
        · cases e
      · cases e
    · split at e
      · cases e
        rfl
      · cases e
    · cases e
  · cases e
theorem getPD_snoc (h : IH) : ∀ (q : List D) (d y : D), getPD h d (q ++ [y]) = (getPD h d q).bind fun x => getPD h x [y]
  | [], d, y => rfl
  | k :: q, d, y => by
    rw [List.cons_append]
    unfold getPD
    cases DD.pyIx d k h with
    | val x h1 => exact getPD_snoc h q x y
    | exc x h1 => rfl
    | stk => rfl
theorem getPD_one {h : IH} {d y x : D} (e : getPD h d [y] = some x) : DD.pyIx d y h = .val x h := by
  unfold getPD at e
  split at e
  · rename_i z h1 e1
    cases e
    have := pyIx_heap e1
    subst this
    exact e1
  · cases e
theorem RFs.snoc {h : IH} {F : Nat → Prop} {us : List U} {ds : List D} {u : U} {d : D} (a : RFs h F us ds) (b : RF h F u d) : RFs h F (us ++ [u]) (ds ++ [d]) := a.append (.cons b .nil)
section
variable {dp : Nat → Nat} {io : List Nat} {i n : Nat} {o mk : ME} {ks : VA} {vk : VE}
theorem op_here : OP dp io i 0 (mVar i) (vHere i) := fun F S h ve env g => by
  unfold vHere
  cases z : slot ve i with
  | none => trivial
  | some u =>
    obtain ⟨d, e1, r⟩ := g.get i u (slot_some z)
    have hv : mVar i env h = .val d h := by
      unfold mVar
      rw [e1]
    rw [hv]
    exact PoE.val (Sr := []) g .nil ⟨rfl, d, [], e1, .nil, rfl, rfl⟩
theorem op_step (hi : i ∉ io) (hd : n + 2 ≤ dp i) (ho : OP dp io i n o ks) (hk : SE dp io .fz mk vk) : OP dp io i (n + 1) (mBin DD.pyIx o mk) (vStep i ks vk) := fun F S h ve env g =>
  (ho F S h ve env g).bind fun kv d F1 S1 h1 ve1 Sr e1 t1 r1 => (hk F1 S1 h1 ve1 env e1.gd).bind fun x y F2 S2 h2 ve2 Tr e2 t2 r2 => by
    obtain ⟨_, di, kd, ei, rk, hl, hp⟩ := r1
    cases z : slot ve2 i with
    | none => trivial
    | some u =>
      dsimp only
      split
      · rename_i hs
        obtain ⟨d2, e3, r⟩ := e2.gd.get i u (slot_some z)
        rw [ei] at e3
        cases e3
        have hF : ∀ n, F1 n → h2[n]? = h1[n]? := fun n x => e2.fr n (e1.gd.fb n x) fun i _ z => e1.gd.nf i n z x
        have rk2 := rk.mono e2.ff hF
        cases hg : getP u (kv ++ [x]) with
        | none =>
          rw [hg] at hs
          cases hs
        | some w =>
          obtain ⟨u1, eu1⟩ : ∃ u1, ve1[i]? = some (some u1) := by
            have := (e2.st i hi).2
            rw [slot_some z] at this
            exact ⟨u, this.symm⟩
          -- the way at h2
          have key : ∃ e, getPD h2 di (kd ++ [y]) = some e ∧ getPD h2 di kd = some d := by
            have pre : ∀ (p : List U) (x : U) (u w : U), getP u (p ++ [x]) = some w → ∃ v, getP u p = some v := by
              intro p
              induction p with
              | nil => exact fun x u w _ => ⟨u, by cases u <;> rfl⟩
              | cons a p ih =>
                intro x u w hw
                cases u <;> simp only [List.cons_append, getP] at hw ⊢ <;> try (cases hw; done)
                · split at hw
                  · split at hw
                    · split at hw
                      · exact ih _ _ _ hw
                      · cases hw
                    · cases hw
                  · cases hw
                · split at hw
                  · split at hw
                    · split at hw
                      · rename_i hok _ _ _
                        rw [if_pos (by assumption)]
                        exact ih _ _ _ hw
                      · cases hw
                    · cases hw
                  · cases hw
            obtain ⟨v, hv⟩ := pre kv x u w hg
            obtain ⟨k, hk⟩ : ∃ k, dp i = kv.length + (k + 1) := ⟨dp i - kv.length - 1, by omega⟩
            rw [hk] at r
            obtain ⟨ev, A, T, B, w1, w2, w3, _⟩ := way rk2 r hv
            have hd1 : getPD h2 di kd = some d := by
              -- the same way at h1
              have ru : u1 = u := by
                have := (e2.st i hi).2
                rw [slot_some z, eu1] at this
                cases this
                rfl
              subst ru
              obtain ⟨d1, e5, r5⟩ := e1.gd.get i u1 eu1
              rw [ei] at e5
              cases e5
              rw [hk] at r5
              obtain ⟨ev1, A1, T1, B1, y1, y2, _, _⟩ := way rk r5 hv
              have y3 := y1 h1 fun _ _ => rfl
              rw [hp] at y3
              cases y3
              refine y1 h2 fun n hn => e2.fr n (e1.gd.bd i n ?_) fun j hj z => ?_
              · rw [y2]
                exact List.mem_append_left _ (List.mem_append_left _ hn)
              · have : n ∈ S1 i := by
                  rw [y2]
                  exact List.mem_append_left _ (List.mem_append_left _ hn)
                rw [e1.gd.dj i j n this z] at hi
                exact hi hj
            have rkx : RFs h2 F2 (kv ++ [x]) (kd ++ [y]) := rk2.snoc r2.1
            obtain ⟨k2, hk2⟩ : ∃ k2, kv.length + (k + 1) = (kv ++ [x]).length + (k2 + 1) := ⟨k - 1, by rw [List.length_append, List.length_singleton]; omega⟩
            rw [hk2] at r
            obtain ⟨e, _, _, _, w4, _⟩ := way rkx r hg
            exact ⟨e, w4 h2 fun _ _ => rfl, hd1⟩
          obtain ⟨e, z1, z2⟩ := key
          have z3 : getPD h2 d [y] = some e := by
            rw [getPD_snoc, z2] at z1
            exact z1
          rw [getPD_one z3]
          exact PoE.val (Sr := []) e2.gd .nil ⟨rfl, di, kd ++ [y], ei, rk2.snoc r2.1, by rw [List.length_append, hl]; rfl, z1⟩
      · trivial
end
/-! ### operations that change -/
/-- what an operation on an owned thing does (its items owned to a depth of j) -/
def Mo (j : Nat) (T : String) (f : D → List D → IH → Res D) (g : U → List U → Option (U × U)) : Prop := ∀ h (F : Nat → Prop) Sw Sa w d as das w' r, (∀ n, F n → n < h.length) → RV h F (j + 1) Sw w d → RVs h F j Sa as das → (Sw ++ Sa).Nodup → (∀ m ∈ Sw ++ Sa, ¬ F m) → g w as = some (w', r) →
  ∃ n h' r' Sw', f d das h = .val r' h' ∧ h'.length = h.length ∧ (∀ m, m ≠ n → h'[m]? = h[m]?) ∧ n ∈ Sw ∧ RV h' F (j + 1) Sw' w' d ∧ Sw'.Nodup ∧ (∀ m ∈ Sw', m ∈ Sw ∨ m ∈ Sa) ∧ RF h' F r r'
def vMut (T : String) (i : Nat) (ks : VA) (g : U → List U → Option (U × U)) (as : VA) : VE := fun e => (ks e).bind fun kv e1 => match slot e1 i with
  | some u0 => if (getP u0 kv).bind tyMU = some T then (as e1).bind fun av e2 => (match slot e2 i with
    | some u => match getP u kv with
      | some w => match g w av with
        | some (w', r) => .val r (e2.set i (some (setP u kv w')))
        | none => .stk
      | none => .stk
    | none => .stk) else .stk
  | none => .stk
section
variable {dp : Nat → Nat} {io : List Nat} {i n j : Nat} {o mk : ME} {ks : VA} {vk : VE} {F F2 : Nat → Prop} {S S2 : Nat → List Nat} {h h2 : IH} {ve ve2 : UE} {env : En}
/-- the change itself -/
theorem mut_go {f : D → List D → IH → Res D} {g : U → List U → Option (U × U)} {T : String} (mo : Mo j T f g) (hd : dp i = n + (j + 1)) (a : EP dp io F S h ve env F2 S2 h2 ve2) {u w w' r : U} {kv as : List U} {kd das : List D} {di d : D} {Sa : List Nat} (ei : env[i]? = some (some di)) (rk : RFs h2 F2 kv kd) (hl : kv.length = n) (hp : getPD h2 di kd = some d)
    (hs : slot ve2 i = some u) (hg : getP u kv = some w) (ra : RVs h2 F2 j Sa as das) (t : Tm F2 S2 h.length h2 Sa) (z : g w as = some (w', r)) :
    ∃ h3 r' S3, f d das h2 = .val r' h3 ∧ EP dp (i :: io) F S h ve env F2 S3 h3 (ve2.set i (some (setP u kv w'))) ∧ RF h3 F2 r r' := by
  obtain ⟨d2, e3, ru⟩ := a.gd.get i u (slot_some hs)
  rw [ei] at e3
  cases e3
  have hk : dp i = kv.length + (j + 1) := by rw [hl]; exact hd
  rw [hk] at ru
  obtain ⟨e, A, Tw, B, w1, w2, w3, w4⟩ := way rk ru hg
  have w5 := w1 h2 fun _ _ => rfl
  rw [hp] at w5
  cases w5
  have nd := a.gd.nd i
  rw [w2] at nd
  have hTi : ∀ m ∈ Tw, m ∈ S2 i := fun m hm => by
    rw [w2]
    exact List.mem_append_left _ (List.mem_append_right _ hm)
  have nd1 := (List.nodup_append.mp nd).1
  have ndT := (List.nodup_append.mp nd1).2.1
  obtain ⟨n0, h3, r', T', y1, y2, y3, y4, y5, y6, y7, y8⟩ := mo h2 F2 Tw Sa w d as das w' r a.gd.fb w3 ra (by
    rw [List.nodup_append]
    refine ⟨ndT, t.nd, fun x hx y hy e => ?_⟩
    subst e
    exact t.ns x hy i (hTi x hx)) (fun m hm => by
    rcases List.mem_append.mp hm with hm | hm
    · exact a.gd.nf i m (hTi m hm)
    · exact t.nf m hm) z
  have n0i : n0 ∈ S2 i := hTi n0 y4
  have hF : ∀ m, F2 m → h3[m]? = h2[m]? := fun m x => y3 m fun e => a.gd.nf i n0 n0i (by rw [← e]; exact x)
  have hAB : ∀ m, m ∈ A ∨ m ∈ B → m ≠ n0 := fun m hm e => by
    subst e
    rcases hm with hm | hm
    · exact (List.nodup_append.mp nd1).2.2 m hm m y4 rfl
    · exact (List.nodup_append.mp nd).2.2 m (List.mem_append_right _ y4) m hm rfl
  have rn := w4 h3 F2 w' T' (fun _ x => x) hF (fun m hm => y3 m (hAB m hm)) y5
  have hmem : ∀ m, m ∈ A ++ T' ++ B → m ∈ S2 i ∨ m ∈ Sa := fun m hm => by
    rw [w2]
    rcases List.mem_append.mp hm with hm | hm
    · rcases List.mem_append.mp hm with hm | hm
      · exact .inl (List.mem_append_left _ (List.mem_append_left _ hm))
      · rcases y7 m hm with q | q
        · exact .inl (List.mem_append_left _ (List.mem_append_right _ q))
        · exact .inr q
    · exact .inl (List.mem_append_right _ hm)
  refine ⟨h3, r', fun k => if k = i then A ++ T' ++ B else S2 k, y1, ⟨⟨?_, fun k v ek => ?_, fun k => ?_, fun k l m hk hl => ?_, fun k m hk => ?_, fun k m hk => ?_, fun m x => by rw [y2]; exact a.gd.fb m x⟩, fun k hk => ?_, a.ff, fun m x => (a.fn m x).imp id fun z => z.imp id fun ⟨k, q1, q2⟩ => ⟨k, List.mem_cons_of_mem _ q1, q2⟩, by rw [y2]; exact a.hl, fun m hm hn => ?_, fun k m hkm => ?_⟩, y8⟩
  · rw [List.length_set]
    exact a.gd.len
  · rw [List.getElem?_set] at ek
    split at ek
    · rename_i q
      subst q
      split at ek
      · cases ek
        refine ⟨di, ei, ?_⟩
        rw [if_pos rfl, hk]
        exact rn
      · cases ek
    · rename_i q
      obtain ⟨dk, e5, r5⟩ := a.gd.get k v ek
      refine ⟨dk, e5, ?_⟩
      rw [if_neg fun z => q z.symm]
      exact r5.mono (fun _ x => x) hF fun m hm => y3 m fun e => q (a.gd.dj i k n0 n0i (by rw [← e]; exact hm))
  · split
    · rw [List.nodup_append] at nd ⊢
      rw [List.nodup_append] at nd1 ⊢
      refine ⟨⟨nd1.1, y6, fun x hx y hy e => ?_⟩, nd.2.1, fun x hx y hy e => ?_⟩
      · subst e
        rcases y7 x hy with q | q
        · exact nd1.2.2 x hx x q rfl
        · exact t.ns x q i (by rw [w2]; exact List.mem_append_left _ (List.mem_append_left _ hx))
      · subst e
        rcases List.mem_append.mp hx with hx | hx
        · exact nd.2.2 x (List.mem_append_left _ hx) x hy rfl
        · rcases y7 x hx with q | q
          · exact nd.2.2 x (List.mem_append_right _ q) x hy rfl
          · exact t.ns x q i (by rw [w2]; exact List.mem_append_right _ hy)
    · exact a.gd.nd k
  · split at hk <;> split at hl
    · rename_i p q
      rw [p, q]
    · rename_i p q
      rcases hmem m hk with x | x
      · exact absurd (a.gd.dj i l m x hl).symm q
      · exact absurd hl (t.ns m x l)
    · rename_i p q
      rcases hmem m hl with x | x
      · exact absurd (a.gd.dj i k m x hk).symm p
      · exact absurd hk (t.ns m x k)
    · exact a.gd.dj k l m hk hl
  · split at hk
    · rcases hmem m hk with x | x
      · exact a.gd.nf i m x
      · exact t.nf m x
    · exact a.gd.nf k m hk
  · rw [y2]
    split at hk
    · rcases hmem m hk with x | x
      · exact a.gd.bd i m x
      · exact t.bd m x
    · exact a.gd.bd k m hk
  · have hki : k ≠ i := fun e => hk (by rw [e]; exact List.mem_cons_self)
    obtain ⟨q1, q2⟩ := a.st k fun z => hk (List.mem_cons_of_mem _ z)
    refine ⟨by rw [if_neg hki]; exact q1, ?_⟩
    rw [List.getElem?_set_ne fun e => hki e.symm]
    exact q2
  · rw [y3 m fun e => ?_]
    · exact a.fr m hm fun k hk => hn k (List.mem_cons_of_mem _ hk)
    · subst e
      rcases a.sn i m n0i with q | q
      · exact hn i List.mem_cons_self q
      · omega
  · split at hkm
    · rename_i q
      subst q
      rcases hmem m hkm with x | x
      · exact a.sn k m x
      · exact .inr (t.lo m x)
    · exact a.sn k m hkm
theorem EP.wio (a : EP dp io F S h ve env F2 S2 h2 ve2) {io' : List Nat} (hs : ∀ k ∈ io, k ∈ io') : EP dp io' F S h ve env F2 S2 h2 ve2 :=
  ⟨a.gd, fun k hk => a.st k fun z => hk (hs k z), a.ff, fun n x => (a.fn n x).imp id fun z => z.imp id fun ⟨k, q1, q2⟩ => ⟨k, hs k q1, q2⟩, a.hl, fun n hn hk => a.fr n hn fun k hk2 => hk k (hs k hk2), a.sn⟩
theorem PoE.wio {α β : Type} {R : (Nat → Prop) → (Nat → List Nat) → IH → List Nat → α → β → Prop} {lo : Nat} {r : ER α} {m : Res β} (p : PoE lo dp io F S h ve env R r m) {io' : List Nat} (hs : ∀ k ∈ io, k ∈ io') : PoE lo dp io' F S h ve env R r m := by
  cases r with
  | val a e =>
    obtain ⟨b, h1, F1, S1, Sr, z, e1, t1, r1⟩ := p
    exact ⟨b, h1, F1, S1, Sr, z, e1.wio hs, t1, r1⟩
  | exc x e =>
    obtain ⟨y, h1, F1, S1, z, e1, rx⟩ := p
    exact ⟨y, h1, F1, S1, z, e1.wio hs, rx⟩
  | stk => trivial
/-- an object by its way, its items by their modes: .. -/
theorem se_mut {f : D → List D → IH → Res D} {g : U → List U → Option (U × U)} {T : String} {mr : MA} {vr : VA} (mo : Mo j T f g) (hi : i ∉ io) (hd : dp i = n + (j + 1)) (ho : OP dp io i n o ks) (ha : SA dp io (.fr j) mr vr) : SE dp (i :: io) .fz (mMeth T f o mr) (vMut T i ks g vr) := fun F S h ve env gd => by
  have hmon : ∀ k ∈ io, k ∈ i :: io := fun k hk => List.mem_cons_of_mem _ hk
  unfold vMut mMeth
  have p1 := ho F S h ve env gd
  revert p1
  cases ks ve with
  | exc x e =>
    rintro ⟨y, h1, F1, S1, z, e1, rx⟩
    rw [z]
    exact ⟨y, h1, F1, S1, rfl, e1.wio hmon, rx⟩
  | stk => exact fun _ => trivial
  | val kv ve1 =>
    rintro ⟨d, h1, F1, S1, Sr, z, e1, t1, _, di, kd, ei, rk, hl, hp⟩
    rw [z]
    simp only [ER.bind, Res.bind]
    cases zs : slot ve1 i with
    | none => trivial
    | some u0 =>
      dsimp only
      split
      · rename_i ht
        have hty : tyM h1 d = some T := by
          cases hg : getP u0 kv with
          | none =>
            rw [hg] at ht
            cases ht
          | some w =>
            rw [hg] at ht
            obtain ⟨d2, e3, ru⟩ := e1.gd.get i u0 (slot_some zs)
            rw [ei] at e3
            cases e3
            have hk : dp i = kv.length + (j + 1) := by rw [hl]; exact hd
            rw [hk] at ru
            obtain ⟨e, A, Tw, B, w1, w2, w3, w4⟩ := way rk ru hg
            have w5 := w1 h1 fun _ _ => rfl
            rw [hp] at w5
            cases w5
            exact tyMU_ok (w3.frz (F' := fun n => F1 n ∨ n ∈ Tw) (fun n x => .inl x) fun n x => .inr x) ht
        rw [if_pos hty]
        have p2 := ha F1 S1 h1 ve1 env e1.gd
        revert p2
        cases vr ve1 with
        | exc x e =>
          rintro ⟨y, h2, F2, S2, z, e2, rx⟩
          rw [z]
          exact ⟨y, h2, F2, S2, rfl, (e1.trans e2).wio hmon, rx⟩
        | stk => exact fun _ => trivial
        | val av ve2 =>
          rintro ⟨das, h2, F2, S2, Sa, z, e2, t2, ra⟩
          rw [z]
          dsimp only
          cases zs2 : slot ve2 i with
          | none => trivial
          | some u =>
            dsimp only
            cases hg : getP u kv with
            | none => trivial
            | some w =>
              dsimp only
              cases zg : g w av with
              | none => trivial
              | some wr =>
                obtain ⟨w', r⟩ := wr
                have hF : ∀ m, F1 m → h2[m]? = h1[m]? := fun m x => e2.fr m (e1.gd.fb m x) fun k _ q => e1.gd.nf k m q x
                have hu : u0 = u := by
                  have := (e2.st i hi).2
                  rw [slot_some zs, slot_some zs2] at this
                  cases this
                  rfl
                subst hu
                have hp2 : getPD h2 di kd = some d := by
                  obtain ⟨d2, e3, ru⟩ := e1.gd.get i u0 (slot_some zs)
                  rw [ei] at e3
                  cases e3
                  have hk : dp i = kv.length + (j + 1) := by rw [hl]; exact hd
                  rw [hk] at ru
                  obtain ⟨e, A, Tw, B, w1, w2, _, _⟩ := way rk ru hg
                  have w5 := w1 h1 fun _ _ => rfl
                  rw [hp] at w5
                  cases w5
                  have hA : ∀ m ∈ A, m ∈ S1 i := fun m hm => by
                    rw [w2]
                    exact List.mem_append_left _ (List.mem_append_left _ hm)
                  exact w1 h2 fun m hm => e2.fr m (e1.gd.bd i m (hA m hm)) fun k hk2 q => hi (by rw [e1.gd.dj i k m (hA m hm) q]; exact hk2)
                obtain ⟨h3, r', S3, y1, y2, y3⟩ := mut_go mo hd (e1.trans e2) ei (rk.mono e2.ff hF) hl hp2 zs2 hg ra (t2.low e1.hl) zg
                exact ⟨r', h3, F2, S3, [], y1, y2, .nil, y3, rfl⟩
      · trivial
end
end VV
set_option Elab.async false
set_option linter.all false
set_option maxRecDepth 100000
namespace VV
open PySem L2 DD
/-! ### append, items set -/
def uAppend (w : U) (as : List U) : Option (U × U) := match w, as with
  | .lst us, [y] => if us.length < sizeLine then some (.lst (us ++ [y]), .non) else none
  | _, _ => none
theorem set_get {h : IH} {n m : Nat} {o : IO} (e : m ≠ n) : (h.set n o)[m]? = h[m]? := List.getElem?_set_ne fun z => e z.symm
theorem set_same {h : IH} {n : Nat} {o o' : IO} (e : h[n]? = some o') : (h.set n o)[n]? = some o := by
  rw [List.getElem?_set_self]
  exact (List.getElem?_eq_some_iff.mp e).1
theorem mo_append (j : Nat) : Mo j "list" pyAppend uAppend := fun h F Sw Sa w d as das w' r fb rw ra nd nf e => by
  unfold uAppend at e
  split at e
  · rename_i us y
    split at e
    · rename_i hl
      cases e
      cases rw with
      | ref hn rs =>
        rename_i n S ds
        rw [List.cons_append, List.nodup_cons] at nd
        have hne : ∀ m, m ∈ S ++ Sa → m ≠ n := fun m hm z => nd.1 (by rw [← z]; exact hm)
        have hF : ∀ m, F m → (h.set n (.lst (ds ++ das)))[m]? = h[m]? := fun m x => set_get fun z => nf n (List.mem_append_left _ List.mem_cons_self) (by rw [← z]; exact x)
        cases ra with
        | cons a b =>
          cases b with
          | nil =>
            rename_i A dy
            refine ⟨n, h.set n (.lst (ds ++ [dy])), .non, n :: (S ++ (A ++ [])), ?_, List.length_set, fun m hm => set_get hm, List.mem_cons_self, RV.ref (set_same hn) ?_, List.nodup_cons.mpr ⟨nd.1, nd.2⟩, fun m hm => ?_, .non⟩
            · simp only [pyAppend, lstAt_of hn, ← rs.length, if_pos hl]
            · exact (RVs.mono (fun _ x => x) hF rs fun m hm => set_get (hne m (List.mem_append_left _ hm))).append (RVs.mono (fun _ x => x) hF (RVs.cons a .nil) fun m hm => set_get (hne m (List.mem_append_right _ hm)))
            · rcases List.mem_cons.mp hm with rfl | hm
              · exact .inl List.mem_cons_self
              · exact (List.mem_append.mp hm).imp (List.mem_cons_of_mem _) id
    · cases e
  · cases e
def setF (d : D) (as : List D) (h : IH) : Res D := match as with
  | [y, v] => match pySet d y v h with
    | some h' => .val .non h'
    | none => .stk
  | _ => .stk
def uPut (w : U) (as : List U) : Option (U × U) := match w, as with
  | .lst us, [k, y] => match k with
    | .int i => match ixN us.length i with
      | some j => some (.lst (us.set j y), .non)
      | none => none
    | _ => none
  | .dic kvs, [k, y] => match keyU k with
    | some j => if kvs.length < sizeLine ∧ okU kvs j = true then some (.dic (putU kvs j y), .non) else none
    | none => none
  | _, _ => none
theorem RVs.two {h : IH} {F : Nat → Prop} {j : Nat} {Sa : List Nat} {k y : U} {das : List D} (hf : flat k = true) (ra : RVs h F j Sa [k, y] das) : ∃ dk dy, das = [dk, dy] ∧ RF h F k dk ∧ RV h F j Sa y dy := by
  cases ra with
  | cons a b =>
    cases b with
    | cons b c =>
      cases c with
      | nil =>
        rename_i A dk B dy
        refine ⟨dk, dy, rfl, ?_, ?_⟩
        · have := a.frz (F' := fun n => F n ∨ n ∈ A) (fun _ x => .inl x) fun _ x => .inr x
          exact this.flat hf _ _
        · have hA : A = [] := by
            have key : ∀ {j : Nat} {A : List Nat} {k : U} {d : D}, RV h F j A k d → flat k = true → A = [] := by
              intro j A k d r hf
              have aux : (∀ {j : Nat} {A : List Nat} {k : U} {d : D}, RV h F j A k d → flat k = true → A = []) := by
                intro j A k d r
                refine RV.rec (motive_1 := fun j A k d _ => flat k = true → A = []) (motive_2 := fun j A ks ds _ => flats ks = true → A = []) ?_ ?_ ?_ ?_ ?_ ?_ ?_ ?_ ?_ ?_ ?_ ?_ ?_ ?_ r
                · intros; rfl
                · intros; rfl
                · intros; rfl
                · intros; rfl
                · intros; rfl
                · intros; rfl
                · intros; rfl
                · intro k S us ds r ih hf
                  exact ih hf
                · intro k n S us ds e r ih hf
                  simp [flat] at hf
                · intros; rfl
                · intro k n c S fs gs e c r ih hf
                  simp [flat] at hf
                · intro k n S ks kvs e c r ih hf
                  simp [flat] at hf
                · intros; rfl
                · intro k S T u d us ds a b iha ihb hf
                  rw [flats, Bool.and_eq_true] at hf
                  rw [iha hf.1, ihb hf.2]
                  rfl
              exact aux r hf
            exact key a hf
          subst hA
          simpa using b
mutual
theorem keyU_flat : ∀ {k : U} {j : KD}, keyU k = some j → flat k = true
  | .non, _, _ => rfl
  | .bl _, _, _ => rfl
  | .int _, _, _ => rfl
  | .str _, _, _ => rfl
  | .tup us, _, e => by
    rw [keyU] at e
    obtain ⟨ks, z, rfl⟩ := Option.map_eq_some_iff.mp e
    rw [flat]
    exact keyUs_flat z
  | .lst _, _, e => by simp [keyU] at e
  | .fl _, _, e => by simp [keyU] at e
  | .dic _, _, e => by simp [keyU] at e
  | .op _, _, e => by simp [keyU] at e
  | .gl _, _, e => by simp [keyU] at e
  | .ins _ _, _, e => by simp [keyU] at e
theorem keyUs_flat : ∀ {ks : List U} {js : List KD}, keyUs ks = some js → flats ks = true
  | [], _, _ => rfl
  | u :: us, _, e => by
    rw [keyUs] at e
    split at e
    · rename_i k ks z1 z2
      rw [flats, keyU_flat z1, keyUs_flat z2]
      rfl
    · cases e
end
theorem putU_keys {ks : List (KD × U)} {kvs : List (KD × D)} {j : KD} {y : U} {v : D} (e : ks.map (·.1) = kvs.map (·.1)) (hs : (valU ks j).isSome = hasD kvs j) : (putU ks j y).map (·.1) = (putD kvs j v).map (·.1) := by
  unfold putU putD
  rw [hs]
  split
  · rw [setU_keys, setD_keys, e]
  · simp [e]
theorem mem_val : ∀ (kvs : List (KD × D)) (j : KD), nk j ∈ nkD kvs → hasD kvs j = true
  | [], j, h => by cases h
  | (i, d) :: r, j, h => by
    unfold hasD
    by_cases e : eqK i j = true
    · simp [valD, e]
    · rw [nkD, List.map_cons, List.mem_cons] at h
      simp only [valD, if_neg e]
      rcases h with h | h
      · exact absurd (eqK_iff.mpr h.symm) e
      · exact mem_val r j h
theorem mo_put (j : Nat) : Mo j "" setF uPut := fun h F Sw Sa w d as das w' r fb rw ra nd nf e => by
  unfold uPut at e
  split at e
  · rename_i us k y
    split at e
    · rename_i i
      split at e
      · rename_i x hx
        cases e
        obtain ⟨dk, dy, rfl, rk, ry⟩ := ra.two rfl
        cases rk
        cases rw with
        | ref hn rs =>
          rename_i n S ds
          have hj := (ixN_seq hx).2.1
          obtain ⟨dv, A, T, B, q1, q2, q3, q4⟩ := rs.get (List.getElem?_eq_getElem hj)
          rw [List.cons_append, List.nodup_cons] at nd
          have hne : ∀ m, m ∈ S ++ Sa → m ≠ n := fun m hm z => nd.1 (by rw [← z]; exact hm)
          have hF : ∀ m, F m → (h.set n (.lst (ds.set x dy)))[m]? = h[m]? := fun m x => set_get fun z => nf n (List.mem_append_left _ List.mem_cons_self) (by rw [← z]; exact x)
          have hS : ∀ m, m ∈ A ∨ m ∈ B → m ∈ S := fun m hm => by
            rw [q2]
            rcases hm with hm | hm
            · exact List.mem_append_left _ (List.mem_append_left _ hm)
            · exact List.mem_append_right _ hm
          refine ⟨n, h.set n (.lst (ds.set x dy)), .non, n :: (A ++ Sa ++ B), ?_, List.length_set, fun m hm => set_get hm, List.mem_cons_self, RV.ref (set_same hn) ?_, ?_, fun m hm => ?_, .non⟩
          · have : ixN ds.length i = some x := by rw [← rs.length]; exact hx
            simp only [setF, pySet, hn, this]
          · exact q4 _ F y dy Sa (fun _ x => x) hF (fun m hm => set_get (hne m (List.mem_append_left _ (hS m hm)))) (ry.mono (fun _ x => x) hF fun m hm => set_get (hne m (List.mem_append_right _ hm)))
          · have nS := (List.nodup_append.mp nd.2).1
            rw [q2] at nS
            have nS1 := List.nodup_append.mp nS
            have nS2 := List.nodup_append.mp nS1.1
            have dis := (List.nodup_append.mp nd.2).2.2
            rw [List.nodup_cons, List.nodup_append, List.nodup_append]
            refine ⟨fun hm => ?_, ⟨nS2.1, (List.nodup_append.mp nd.2).2.1, fun a ha b hb z => ?_⟩, nS1.2.1, fun a ha b hb z => ?_⟩
            · refine nd.1 ?_
              rcases List.mem_append.mp hm with hm | hm
              · rcases List.mem_append.mp hm with hm | hm
                · exact List.mem_append_left _ (hS n (.inl hm))
                · exact List.mem_append_right _ hm
              · exact List.mem_append_left _ (hS n (.inr hm))
            · subst z
              exact dis a (hS a (.inl ha)) a hb rfl
            · subst z
              rcases List.mem_append.mp ha with ha | ha
              · exact nS1.2.2 a (List.mem_append_left _ ha) a hb rfl
              · exact dis a (hS a (.inr hb)) a ha rfl
          · rcases List.mem_cons.mp hm with rfl | hm
            · exact .inl List.mem_cons_self
            · rcases List.mem_append.mp hm with hm | hm
              · rcases List.mem_append.mp hm with hm | hm
                · exact .inl (List.mem_cons_of_mem _ (hS m (.inl hm)))
                · exact .inr hm
              · exact .inl (List.mem_cons_of_mem _ (hS m (.inr hm)))
      · cases e
    · cases e
  · rename_i ks k y
    split at e
    · rename_i x hx
      split at e
      · rename_i hl
        cases e
        obtain ⟨dk, dy, rfl, rk, ry⟩ := ra.two (keyU_flat hx)
        cases rw with
        | dic hn c rs =>
          rename_i n S kvs
          rw [List.cons_append, List.nodup_cons] at nd
          have hne : ∀ m, m ∈ S ++ Sa → m ≠ n := fun m hm z => nd.1 (by rw [← z]; exact hm)
          have hlk : kvs.length = ks.length := by
            have := congrArg List.length c.1
            rw [List.length_map, List.length_map] at this
            exact this.symm
          have hF : ∀ m, F m → (h.set n (.dic false (putD kvs x dy)))[m]? = h[m]? := fun m x => set_get fun z => nf n (List.mem_append_left _ List.mem_cons_self) (by rw [← z]; exact x)
          have hset : setF (.ref n) [dk, dy] h = .val .non (h.set n (.dic false (putD kvs x dy))) := by
            have hl2 : kvs.length < sizeLine ∧ okK kvs x = true := by rw [← okU_ok c.1, hlk]; exact hl
            simp only [setF, pySet, hn, keyU_ok rk hx, if_pos hl2]
          have ry2 := ry.mono (h' := h.set n (.dic false (putD kvs x dy))) (fun _ x => x) hF fun m hm => set_get (hne m (List.mem_append_right _ hm))
          cases hv : valU ks x with
          | some v =>
            obtain ⟨dv, A, T, B, q1, q2, q3, q4⟩ := rs.key c.1 c.2 hv
            have hh : hasD kvs x = true := by
              unfold hasD
              rw [q1]
              rfl
            have hS : ∀ m, m ∈ A ∨ m ∈ B → m ∈ S := fun m hm => by
              rw [q2]
              rcases hm with hm | hm
              · exact List.mem_append_left _ (List.mem_append_left _ hm)
              · exact List.mem_append_right _ hm
            have eU : putU ks x y = setU ks x y := by
              unfold putU
              rw [hv]
              rfl
            have eD : putD kvs x dy = setD kvs x dy := by
              unfold putD
              rw [if_pos hh]
            rw [eU]
            rw [eD] at hset ry2
            rw [eD] at hF
            refine ⟨n, h.set n (.dic false (setD kvs x dy)), .non, n :: (A ++ Sa ++ B), hset, List.length_set, fun m hm => set_get hm, List.mem_cons_self, RV.dic (set_same hn) ⟨by rw [setU_keys, setD_keys]; exact c.1, by have q := nkD_eq (setD kvs x dy); rw [setD_keys, ← nkD_eq] at q; show (nkD (setD kvs x dy)).Nodup; rw [q]; exact c.2⟩ ?_, ?_, fun m hm => ?_, .non⟩
            · exact q4 _ F y dy Sa (fun _ x => x) hF (fun m hm => set_get (hne m (List.mem_append_left _ (hS m hm)))) ry2
            · have nS := (List.nodup_append.mp nd.2).1
              rw [q2] at nS
              have nS1 := List.nodup_append.mp nS
              have nS2 := List.nodup_append.mp nS1.1
              have dis := (List.nodup_append.mp nd.2).2.2
              rw [List.nodup_cons, List.nodup_append, List.nodup_append]
              refine ⟨fun hm => ?_, ⟨nS2.1, (List.nodup_append.mp nd.2).2.1, fun a ha b hb z => ?_⟩, nS1.2.1, fun a ha b hb z => ?_⟩
              · refine nd.1 ?_
                rcases List.mem_append.mp hm with hm | hm
                · rcases List.mem_append.mp hm with hm | hm
                  · exact List.mem_append_left _ (hS n (.inl hm))
                  · exact List.mem_append_right _ hm
                · exact List.mem_append_left _ (hS n (.inr hm))
              · subst z
                exact dis a (hS a (.inl ha)) a hb rfl
              · subst z
                rcases List.mem_append.mp ha with ha | ha
                · exact nS1.2.2 a (List.mem_append_left _ ha) a hb rfl
                · exact dis a (hS a (.inr hb)) a ha rfl
            · rcases List.mem_cons.mp hm with rfl | hm
              · exact .inl List.mem_cons_self
              · rcases List.mem_append.mp hm with hm | hm
                · rcases List.mem_append.mp hm with hm | hm
                  · exact .inl (List.mem_cons_of_mem _ (hS m (.inl hm)))
                  · exact .inr hm
                · exact .inl (List.mem_cons_of_mem _ (hS m (.inr hm)))
          | none =>
            have hv2 : hasD kvs x = false := by
              have := valU_ok (h := h) (G := fun n => F n ∨ n ∈ S) x c.1 (rs.frz (fun _ z => .inl z) fun _ z => .inr z)
              rw [hv] at this
              unfold hasD
              rw [this]
              rfl
            have eU : putU ks x y = ks ++ [(x, y)] := by
              unfold putU
              rw [hv]
              rfl
            have eD : putD kvs x dy = kvs ++ [(x, dy)] := by
              unfold putD
              rw [hv2]
              rfl
            rw [eU]
            rw [eD] at hset ry2
            rw [eD] at hF
            refine ⟨n, h.set n (.dic false (kvs ++ [(x, dy)])), .non, n :: (S ++ (Sa ++ [])), hset, List.length_set, fun m hm => set_get hm, List.mem_cons_self, RV.dic (set_same hn) ⟨by simp [c.1], ?_⟩ ?_, ?_, fun m hm => ?_, .non⟩
            · rw [List.map_append, List.nodup_append]
              refine ⟨c.2, by simp, fun a ha b hb z => ?_⟩
              simp at hb
              subst z hb
              rw [mem_val kvs x ha] at hv2
              cases hv2
            · rw [List.map_append, List.map_append]
              exact (RVs.mono (fun _ x => x) hF rs fun m hm => set_get (hne m (List.mem_append_left _ hm))).append (RVs.cons ry2 .nil)
            · rw [List.append_nil]
              exact List.nodup_cons.mpr ⟨nd.1, nd.2⟩
            · rw [List.append_nil] at hm
              rcases List.mem_cons.mp hm with rfl | hm
              · exact .inl List.mem_cons_self
              · exact (List.mem_append.mp hm).imp (List.mem_cons_of_mem _) id
      · cases e
    · cases e
  · cases e
end VV
set_option Elab.async false
set_option linter.all false
set_option maxRecDepth 100000
namespace VV
open PySem L2 DD
/-! ### an item is set -/
def vSetI (i : Nat) (ks : VA) (k : VE) (v : VE) : VS := fun e => (v e).bindS fun y e1 => match ks e1 with
  | .val kv e2 => (match k e2 with
    | .val x e3 => (match slot e3 i with
      | some u => match getP u kv with
        | some w => if flat x = true then (match uPut w [x, y] with
          | some (w', _) => .nx (e3.set i (some (setP u kv w')))
          | none => .stk) else .stk
        | none => .stk
      | none => .stk)
    | _ => .stk)
  | _ => .stk
section
variable {ps : List Nat} {rm : Md} {dl dp : Nat → Nat} {io : List Nat} {i n j : Nat} {o mk mv : ME} {ks : VA} {vk vv : VE}
theorem ss_setI (pd : Pd ps dp) (hi : i ∉ io) (hd : dp i = n + (j + 1)) (ho : OP dp io i n o ks) (hk : SE dp io .fz mk vk) (hv : SE dp io (.fr j) mv vv) : SS ps rm dl dp dp (sAsg mv (gSubM o mk)) (vSetI i ks vk vv) := fun b0 F S h ve env gd lw hb =>
  PoE.bindS0 pd lw hb (hv F S h ve env gd) fun y dy F1 S1 h1 ve1 Sr e1 t1 r1 s1 => by
    have p1 := ho F1 S1 h1 ve1 env e1.gd
    revert p1
    cases ks ve1 with
    | exc x e => exact fun _ => trivial
    | stk => exact fun _ => trivial
    | val kv ve2 =>
      rintro ⟨d, h2, F2, S2, Tr, z, e2, t2, _, di, kd, ei, rk, hl, hp⟩
      dsimp only
      have p2 := hk F2 S2 h2 ve2 env e2.gd
      revert p2
      cases vk ve2 with
      | exc x e => exact fun _ => trivial
      | stk => exact fun _ => trivial
      | val x ve3 =>
        rintro ⟨dx, h3, F3, S3, Vr, z3, e3, t3, rx, _⟩
        dsimp only
        cases zs : slot ve3 i with
        | none => trivial
        | some u =>
          dsimp only
          cases hg : getP u kv with
          | none => trivial
          | some w =>
            dsimp only
            split
            · rename_i hfx
              cases zp : uPut w [x, y] with
              | none => trivial
              | some wr =>
                obtain ⟨w', r⟩ := wr
                dsimp only
                have e13 := e1.trans (e2.trans e3)
                have ry : RV h3 F3 j Sr y dy := RM.keep (md := .fr j) e1.gd (e2.trans e3) t1 r1
                have tr := t1.keep (e2.trans e3)
                have hF : ∀ m, F2 m → h3[m]? = h2[m]? := fun m x => e3.fr m (e2.gd.fb m x) fun k _ q => e2.gd.nf k m q x
                have hp3 : getPD h3 di kd = some d := by
                  have hu : ve2[i]? = some (some u) := by
                    have := (e3.st i hi).2
                    rw [slot_some zs] at this
                    exact this.symm
                  obtain ⟨d2, e5, ru⟩ := e2.gd.get i u hu
                  rw [ei] at e5
                  cases e5
                  have hk2 : dp i = kv.length + (j + 1) := by rw [hl]; exact hd
                  rw [hk2] at ru
                  obtain ⟨e, A, Tw, B, w1, w2, _, _⟩ := way rk ru hg
                  have w5 := w1 h2 fun _ _ => rfl
                  rw [hp] at w5
                  cases w5
                  have hA : ∀ m ∈ A, m ∈ S2 i := fun m hm => by
                    rw [w2]
                    exact List.mem_append_left _ (List.mem_append_left _ hm)
                  exact w1 h3 fun m hm => e3.fr m (e2.gd.bd i m (hA m hm)) fun k hk2 q => hi (by rw [e2.gd.dj i k m (hA m hm) q]; exact hk2)
                have ra : RVs h3 F3 j Sr [x, y] [dx, dy] := by
                  have := RVs.cons (rx.rv j hfx) (RVs.cons ry .nil)
                  simpa using this
                obtain ⟨h4, r', S4, y1, y2, y3⟩ := mut_go (mo_put j) hd e13 ei (rk.mono e3.ff hF) hl hp3 zs hg ra tr zp
                have hset : toOut (gSubM o mk dy env h1) = .nx env h4 := by
                  simp only [gSubM, z, z3]
                  simp only [setF] at y1
                  cases q : pySet d dx dy h3 with
                  | none =>
                    rw [q] at y1
                    cases y1
                  | some h5 =>
                    rw [q] at y1
                    cases y1
                    rfl
                rw [hset]
                exact ⟨env, h4, F3, S4, rfl, y2.sp lw hb⟩
            · trivial
end
/-! ### comprehensions -/
def wipeU (e : UE) : List Nat → UE
  | [] => e
  | v :: vs => (wipeU e vs).set v none
def backU (e0 : UE) : List Nat → UE → UE
  | [], e => e
  | v :: vs, e => (backU e0 vs e).set v (e0.getD v none)
def lcVT (t : VTg) (c : VT) (x : VE) (own : List Nat) (u : U) (acc : List U) (e : UE) : ER (List U) := match t u e with
  | none => .stk
  | some e1 => match c e1 with
    | .val true e2 => (match x e2 with
      | .val y e3 => if acc.length < sizeLine then .val (acc ++ [y]) (wipeU e3 own) else .stk
      | _ => .stk)
    | .val false e2 => .val acc (wipeU e2 own)
    | _ => .stk
def lcV (t : VTg) (c : VT) (x : VE) (own : List Nat) : List U → List U → UE → ER (List U)
  | [], acc, e => .val acc e
  | u :: us, acc, e => match lcVT t c x own u acc e with
    | .val acc' e' => lcV t c x own us acc' e'
    | _ => .stk
def vLc (it : VI) (t : VTg) (c : VT) (x : VE) (own : List Nat) : VE := fun e => (it e).bind fun us e1 => match lcV t c x own us [] (wipeU e1 own) with
  | .val ys e2 => .val (.lst ys) (backU e1 own e2)
  | _ => .stk
theorem wipeU_len (e : UE) : ∀ vs, (wipeU e vs).length = e.length
  | [] => rfl
  | v :: vs => by rw [wipeU, List.length_set, wipeU_len e vs]
theorem wipeE_len (e : En) : ∀ vs, (wipeE e vs).length = e.length
  | [] => rfl
  | v :: vs => by rw [wipeE, List.length_set, wipeE_len e vs]
theorem wipeU_get (e : UE) (i : Nat) : ∀ vs : List Nat, (wipeU e vs)[i]? = if i ∈ vs then (if i < e.length then some none else none) else e[i]?
  | [] => by simp [wipeU]
  | v :: vs => by
    rw [wipeU, List.getElem?_set, wipeU_get e i vs, wipeU_len]
    by_cases h : v = i
    · subst h
      simp
    · rw [if_neg h]
      have : (i ∈ v :: vs) ↔ i ∈ vs := by
        rw [List.mem_cons]
        exact ⟨fun z => z.elim (fun z => absurd z.symm h) id, .inr⟩
      simp only [this]
theorem wipeE_get (e : En) (i : Nat) : ∀ vs : List Nat, (wipeE e vs)[i]? = if i ∈ vs then (if i < e.length then some none else none) else e[i]?
  | [] => by simp [wipeE]
  | v :: vs => by
    rw [wipeE, List.getElem?_set, wipeE_get e i vs, wipeE_len]
    by_cases h : v = i
    · subst h
      simp
    · rw [if_neg h]
      have : (i ∈ v :: vs) ↔ i ∈ vs := by
        rw [List.mem_cons]
        exact ⟨fun z => z.elim (fun z => absurd z.symm h) id, .inr⟩
      simp only [this]
theorem backU_len (e0 : UE) (e : UE) : ∀ vs, (backU e0 vs e).length = e.length
  | [] => rfl
  | v :: vs => by rw [backU, List.length_set, backU_len e0 e vs]
theorem backU_get (e0 e : UE) (i : Nat) : ∀ vs : List Nat, (backU e0 vs e)[i]? = if i ∈ vs then (if i < e.length then some (e0.getD i none) else none) else e[i]?
  | [] => by simp [backU]
  | v :: vs => by
    rw [backU, List.getElem?_set, backU_get e0 e i vs, backU_len]
    by_cases h : v = i
    · subst h
      simp
    · rw [if_neg h]
      have : (i ∈ v :: vs) ↔ i ∈ vs := by
        rw [List.mem_cons]
        exact ⟨fun z => z.elim (fun z => absurd z.symm h) id, .inr⟩
      simp only [this]
section
variable {dp : Nat → Nat} {io own ts : List Nat} {k : Nat} {g : MTg} {t : VTg} {mc : MT} {vc : VT} {mx : ME} {vx : VE} {F F' : Nat → Prop} {S S' : Nat → List Nat} {h h' : IH} {ve ve' : UE} {env env1 : En}
/-- slots are wiped -/
theorem Gd.wipe (gd : Gd dp F S h ve env) (own : List Nat) : Gd dp F (fun i => if i ∈ own then [] else S i) h (wipeU ve own) (wipeE env own) := by
  refine ⟨by rw [wipeU_len, wipeE_len]; exact gd.len, fun i u e => ?_, fun i => ?_, fun i j n hi hj => ?_, fun i n hi => ?_, fun i n hi => ?_, gd.fb⟩
  · rw [wipeU_get] at e
    rw [wipeE_get]
    split at e
    · split at e <;> cases e
    · rename_i z
      rw [if_neg z, if_neg z]
      exact gd.get i u e
  · split
    · exact List.nodup_nil
    · exact gd.nd i
  · split at hi
    · cases hi
    · split at hj
      · cases hj
      · exact gd.dj i j n hi hj
  · split at hi
    · cases hi
    · exact gd.nf i n hi
  · split at hi
    · cases hi
    · exact gd.bd i n hi
theorem lc_turn {u : U} {d : D} {acc : List U} {dacc : List D} {Sacc : List Nat} {lo : Nat} (ht : SG dp ts g t) (hts : ∀ i ∈ ts, i ∈ own) (hio : ∀ i ∈ own, i ∉ io) (hc : SB dp io mc vc) (hx : SE dp io (.fr k) mx vx) (gd : Gd dp F S h ve env) (hS : ∀ i ∈ own, S i = []) (hw : ∀ i ∈ own, ve[i]? = if i < ve.length then some none else none)
    (r : RF h F u d) (ra : RVs h F k Sacc acc dacc) (ta : Tm F S lo h Sacc) (hlo : lo ≤ h.length) : match lcVT t vc vx own u acc ve with
    | .val acc' ve' => ∃ dacc' h' F' S' Sacc', lcT g mc mx env d dacc h = .val dacc' h' ∧ EP dp io F S h ve env F' S' h' ve' ∧ (∀ i ∈ own, S' i = []) ∧ (∀ i ∈ own, ve'[i]? = if i < ve'.length then some none else none) ∧ RVs h' F' k Sacc' acc' dacc' ∧ Tm F' S' lo h' Sacc'
    | _ => True := by
  -- the end of a turn: the own slots are wiped
  have fin : ∀ {F1 : Nat → Prop} {S1 S0 : Nat → List Nat} {h1 : IH} {e0 e1 : UE} {env1 : En}, GP dp ts F S h ve env S0 e0 env1 → EP dp io F S0 h e0 env1 F1 S1 h1 e1 → EP dp io F S h ve env F1 (fun i => if i ∈ own then [] else S1 i) h1 (wipeU e1 own) ∧ (∀ i ∈ own, (wipeU e1 own)[i]? = if i < (wipeU e1 own).length then some none else none) := by
    intro F1 S1 S0 h1 e0 e1 env1 p e
    have l1 : e1.length = ve.length := by
      rw [e.gd.len, ← p.gd.len, p.ln]
    have h0 : ∀ i, i ∉ own → S0 i = S i := fun i hi => (p.st i fun z => hi (hts i z)).1
    have h0' : ∀ i n, n ∈ S0 i → n ∈ S i := fun i n hn => by
      rcases p.so i with z | z
      · rw [← z]
        exact hn
      · rw [z] at hn
        cases hn
    refine ⟨⟨⟨?_, fun i u ei => ?_, fun i => ?_, fun i j n hi hj => ?_, fun i n hi => ?_, fun i n hi => ?_, e.gd.fb⟩, fun i hi => ?_, e.ff, fun n x => (e.fn n x).imp id fun z => z.imp id fun ⟨i, q1, q2⟩ => ⟨i, q1, h0' i n q2⟩, e.hl, fun n hn hs => e.fr n hn fun i hi z => hs i hi (h0' i n z), fun i n hi => ?_⟩, fun i hi => ?_⟩
    · rw [wipeU_len, l1]
      exact gd.len
    · rw [wipeU_get] at ei
      split at ei
      · split at ei <;> cases ei
      · rename_i z
        rw [if_neg z]
        obtain ⟨d, e2, r2⟩ := e.gd.get i u ei
        exact ⟨d, by rw [← (p.st i fun q => z (hts i q)).2.1]; exact e2, r2⟩
    · split
      · exact List.nodup_nil
      · exact e.gd.nd i
    · split at hi
      · cases hi
      · split at hj
        · cases hj
        · exact e.gd.dj i j n hi hj
    · split at hi
      · cases hi
      · exact e.gd.nf i n hi
    · split at hi
      · cases hi
      · exact e.gd.bd i n hi
    · by_cases z : i ∈ own
      · refine ⟨by rw [if_pos z, hS i z], ?_⟩
        rw [wipeU_get, if_pos z, hw i z, l1]
      · obtain ⟨q1, q2⟩ := e.st i hi
        refine ⟨by rw [if_neg z, q1, h0 i z], ?_⟩
        rw [wipeU_get, if_neg z, q2]
        exact (p.st i fun q => z (hts i q)).2.2
    · split at hi
      · cases hi
      · exact (e.sn i n hi).imp (h0' i n) id
    · rw [wipeU_get, if_pos hi, wipeU_len]
  unfold lcVT lcT
  have z := ht F S h ve env u d gd r
  revert z
  cases t u ve with
  | none => exact fun _ => trivial
  | some e1 =>
    rintro ⟨env1, S1, z, p⟩
    rw [z]
    dsimp only
    have ta1 : Tm F S1 lo h Sacc := ⟨ta.nd, ta.lo, ta.bd, ta.nf, fun n hn i x => by
      rcases p.so i with z | z
      · rw [z] at x
        exact ta.ns n hn i x
      · rw [z] at x
        cases x⟩
    have z := hc F S1 h e1 env1 p.gd
    revert z
    cases vc e1 with
    | exc x e => exact fun _ => trivial
    | stk => exact fun _ => trivial
    | val b e2 =>
      rintro ⟨b', h2, F2, S2, Sr, z, p2, t2, rb⟩
      have rb : b = b' := rb
      subst rb
      rw [z]
      have k2 := RVs.mono p2.ff (fun n x => p2.fr n (p.gd.fb n x) fun i _ z => p.gd.nf i n z x) ra fun n hn => p2.fr n (ta1.bd n hn) fun i _ => ta1.ns n hn i
      have ta2 := ta1.keep p2
      cases b with
      | false =>
        obtain ⟨f1, f2⟩ := fin p p2
        exact ⟨dacc, h2, F2, _, Sacc, rfl, f1, fun i hi => if_pos hi, f2, k2, ⟨ta2.nd, ta2.lo, ta2.bd, ta2.nf, fun n hn i x => by
          split at x
          · cases x
          · exact ta2.ns n hn i x⟩⟩
      | true =>
        dsimp only
        have z := hx F2 S2 h2 e2 env1 p2.gd
        revert z
        cases vx e2 with
        | exc x e => exact fun _ => trivial
        | stk => exact fun _ => trivial
        | val y e3 =>
          rintro ⟨dy, h3, F3, S3, Sy, z, p3, t3, ry⟩
          rw [z]
          dsimp only
          by_cases hl : acc.length < sizeLine
          · rw [if_pos hl, if_pos (by rw [← ra.length]; exact hl)]
            have k3 := RVs.mono p3.ff (fun n x => p3.fr n (p2.gd.fb n x) fun i _ z => p2.gd.nf i n z x) k2 fun n hn => p3.fr n (ta2.bd n hn) fun i _ => ta2.ns n hn i
            have ta3 := ta2.keep p3
            have tall : Tm F3 S3 lo h3 (Sacc ++ (Sy ++ [])) := by
              rw [List.append_nil]
              exact ta3.append (t3.low (Nat.le_trans hlo p2.hl)) fun n h1 h2 => absurd (ta2.bd n h1) (Nat.not_lt.mpr (t3.lo n h2))
            obtain ⟨f1, f2⟩ := fin p (p2.trans p3)
            exact ⟨_, h3, F3, _, _, rfl, f1, fun i hi => if_pos hi, f2, k3.append (RVs.cons ry .nil), ⟨tall.nd, tall.lo, tall.bd, tall.nf, fun n hn i x => by
              split at x
              · cases x
              · exact tall.ns n hn i x⟩⟩
          · rw [if_neg hl]
            trivial
theorem lcS_ok (ht : SG dp ts g t) (hts : ∀ i ∈ ts, i ∈ own) (hio : ∀ i ∈ own, i ∉ io) (hc : SB dp io mc vc) (hx : SE dp io (.fr k) mx vx) : ∀ {us : List U} {ds : List D} {F : Nat → Prop} {S : Nat → List Nat} {h : IH} {ve : UE} {acc : List U} {dacc : List D} {Sacc : List Nat} {lo : Nat}, Gd dp F S h ve env → (∀ i ∈ own, S i = []) → (∀ i ∈ own, ve[i]? = if i < ve.length then some none else none) →
    RFs h F us ds → RVs h F k Sacc acc dacc → Tm F S lo h Sacc → lo ≤ h.length → match lcV t vc vx own us acc ve with
    | .val acc' ve' => ∃ dacc' h' F' S' Sacc', lcS g mc mx env ds dacc h = .val dacc' h' ∧ EP dp io F S h ve env F' S' h' ve' ∧ RVs h' F' k Sacc' acc' dacc' ∧ Tm F' S' lo h' Sacc'
    | _ => True
  | _, _, F, S, h, ve, acc, dacc, Sacc, lo, gd, hS, hw, .nil, ra, ta, hlo => ⟨dacc, h, F, S, Sacc, rfl, .refl gd, ra, ta⟩
  | _, _, F, S, h, ve, acc, dacc, Sacc, lo, gd, hS, hw, .cons (u := u) (d := d) a b, ra, ta, hlo => by
    have z := lc_turn ht hts hio hc hx gd hS hw a ra ta hlo
    unfold lcV lcS
    revert z
    cases lcVT t vc vx own u acc ve with
    | exc x e => exact fun _ => trivial
    | stk => exact fun _ => trivial
    | val acc1 ve1 =>
      rintro ⟨dacc1, h1, F1, S1, Sacc1, z, e1, hS1, hw1, ra1, ta1⟩
      rw [z]
      dsimp only
      have hF : ∀ m, F m → h1[m]? = h[m]? := fun m x => e1.fr m (gd.fb m x) fun k _ q => gd.nf k m q x
      have z := lcS_ok ht hts hio hc hx e1.gd hS1 hw1 (b.mono e1.ff hF) ra1 ta1 (Nat.le_trans hlo e1.hl)
      revert z
      split
      · rintro ⟨dacc2, h2, F2, S2, Sacc2, z, e2, ra2, ta2⟩
        exact ⟨dacc2, h2, F2, S2, Sacc2, z, e1.trans e2, ra2, ta2⟩
      · exact fun _ => trivial
theorem lcL_ok {get : IH → Option (List D)} (ht : SG dp ts g t) (hts : ∀ i ∈ ts, i ∈ own) (hio : ∀ i ∈ own, i ∉ io) (hc : SB dp io mc vc) (hx : SE dp io (.fr k) mx vx) : ∀ (n i : Nat) {us : List U} {F : Nat → Prop} {S : Nat → List Nat} {h : IH} {ve : UE} {acc : List U} {dacc : List D} {Sacc : List Nat} {lo : Nat}, Gd dp F S h ve env → (∀ i ∈ own, S i = []) → (∀ i ∈ own, ve[i]? = if i < ve.length then some none else none) →
    (∀ h' : IH, (∀ n, F n → h'[n]? = h[n]?) → ∃ ds, get h' = some ds ∧ RFs h F us ds) → us.length < n + i → i ≤ us.length → RVs h F k Sacc acc dacc → Tm F S lo h Sacc → lo ≤ h.length → match lcV t vc vx own (us.drop i) acc ve with
    | .val acc' ve' => ∃ dacc' h' F' S' Sacc', lcL get g mc mx env n i dacc h = .val dacc' h' ∧ EP dp io F S h ve env F' S' h' ve' ∧ RVs h' F' k Sacc' acc' dacc' ∧ Tm F' S' lo h' Sacc'
    | _ => True
  | 0, i, us, F, S, h, ve, acc, dacc, Sacc, lo, gd, hS, hw, hg, hn, hi, ra, ta, hlo => by omega
  | n + 1, i, us, F, S, h, ve, acc, dacc, Sacc, lo, gd, hS, hw, hg, hn, hi, ra, ta, hlo => by
    obtain ⟨ds, e, r⟩ := hg h fun _ _ => rfl
    unfold lcL
    rw [e]
    dsimp only
    by_cases hlt : i < us.length
    · obtain ⟨d, e1, r1⟩ := r.get (List.getElem?_eq_getElem hlt)
      rw [e1, List.drop_eq_getElem_cons hlt]
      have z := lc_turn ht hts hio hc hx gd hS hw r1 ra ta hlo
      unfold lcV
      dsimp only
      revert z
      cases lcVT t vc vx own us[i] acc ve with
      | exc x e => exact fun _ => trivial
      | stk => exact fun _ => trivial
      | val acc1 ve1 =>
        rintro ⟨dacc1, h1, F1, S1, Sacc1, z, e1, hS1, hw1, ra1, ta1⟩
        rw [z]
        dsimp only
        have hF : ∀ m, F m → h1[m]? = h[m]? := fun m x => e1.fr m (gd.fb m x) fun k _ q => gd.nf k m q x
        have z := lcL_ok ht hts hio hc hx n (i + 1) (us := us) e1.gd hS1 hw1 (fun h2 hk => by
          obtain ⟨ds2, e2, r2⟩ := hg h2 fun n x => (hk n (e1.ff n x)).trans (hF n x)
          exact ⟨ds2, e2, r2.mono e1.ff hF⟩) (by omega) (by omega) ra1 ta1 (Nat.le_trans hlo e1.hl)
        revert z
        split
        · rintro ⟨dacc2, h2, F2, S2, Sacc2, z, e2, ra2, ta2⟩
          exact ⟨dacc2, h2, F2, S2, Sacc2, z, e1.trans e2, ra2, ta2⟩
        · exact fun _ => trivial
    · rw [List.drop_eq_nil_of_le (by omega), List.getElem?_eq_none (by rw [← r.length]; omega)]
      exact ⟨dacc, h, F, S, Sacc, rfl, .refl gd, ra, ta⟩
theorem lcRun_ok {us : List U} {s : Src} (ht : SG dp ts g t) (hts : ∀ i ∈ ts, i ∈ own) (hio : ∀ i ∈ own, i ∉ io) (hc : SB dp io mc vc) (hx : SE dp io (.fr k) mx vx) (gd : Gd dp F S h ve env) (hS : ∀ i ∈ own, S i = []) (hw : ∀ i ∈ own, ve[i]? = if i < ve.length then some none else none) {Sr : List Nat} (r : RI F S' h Sr us s) :
    match lcV t vc vx own us [] ve with
    | .val ys ve' => ∃ dys h' F' S2 Sy, lcRun g mc mx env s h = .val dys h' ∧ EP dp io F S h ve env F' S2 h' ve' ∧ RVs h' F' k Sy ys dys ∧ Tm F' S2 h.length h' Sy
    | _ => True := by
  cases s with
  | st ds => exact lcS_ok ht hts hio hc hx gd hS hw r .nil .nil (Nat.le_refl _)
  | lv get =>
    obtain ⟨ds, e, rr⟩ := r h fun _ _ => rfl
    have := lcL_ok (us := us) (acc := []) (dacc := []) ht hts hio hc hx (ds.length + 1) 0 gd hS hw r (by rw [rr.length]; omega) (Nat.zero_le _) .nil .nil (Nat.le_refl h.length)
    rw [List.drop_zero] at this
    simp only [lcRun, e]
    exact this
theorem se_lc {mi : MI} {vi : VI} (hi : SI dp io mi vi) (ht : SG dp ts g t) (hc : SB dp io mc vc) (hx : SE dp io (.fr k) mx vx) (hts : ∀ i ∈ ts, i ∈ own) (hio : ∀ i ∈ own, i ∉ io) : SE dp io (.fr (k + 1)) (mLc mi g mc mx own) (vLc vi t vc vx own) := fun F S h ve env gd =>
  (hi F S h ve env gd).bind fun us s F1 S1 h1 ve1 Sr e1 t1 r1 => by
    have z := lcRun_ok (S' := S1) ht hts hio hc hx (e1.gd.wipe own) (fun i hi => if_pos hi) (fun i hi => by rw [wipeU_get, if_pos hi, wipeU_len]) r1
    revert z
    cases lcV t vc vx own us [] (wipeU ve1 own) with
    | exc x e => exact fun _ => trivial
    | stk => exact fun _ => trivial
    | val ys ve2 =>
      rintro ⟨dys, h2, F2, S2, Sy, z, e2, ry, ty⟩
      rw [z]
      simp only [Res.bind]
      have hlen : ve2.length = ve1.length := by
        rw [e2.gd.len, wipeE_len, e1.gd.len]
      have hsn : ∀ i n, n ∈ S2 i → i ∉ own → n ∈ S1 i ∨ h1.length ≤ n := fun i n hn ho => by
        rcases e2.sn i n hn with q | q
        · rw [if_neg ho] at q
          exact .inl q
        · exact .inr q
      have hout : ∀ i j n, i ∈ own → n ∈ S1 i → j ∉ own → n ∉ S2 j := fun i j n hi hn hj hm => by
        rcases hsn j n hm hj with q | q
        · exact hj (by rw [← e1.gd.dj i j n hn q]; exact hi)
        · have := e1.gd.bd i n hn
          omega
      have hown : ∀ i n, i ∈ own → n ∈ S1 i → h2[n]? = h1[n]? := fun i n hi hn => e2.fr n (e1.gd.bd i n hn) fun j hj q => by
        split at q
        · cases q
        · rename_i z
          exact z (by rw [← e1.gd.dj i j n hn q]; exact hi)
      have hF1 : ∀ n, F1 n → h2[n]? = h1[n]? := fun n x => e2.fr n (e1.gd.fb n x) fun j hj q => by
        split at q
        · cases q
        · exact e1.gd.nf j n q x
      have e3 : EP dp io F1 S1 h1 ve1 env F2 (fun i => if i ∈ own then S1 i else S2 i) h2 (backU ve1 own ve2) := by
        refine ⟨⟨?_, fun i u ei => ?_, fun i => ?_, fun i j n hi hj => ?_, fun i n hi => ?_, fun i n hi => ?_, e2.gd.fb⟩, fun i hi => ?_, e2.ff, fun n x => (e2.fn n x).imp id fun z => z.imp id fun ⟨i, q1, q2⟩ => ⟨i, q1, by split at q2 <;> first | exact q2 | cases q2⟩, e2.hl, fun n hn hs => e2.fr n hn fun i hi q => ?_, fun i n hi => ?_⟩
        · rw [backU_len, hlen]
          exact e1.gd.len
        · rw [backU_get] at ei
          by_cases ho : i ∈ own
          · rw [if_pos ho] at ei ⊢
            split at ei
            · injection ei with ei
              have ei2 : ve1[i]? = some (some u) := by
                rw [List.getD_eq_getElem?_getD] at ei
                cases q : ve1[i]? with
                | none =>
                  rw [q] at ei
                  cases ei
                | some o =>
                  rw [q] at ei
                  rw [show o = some u from ei]
              obtain ⟨d, q1, q2⟩ := e1.gd.get i u ei2
              exact ⟨d, q1, q2.mono e2.ff hF1 fun n hn => hown i n ho hn⟩
            · cases ei
          · rw [if_neg ho] at ei ⊢
            obtain ⟨d, q1, q2⟩ := e2.gd.get i u ei
            rw [wipeE_get, if_neg ho] at q1
            exact ⟨d, q1, q2⟩
        · split
          · exact e1.gd.nd i
          · exact e2.gd.nd i
        · split at hi <;> split at hj
          · exact e1.gd.dj i j n hi hj
          · rename_i a b
            exact absurd hj (hout i j n a hi b)
          · rename_i a b
            exact absurd hi (hout j i n b hj a)
          · exact e2.gd.dj i j n hi hj
        · split at hi
          · intro x
            rcases e2.fn n x with q | q | ⟨j, hj, q⟩
            · exact e1.gd.nf i n hi q
            · have := e1.gd.bd i n hi
              omega
            · split at q
              · cases q
              · rename_i a b
                exact b (by rw [← e1.gd.dj i j n hi q]; exact a)
          · exact e2.gd.nf i n hi
        · split at hi
          · exact Nat.lt_of_lt_of_le (e1.gd.bd i n hi) e2.hl
          · exact e2.gd.bd i n hi
        · by_cases ho : i ∈ own
          · refine ⟨if_pos ho, ?_⟩
            rw [backU_get, if_pos ho, hlen]
            by_cases hl : i < ve1.length
            · rw [if_pos hl, List.getD_eq_getElem?_getD, List.getElem?_eq_getElem hl]
              rfl
            · rw [if_neg hl, List.getElem?_eq_none (by omega)]
          · obtain ⟨q1, q2⟩ := e2.st i hi
            refine ⟨by rw [if_neg ho, q1, if_neg ho], ?_⟩
            rw [backU_get, if_neg ho, q2, wipeU_get, if_neg ho]
        · split at q
          · cases q
          · exact hs i hi q
        · split at hi
          · exact .inl hi
          · rename_i ho
            exact hsn i n hi ho
      have ty2 : Tm F2 (fun i => if i ∈ own then S1 i else S2 i) h1.length h2 Sy := ⟨ty.nd, ty.lo, ty.bd, ty.nf, fun n hn i q => by
        split at q
        · have := e1.gd.bd i n q
          have := ty.lo n hn
          omega
        · exact ty.ns n hn i q⟩
      have e4 := EP.grow (io := io) e3.gd [.lst dys] (fun _ x => x) (fun _ x => .inl x)
      refine ⟨_, _, F2, _, h2.length :: Sy, rfl, e3.trans e4, ?_, RV.ref (last_new h2 _) (RVs.mono (fun _ x => x) (fun n x => List.getElem?_append_left (e3.gd.fb n x)) ry fun n hn => List.getElem?_append_left (ty.bd n hn))⟩
      refine ⟨List.nodup_cons.mpr ⟨fun hm => absurd (ty.bd _ hm) (Nat.lt_irrefl _), ty.nd⟩, fun n hn => ?_, fun n hn => ?_, fun n hn x => ?_, fun n hn i x => ?_⟩
      · rcases List.mem_cons.mp hn with rfl | hn
        · exact Nat.le_trans e1.hl e3.hl
        · exact Nat.le_trans e1.hl (ty.lo n hn)
      · rw [List.length_append, List.length_singleton]
        rcases List.mem_cons.mp hn with rfl | hn
        · omega
        · have := ty.bd n hn
          omega
      · rcases List.mem_cons.mp hn with rfl | hn
        · exact absurd (e3.gd.fb _ x) (Nat.lt_irrefl _)
        · exact ty.nf n hn x
      · rcases List.mem_cons.mp hn with rfl | hn
        · exact absurd (e3.gd.bd _ _ x) (Nat.lt_irrefl _)
        · exact ty2.ns n hn i x
end
end VV
set_option Elab.async false
set_option linter.all false
set_option maxRecDepth 100000
namespace VV
open PySem L2 DD
/-! ### functions -/
inductive FR where
  | val (u : U) (outs : UE) | exc (x : XU) (outs : UE) | stk
abbrev VF := List U → FR
def vBody (n p : Nat) (b : VS) : VF := fun us => match b (us.map some ++ List.replicate (n - us.length) none) with
  | .nx e => .val .non (e.take p)
  | .rt u e => .val u (e.take p)
  | .exc x e => .exc x (e.take p)
  | _ => .stk
structure FP (ps : List Nat) (F : Nat → Prop) (S : Nat → List Nat) (h : IH) (ds : List D) (F' : Nat → Prop) (S' : Nat → List Nat) (h' : IH) (outs : UE) : Prop where
  gd : Gd (dpOf ps) F' S' h' outs ((ds.take ps.length).map some)
  ff : ∀ n, F n → F' n
  fn : ∀ n, F' n → F n ∨ h.length ≤ n ∨ ∃ i, n ∈ S i
  hl : h.length ≤ h'.length
  fr : ∀ n, n < h.length → (∀ i, n ∉ S i) → h'[n]? = h[n]?
  sn : ∀ i n, n ∈ S' i → h.length ≤ n ∨ n ∈ S i
def SF (ps : List Nat) (rm : Md) (m : List D → IH → Res D) (v : VF) : Prop := ∀ F S h us ds, Gd (dpOf ps) F S h (us.map some) (ds.map some) → ps.length ≤ us.length → (∀ i, ps.length ≤ i → S i = []) → match v us with
  | .val u outs => ∃ d h' F' S' Sr, m ds h = .val d h' ∧ FP ps F S h ds F' S' h' outs ∧ Tm F' S' h.length h' Sr ∧ RM [] F' S' h' Sr u d rm
  | .exc x outs => ∃ y h' F' S', m ds h = .exc y h' ∧ FP ps F S h ds F' S' h' outs ∧ RX h' F' x y
  | .stk => True
section
variable {ps : List Nat} {rm : Md} {dl dp' : Nat → Nat} {m : MS} {v : VS}
theorem SP.fp {F F' : Nat → Prop} {S S' : Nat → List Nat} {h h' : IH} {us : List U} {ds : List D} {n : Nat} {ve' : UE} {env' : En} (s : SP ps h.length (dpOf ps) F S h (enOf n ds) F' S' h' ve' env') (hl : ps.length ≤ ds.length) (hS : ∀ i, ps.length ≤ i → S i = []) : FP ps F S h ds F' (fun i => if i < ps.length then S' i else []) h' (ve'.take ps.length) := by
  have he : ∀ i, i < ps.length → env'[i]? = (ds.map some)[i]? := fun i hi => by
    rw [s.ro i hi]
    unfold enOf
    rw [List.getElem?_append_left (by rw [List.length_map]; omega)]
  have hlen : ve'.length = env'.length := s.gd.len
  have hge : ps.length ≤ env'.length := by
    by_cases hp : ps.length = 0
    · omega
    · have := he (ps.length - 1) (by omega)
      have h2 : (ds.map some)[ps.length - 1]? ≠ none := by
        rw [Ne, List.getElem?_eq_none_iff, List.length_map]
        omega
      rw [← this] at h2
      have : ps.length - 1 < env'.length := by
        rcases Nat.lt_or_ge (ps.length - 1) env'.length with z | z
        · exact z
        · exact absurd (List.getElem?_eq_none z) h2
      omega
  refine ⟨⟨?_, fun i u e => ?_, fun i => ?_, fun i j n hi hj => ?_, fun i n hi => ?_, fun i n hi => ?_, s.gd.fb⟩, s.ff, s.fn, s.hl, s.fr, fun i n hi => ?_⟩
  · rw [List.length_take, List.length_map, List.length_take]
    omega
  · rw [List.getElem?_take] at e
    split at e
    · rename_i hi
      obtain ⟨d, e1, r⟩ := s.gd.get i u e
      rw [if_pos hi]
      refine ⟨d, ?_, r⟩
      rw [he i hi] at e1
      rw [List.map_take, List.getElem?_take, if_pos hi]
      exact e1
    · cases e
  · split
    · exact s.gd.nd i
    · exact List.nodup_nil
  · split at hi
    · split at hj
      · exact s.gd.dj i j n hi hj
      · cases hj
    · cases hi
  · split at hi
    · exact s.gd.nf i n hi
    · cases hi
  · split at hi
    · exact s.gd.bd i n hi
    · cases hi
  · split at hi
    · rcases s.sn i n hi with q | ⟨_, q⟩ | ⟨j, q1, q2⟩
      · exact .inl q
      · exact .inr q
      · rw [hS j q1] at q2
        cases q2
    · cases hi
theorem RM.free {io io' : List Nat} {F : Nat → Prop} {S S' : Nat → List Nat} {h : IH} {Sr : List Nat} {u : U} {d : D} (hm : rm ≠ .bor) (r : RM io F S h Sr u d rm) : RM io' F S' h Sr u d rm := by
  cases rm with
  | fl => exact r
  | fz => exact r
  | bor => exact absurd rfl hm
  | fr k => exact r
/-- THE RULE for a def -/
theorem sf_of (n : Nat) (hb : SS ps rm dl (dpOf ps) dp' m v) (pd : Pd ps dp') (hm : rm ≠ .bor) : SF ps rm (mBody n m) (vBody n ps.length v) := fun F S h us ds g hl hS => by
  have lend : us.length = ds.length := by
    have := g.len
    rwa [List.length_map, List.length_map] at this
  have g0 : Gd (dpOf ps) F S h (us.map some ++ List.replicate (n - us.length) none) (enOf n ds) := by
    refine ⟨?_, fun i u e => ?_, g.nd, g.dj, g.nf, g.bd, g.fb⟩
    · unfold enOf
      rw [List.length_append, List.length_append, List.length_map, List.length_map, List.length_replicate, List.length_replicate, lend]
    · by_cases hi : i < us.length
      · rw [List.getElem?_append_left (by rw [List.length_map]; exact hi)] at e
        obtain ⟨d, e1, r⟩ := g.get i u e
        refine ⟨d, ?_, r⟩
        unfold enOf
        rw [List.getElem?_append_left (by rw [List.length_map, ← lend]; exact hi)]
        exact e1
      · rw [List.getElem?_append_right (by rw [List.length_map]; omega), List.getElem?_replicate] at e
        split at e <;> cases e
  have z := hb h.length F S h _ _ g0 (fun i hi n hn => by
    rw [hS i hi] at hn
    cases hn) (Nat.le_refl _)
  unfold vBody mBody
  have tm : ∀ {F' : Nat → Prop} {S' : Nat → List Nat} {h' : IH} {Sr : List Nat}, Tm F' S' h.length h' Sr → Tm F' (fun i => if i < ps.length then S' i else []) h.length h' Sr := fun t => ⟨t.nd, t.lo, t.bd, t.nf, fun n hn i x => by
    split at x
    · exact t.ns n hn i x
    · cases x⟩
  revert z
  cases v (us.map some ++ List.replicate (n - us.length) none) with
  | nx e =>
    rintro ⟨e1, h1, F1, S1, z, s⟩
    rw [z]
    have s2 := s.weak pd
    refine ⟨.non, h1, _, _, [], rfl, s2.fp (us := us) (by omega) hS, .nil, ?_⟩
    cases rm with
    | fl => exact ⟨.non, rfl, rfl⟩
    | fz => exact ⟨.non, rfl⟩
    | bor => exact absurd rfl hm
    | fr k => exact RF.rv k .non rfl
  | rt u e =>
    rintro ⟨d, e1, h1, F1, S1, Sr, z, s, t, r⟩
    rw [z]
    exact ⟨d, h1, F1, _, Sr, rfl, s.fp (us := us) (by omega) hS, tm t, r.free hm⟩
  | exc x e =>
    rintro ⟨y, e1, h1, F1, S1, z, s, r⟩
    rw [z]
    exact ⟨y, h1, F1, _, rfl, s.fp (us := us) (by omega) hS, r⟩
  | bk e => exact fun _ => trivial
  | ct e => exact fun _ => trivial
  | stk => exact fun _ => trivial
end
/-! ### calls -/
def vCall0 (f : VF) (r : VA) : VE := fun e => (r e).bind fun us e1 => match f us with
  | .val u _ => .val u e1
  | .exc x _ => .exc x e1
  | .stk => .stk
def putO : List Nat → UE → UE → UE
  | j :: js, o :: outs, e => putO js outs (e.set j o)
  | _, _, e => e
def vCallN (f : VF) (js : List Nat) (r : VA) : VE := fun e => match mapO (slot e) js with
  | none => .stk
  | some _ => (r e).bind fun us e1 => match mapO (slot e1) js with
    | some ws => (match f (ws ++ us) with
      | .val u outs => .val u (putO js outs e1)
      | .exc x outs => .exc x (putO js outs e1)
      | .stk => .stk)
    | none => .stk
section
variable {dp : Nat → Nat} {io : List Nat} {rm : Md} {m : List D → IH → Res D} {f : VF} {mr : MA} {vr : VA}
theorem gd_args {F : Nat → Prop} {h : IH} {us : List U} {ds : List D} (r : RFs h F us ds) (fb : ∀ n, F n → n < h.length) : Gd (dpOf []) F (fun _ => []) h (us.map some) (ds.map some) := by
  refine ⟨by rw [List.length_map, List.length_map, r.length], fun i u e => ?_, fun _ => List.nodup_nil, (fun i j n hi => nomatch hi), (fun i n hi => nomatch hi), (fun i n hi => nomatch hi), fb⟩
  rw [List.getElem?_map] at e
  cases z : us[i]? with
  | none =>
    rw [z] at e
    cases e
  | some w =>
    rw [z] at e
    cases e
    obtain ⟨d, e1, r1⟩ := r.get z
    exact ⟨d, by rw [List.getElem?_map, e1]; rfl, .fz r1⟩
theorem se_call0 (hf : SF [] rm m f) (hm : rm ≠ .bor) (hr : SA dp io .fz mr vr) : SE dp io rm (mCall m mr) (vCall0 f vr) := fun F S h ve env gd =>
  (hr F S h ve env gd).bind fun us ds F1 S1 h1 ve1 Sr0 e1 t1 r1 => by
    have z := hf F1 (fun _ => []) h1 us ds (gd_args r1.1 e1.gd.fb) (Nat.zero_le _) fun _ _ => rfl
    have ep : ∀ {F' : Nat → Prop} {S' : Nat → List Nat} {h' : IH} {outs : UE}, FP [] F1 (fun _ => []) h1 ds F' S' h' outs → EP dp io F1 S1 h1 ve1 env F' S1 h' ve1 := by
      intro F' S' h' outs p
      have hk : ∀ n, n < h1.length → h'[n]? = h1[n]? := fun n hn => p.fr n hn fun i hi => by cases hi
      have hn : ∀ n, F' n → F1 n ∨ h1.length ≤ n := fun n x => by
        rcases p.fn n x with q | q | ⟨i, q⟩
        · exact .inl q
        · exact .inr q
        · cases q
      have hn2 : ∀ n, F' n → F1 n ∨ h1.length ≤ n ∨ ∃ i, i ∈ io ∧ n ∈ S1 i := fun n x => (hn n x).imp id .inl
      refine ⟨⟨e1.gd.len, fun i u e => ?_, e1.gd.nd, e1.gd.dj, fun i n hi x => ?_, fun i n hi => Nat.lt_of_lt_of_le (e1.gd.bd i n hi) p.hl, p.gd.fb⟩, fun _ _ => ⟨rfl, rfl⟩, p.ff, hn2, p.hl, fun n hn _ => hk n hn, fun _ _ x => .inl x⟩
      · obtain ⟨d, q1, q2⟩ := e1.gd.get i u e
        exact ⟨d, q1, q2.mono p.ff (fun n x => hk n (e1.gd.fb n x)) fun n hn => hk n (e1.gd.bd i n hn)⟩
      · rcases hn n x with q | q
        · exact e1.gd.nf i n hi q
        · have := e1.gd.bd i n hi
          omega
    revert z
    cases f us with
    | val u outs =>
      rintro ⟨d, h2, F2, S2, Sr, z, p, t, r⟩
      refine ⟨d, h2, F2, S1, Sr, z, ep p, ⟨t.nd, fun n hn => Nat.le_trans e1.hl (t.lo n hn), t.bd, t.nf, fun n hn i x => ?_⟩, r.free hm⟩
      have := e1.gd.bd i n x
      have := t.lo n hn
      omega
    | exc x outs =>
      rintro ⟨y, h2, F2, S2, z, p, r⟩
      exact ⟨y, h2, F2, S1, z, ep p, r⟩
    | stk => exact fun _ => trivial
def mIO : List Nat → MA → MA
  | [], r => r
  | j :: js, r => mCons (mVar j) (mIO js r)
theorem mapO_get {α β : Type} {f : α → Option β} : ∀ {xs : List α} {ys : List β} {i : Nat} {y : β}, mapO f xs = some ys → ys[i]? = some y → ∃ x, xs[i]? = some x ∧ f x = some y
  | [], _, i, y, e, q => by
    cases e
    simp at q
  | x :: xs, _, i, y, e, q => by
    obtain ⟨a, b, e1, e2, rfl⟩ := mapO_cons e
    cases i with
    | zero =>
      simp at q
      subst q
      exact ⟨x, rfl, e1⟩
    | succ i =>
      obtain ⟨x2, q1, q2⟩ := mapO_get (i := i) e2 (by simpa using q)
      exact ⟨x2, by simpa using q1, q2⟩
theorem mapO_len {α β : Type} {f : α → Option β} : ∀ {xs : List α} {ys : List β}, mapO f xs = some ys → ys.length = xs.length
  | [], _, e => by
    cases e
    rfl
  | x :: xs, _, e => by
    obtain ⟨a, b, e1, e2, rfl⟩ := mapO_cons e
    rw [List.length_cons, List.length_cons, mapO_len e2]
theorem mIO_val (env : En) (mr : MA) : ∀ {js : List Nat} {dj : List D} {h : IH}, mapO (fun j => match env[j]? with
    | some (some d) => some d
    | _ => none) js = some dj → mIO js mr env h = (mr env h).bind fun ds h1 => .val (dj ++ ds) h1
  | [], _, h, e => by
    cases e
    show mr env h = _
    cases mr env h <;> rfl
  | j :: js, _, h, e => by
    obtain ⟨a, b, e1, e2, rfl⟩ := mapO_cons e
    have ih := mIO_val env mr (h := h) e2
    unfold mIO mCons
    have : mVar j env h = .val a h := by
      unfold mVar
      split at e1
      · rename_i d q
        cases e1
        first | rfl | (rw [q]; done) | simp only [q]
      · cases e1
    simp only [this, Res.bind] at ih ⊢
    rw [ih]
    cases mr env h <;> rfl
theorem putO_len : ∀ (js : List Nat) (outs e : UE), (putO js outs e).length = e.length
  | [], _, _ => by simp [putO]
  | _ :: _, [], _ => rfl
  | j :: js, o :: outs, e => by rw [putO, putO_len js outs, List.length_set]
theorem putO_not : ∀ (js : List Nat) (outs e : UE) (i : Nat), i ∉ js → (putO js outs e)[i]? = e[i]?
  | [], _, _, _, _ => by simp [putO]
  | _ :: _, [], _, _, _ => rfl
  | j :: js, o :: outs, e, i, h => by
    rw [List.mem_cons] at h
    rw [putO, putO_not js outs _ i fun z => h (.inr z), List.getElem?_set_ne fun z => h (.inl z.symm)]
theorem putO_at : ∀ (js : List Nat) (outs e : UE) (k j : Nat) (o : Option U), js.Nodup → js[k]? = some j → outs[k]? = some o → j < e.length → (putO js outs e)[j]? = some o
  | [], _, _, k, j, o, _, h, _, _ => by simp at h
  | _ :: _, [], _, k, j, o, _, _, h, _ => by simp at h
  | i :: js, p :: outs, e, 0, j, o, nd, h1, h2, hl => by
    simp at h1 h2
    subst h1 h2
    rw [putO, putO_not js outs _ i (List.nodup_cons.mp nd).1, List.getElem?_set_self hl]
  | i :: js, p :: outs, e, k + 1, j, o, nd, h1, h2, hl => by
    rw [putO]
    exact putO_at js outs _ k j o (List.nodup_cons.mp nd).2 (by simpa using h1) (by simpa using h2) (by rw [List.length_set]; exact hl)
/-- a call that changes slots js of the caller -/
theorem se_callN (ps js : List Nat) (hf : SF ps rm m f) (hm : rm ≠ .bor) (hnd : js.Nodup) (hlen : js.length = ps.length) (hdp : ∀ k j, js[k]? = some j → dp j = dpOf ps k) (hio : ∀ j ∈ js, j ∈ io) (hr : SA dp io .fz mr vr) : SE dp io rm (mCall m (mIO js mr)) (vCallN f js vr) := fun F S h ve env gd => by
  unfold vCallN mCall
  cases hw0 : mapO (slot ve) js with
  | none => trivial
  | some ws0 =>
    dsimp only
    -- what stands in the slots
    have hdj : ∃ dj, mapO (fun j => match env[j]? with
        | some (some d) => some d
        | _ => none) js = some dj := by
      clear hnd hlen hdp hio
      induction js generalizing ws0 with
      | nil => exact ⟨[], rfl⟩
      | cons j js ih =>
        obtain ⟨a, b, e1, e2, rfl⟩ := mapO_cons hw0
        obtain ⟨dj, q⟩ := ih b e2
        obtain ⟨d, e3, _⟩ := gd.get j a (slot_some e1)
        exact ⟨d :: dj, mapO_cons' (by rw [e3]) q⟩
    obtain ⟨dj, hdj⟩ := hdj
    rw [mIO_val env mr hdj]
    have p0 := hr F S h ve env gd
    revert p0
    cases vr ve with
    | stk => exact fun _ => trivial
    | exc x e =>
      rintro ⟨y, h1, F1, S1, z, e1, rx⟩
      rw [z]
      exact ⟨y, h1, F1, S1, rfl, e1, rx⟩
    | val us ve1 =>
      rintro ⟨ds, h1, F1, S1, Sr0, z, e1, t1, r1, _⟩
      rw [z]
      simp only [ER.bind, Res.bind]
      cases hw : mapO (slot ve1) js with
      | none => trivial
      | some ws =>
        dsimp only
        have lw := mapO_len hw
        have ldj := mapO_len hdj
        have lus := r1.length
        -- the callee's view
        have g1 : Gd (dpOf ps) F1 (fun k => match js[k]? with
            | some j => S1 j
            | none => []) h1 ((ws ++ us).map some) ((dj ++ ds).map some) := by
          refine ⟨by simp [lw, ldj, lus], fun k u e => ?_, fun k => ?_, fun k l n hk hl => ?_, fun k n hk => ?_, fun k n hk => ?_, e1.gd.fb⟩
          · rw [List.getElem?_map] at e
            by_cases hk : k < js.length
            · rw [List.getElem?_append_left (by omega)] at e
              cases q : ws[k]? with
              | none =>
                rw [q] at e
                cases e
              | some w =>
                rw [q] at e
                cases e
                obtain ⟨j, q1, q2⟩ := mapO_get hw q
                obtain ⟨d, q3, q4⟩ := e1.gd.get j u (slot_some q2)
                have q5 : dj[k]? = some d := by
                  have hkd : k < dj.length := by omega
                  obtain ⟨j2, y1, y2⟩ := mapO_get hdj (List.getElem?_eq_getElem hkd)
                  rw [q1] at y1
                  cases y1
                  rw [q3] at y2
                  rw [List.getElem?_eq_getElem hkd]
                  exact y2.symm
                refine ⟨d, by rw [List.getElem?_map, List.getElem?_append_left (by omega), q5]; rfl, ?_⟩
                rw [q1, ← hdp k j q1]
                exact q4
            · rw [List.getElem?_append_right (by omega)] at e
              cases q : us[k - ws.length]? with
              | none =>
                rw [q] at e
                cases e
              | some w =>
                rw [q] at e
                cases e
                obtain ⟨d, q3, q4⟩ := r1.get q
                refine ⟨d, by rw [List.getElem?_map, List.getElem?_append_right (by omega), ldj, ← lw, q3]; rfl, ?_⟩
                have h0 : dpOf ps k = 0 := by
                  unfold dpOf
                  rw [List.getD_eq_getElem?_getD, List.getElem?_eq_none (by omega)]
                  rfl
                rw [h0, List.getElem?_eq_none (by omega)]
                exact .fz q4
          · cases js[k]? with
            | none => exact List.nodup_nil
            | some j => exact e1.gd.nd j
          · cases qk : js[k]? with
            | none =>
              rw [qk] at hk
              cases hk
            | some a =>
              cases ql : js[l]? with
              | none =>
                rw [ql] at hl
                cases hl
              | some b =>
                rw [qk] at hk
                rw [ql] at hl
                have := e1.gd.dj a b n hk hl
                subst this
                obtain ⟨l1, y1⟩ := List.getElem?_eq_some_iff.mp qk
                obtain ⟨l2, y2⟩ := List.getElem?_eq_some_iff.mp ql
                exact (List.getElem_inj hnd).mp (y1.trans y2.symm)
          · cases qk : js[k]? with
            | none =>
              rw [qk] at hk
              cases hk
            | some a =>
              rw [qk] at hk
              exact e1.gd.nf a n hk
          · cases qk : js[k]? with
            | none =>
              rw [qk] at hk
              cases hk
            | some a =>
              rw [qk] at hk
              exact e1.gd.bd a n hk
        have zf := hf F1 _ h1 (ws ++ us) (dj ++ ds) g1 (by rw [List.length_append]; omega) (fun k hk => by
          rw [List.getElem?_eq_none (by omega)])
        have hSj : ∀ (n k : Nat), n ∈ (match js[k]? with
            | some j => S1 j
            | none => []) → ∃ j ∈ js, n ∈ S1 j := fun n k hn => by
          cases qk : js[k]? with
          | none =>
            rw [qk] at hn
            cases hn
          | some a =>
            rw [qk] at hn
            exact ⟨a, List.mem_of_getElem? qk, hn⟩
        have ep : ∀ {F' : Nat → Prop} {S' : Nat → List Nat} {h' : IH} {outs : UE}, FP ps F1 (fun k => match js[k]? with
            | some j => S1 j
            | none => []) h1 (dj ++ ds) F' S' h' outs → EP dp io F1 S1 h1 ve1 env F' (fun i => if i ∈ js then S' (js.idxOf i) else S1 i) h' (putO js outs ve1) := by
          intro F' S' h' outs p
          have hk : ∀ n, n < h1.length → (∀ j ∈ js, n ∉ S1 j) → h'[n]? = h1[n]? := fun n hn hj => p.fr n hn fun i hi => by
            obtain ⟨j, q1, q2⟩ := hSj n i hi
            exact hj j q1 q2
          have hkF : ∀ n, F1 n → h'[n]? = h1[n]? := fun n x => hk n (e1.gd.fb n x) fun j _ q => e1.gd.nf j n q x
          have hkS : ∀ i n, i ∉ js → n ∈ S1 i → h'[n]? = h1[n]? := fun i n hi hn => hk n (e1.gd.bd i n hn) fun j hj q => hi (by rw [e1.gd.dj i j n hn q]; exact hj)
          have hsn : ∀ i n, n ∈ S' i → h1.length ≤ n ∨ ∃ j ∈ js, n ∈ S1 j := fun i n hn => by
            rcases p.sn i n hn with q | q
            · exact .inl q
            · exact .inr (hSj n i q)
          have hfn : ∀ n, F' n → F1 n ∨ h1.length ≤ n ∨ ∃ j ∈ js, n ∈ S1 j := fun n x => by
            rcases p.fn n x with q | q | ⟨k, q⟩
            · exact .inl q
            · exact .inr (.inl q)
            · exact .inr (.inr (hSj n k q))
          have lo : outs.length = js.length := by
            have := p.gd.len
            rw [this, List.length_map, List.length_take, List.length_append]
            omega
          refine ⟨⟨by rw [putO_len]; exact e1.gd.len, fun i u e => ?_, fun i => ?_, fun i j n hi hj => ?_, fun i n hi x => ?_, fun i n hi => ?_, p.gd.fb⟩, fun i hi => ?_, p.ff, fun n x => ?_, p.hl, fun n hn hs => hk n hn fun j hj => hs j (hio j hj), fun i n hi => ?_⟩
          · by_cases hij : i ∈ js
            · have hx := List.idxOf_lt_length_of_mem hij
              have q1 : js[js.idxOf i]? = some i := by rw [List.getElem?_eq_getElem hx, List.getElem_idxOf]
              have q2 : outs[js.idxOf i]? = some outs[js.idxOf i] := List.getElem?_eq_getElem (by omega)
              have hil : i < ve1.length := by
                have hk : js.idxOf i < ws.length := by omega
                obtain ⟨j2, y1, y2⟩ := mapO_get hw (List.getElem?_eq_getElem hk)
                rw [q1] at y1
                cases y1
                exact (List.getElem?_eq_some_iff.mp (slot_some y2)).1
              rw [putO_at js outs ve1 _ i _ hnd q1 q2 hil] at e
              injection e with e
              rw [if_pos hij]
              obtain ⟨d, y1, y2⟩ := p.gd.get (js.idxOf i) u (by rw [q2, e])
              have hx2 : js.idxOf i < dj.length := by omega
              have y3 : env[i]? = some (some d) := by
                obtain ⟨j2, w1, w2⟩ := mapO_get hdj (List.getElem?_eq_getElem hx2)
                rw [q1] at w1
                cases w1
                rw [List.getElem?_map, List.getElem?_take, if_pos (by omega), List.getElem?_append_left hx2, List.getElem?_eq_getElem hx2] at y1
                injection y1 with y1
                injection y1 with y1
                rw [y1] at w2
                split at w2
                · rename_i d3 q5
                  cases w2
                  exact q5
                · cases w2
              exact ⟨d, y3, by rw [hdp _ _ q1]; exact y2⟩
            · rw [putO_not js outs ve1 i hij] at e
              obtain ⟨d, q1, q2⟩ := e1.gd.get i u e
              rw [if_neg hij]
              exact ⟨d, q1, q2.mono p.ff hkF fun n hn => hkS i n hij hn⟩
          · split
            · exact p.gd.nd _
            · exact e1.gd.nd i
          · split at hi <;> split at hj
            · rename_i a b
              have := p.gd.dj _ _ n hi hj
              have q1 : js[js.idxOf i]? = some i := by rw [List.getElem?_eq_getElem (List.idxOf_lt_length_of_mem a), List.getElem_idxOf]
              have q2 : js[js.idxOf j]? = some j := by rw [List.getElem?_eq_getElem (List.idxOf_lt_length_of_mem b), List.getElem_idxOf]
              rw [this, q2] at q1
              cases q1
              rfl
            · rename_i a b
              rcases hsn _ n hi with q | ⟨k, q1, q2⟩
              · have := e1.gd.bd j n hj
                omega
              · exact absurd q1 (by rw [e1.gd.dj k j n q2 hj]; exact b)
            · rename_i a b
              rcases hsn _ n hj with q | ⟨k, q1, q2⟩
              · have := e1.gd.bd i n hi
                omega
              · exact absurd q1 (by rw [e1.gd.dj k i n q2 hi]; exact a)
            · exact e1.gd.dj i j n hi hj
          · split at hi
            · exact p.gd.nf _ n hi x
            · rename_i a
              rcases hfn n x with q | q | ⟨k, q1, q2⟩
              · exact e1.gd.nf i n hi q
              · have := e1.gd.bd i n hi
                omega
              · exact a (by rw [e1.gd.dj i k n hi q2]; exact q1)
          · split at hi
            · exact p.gd.bd _ n hi
            · exact Nat.lt_of_lt_of_le (e1.gd.bd i n hi) p.hl
          · have hij : i ∉ js := fun z => hi (hio i z)
            exact ⟨if_neg hij, putO_not js outs ve1 i hij⟩
          · rcases hfn n x with q | q | ⟨k, q1, q2⟩
            · exact .inl q
            · exact .inr (.inl q)
            · exact .inr (.inr ⟨k, hio k q1, q2⟩)
          · split at hi
            · rename_i a
              rcases p.sn _ n hi with q | q
              · exact .inr q
              · rw [List.getElem?_eq_getElem (List.idxOf_lt_length_of_mem a), List.getElem_idxOf] at q
                exact .inl q
            · exact .inl hi
        revert zf
        cases f (ws ++ us) with
        | val u outs =>
          rintro ⟨d, h2, F2, S2, Sr, z, p, t, r⟩
          refine ⟨d, h2, F2, _, Sr, z, e1.trans (ep p), ⟨t.nd, fun n hn => Nat.le_trans e1.hl (t.lo n hn), t.bd, t.nf, fun n hn i x => ?_⟩, r.free hm⟩
          split at x
          · exact t.ns n hn _ x
          · have := e1.gd.bd i n x
            have := t.lo n hn
            omega
        | exc x outs =>
          rintro ⟨y, h2, F2, S2, z, p, r⟩
          exact ⟨y, h2, F2, _, z, e1.trans (ep p), r⟩
        | stk => exact fun _ => trivial
end
end VV
set_option Elab.async false
set_option linter.all false
set_option maxRecDepth 100000
namespace VV
open PySem L2 DD
/-! ### dicts written down -/
abbrev VP := UE → ER (List (U × U))
def vpNil : VP := fun e => .val [] e
def vpCons (k v : VE) (r : VP) : VP := fun e => (k e).bind fun x e1 => (v e1).bind fun y e2 => (r e2).bind fun ps e3 => .val ((x, y) :: ps) e3
def keysU : List (U × U) → Option (List (KD × U))
  | [] => some []
  | (k, v) :: r => match keyU k, keysU r with
    | some j, some s => some ((j, v) :: s)
    | _, _ => none
/-- a display that may be made: texts and ints as keys, or one tuple -/
def dicB (ks : List KD) : Bool := (ks.all kk && decide (ks.length ≤ 15) && decide (ks.map nk).Nodup) || (match ks with
  | [k] => isT k
  | _ => false)
def vDic (r : VP) : VE := fun e => (r e).bind fun ps e1 => match keysU ps with
  | some kvs => if dicB (kvs.map (·.1)) = true then .val (.dic kvs) e1 else .stk
  | none => .stk
def RPp (k : Nat) : (Nat → Prop) → (Nat → List Nat) → IH → List Nat → List (U × U) → List (D × D) → Prop := fun F S h Sr us ds => RFs h F (us.map (·.1)) (ds.map (·.1)) ∧ RVs h F k Sr (us.map (·.2)) (ds.map (·.2))
def SPr (dp : Nat → Nat) (io : List Nat) (k : Nat) (m : MP) (v : VP) : Prop := ∀ F S h ve env, Gd dp F S h ve env → PoE h.length dp io F S h ve env (RPp k) (v ve) (m env h)
section
variable {dp : Nat → Nat} {io : List Nat} {k : Nat} {ma mb : ME} {va vb : VE} {mp : MP} {vp : VP}
theorem sp_nil : SPr dp io k pNil vpNil := fun F S h ve env g => PoE.val (R := RPp k) (Sr := []) g .nil ⟨.nil, .nil⟩
theorem sp_cons (ha : SE dp io .fz ma va) (hb : SE dp io (.fr k) mb vb) (hp : SPr dp io k mp vp) : SPr dp io k (pCons ma mb mp) (vpCons va vb vp) := fun F S h ve env gd =>
  (ha F S h ve env gd).bind fun x a F1 S1 h1 ve1 Sr e1 t1 r1 => (hb F1 S1 h1 ve1 env e1.gd).bind fun y b F2 S2 h2 ve2 Tr e2 t2 r2 => (hp F2 S2 h2 ve2 env e2.gd).bind fun qs rs F3 S3 h3 ve3 Vr e3 t3 r3 => by
    have k1 := RM.keep (md := .fz) e1.gd (e2.trans e3) t1 r1
    have k2 := RM.keep (md := .fr k) e2.gd e3 t2 r2
    exact PoE.val (R := RPp k) (Sr := Tr ++ Vr) e3.gd (((t2.keep e3).low e1.hl).append (t3.low (Nat.le_trans e1.hl e2.hl)) fun n h1 h2 => absurd (t2.bd n h1) (Nat.not_lt.mpr (t3.lo n h2))) ⟨.cons k1.1 r3.1, .cons k2 r3.2⟩
theorem keys_ok {h : IH} {F : Nat → Prop} {Sr : List Nat} : ∀ {us : List (U × U)} {ds : List (D × D)} {ks : List (KD × U)}, RFs h F (us.map (·.1)) (ds.map (·.1)) → keysU us = some ks → us.length = ds.length → ∃ kvs, keysD ds = some kvs ∧ ks.map (·.1) = kvs.map (·.1) ∧ ks.map (·.2) = us.map (·.2) ∧ kvs.map (·.2) = ds.map (·.2)
  | [], [], _, _, e, _ => by
    cases e
    exact ⟨[], rfl, rfl, rfl, rfl⟩
  | [], _ :: _, _, _, _, e => by simp at e
  | _ :: _, [], _, _, _, e => by simp at e
  | (a, b) :: us, (c, d) :: ds, ks, r, e, l => by
    cases r with
    | cons r1 r2 =>
      have e' : (match keyU a, keysU us with
        | some j, some s => some ((j, b) :: s)
        | _, _ => none) = some ks := e
      cases z1 : keyU a with
      | none =>
        rw [z1] at e'
        cases e'
      | some j =>
        cases z2 : keysU us with
        | none =>
          rw [z1, z2] at e'
          cases e'
        | some s =>
          rw [z1, z2] at e'
          cases e'
          obtain ⟨kvs, q1, q2, q3, q4⟩ := keys_ok (Sr := Sr) r2 z2 (by simpa using l)
          refine ⟨(j, d) :: kvs, ?_, by simp [q2], by simp [q3], by simp [q4]⟩
          show (match keyD c, keysD ds with
            | some j, some s => some ((j, d) :: s)
            | _, _ => none) = _
          rw [keyU_ok r1 z1, q1]
theorem putD_new {kvs : List (KD × D)} {k : KD} {v : D} (h : nk k ∉ nkD kvs) : putD kvs k v = kvs ++ [(k, v)] := by
  have : hasD kvs k = false := by
    unfold hasD
    have : valD kvs k = none := by
      induction kvs with
      | nil => rfl
      | cons a r ih =>
        obtain ⟨i, d⟩ := a
        rw [nkD, List.map_cons, List.mem_cons] at h
        simp only [valD, if_neg fun z => h (.inl (Eq.symm (eqK_iff.mp z)))]
        exact ih fun z => h (.inr z)
    rw [this]
    rfl
  unfold putD
  rw [this]
  rfl
theorem merge_nodup : ∀ (more kvs : List (KD × D)), (nkD (kvs ++ more)).Nodup → mergeD kvs more = kvs ++ more
  | [], kvs, _ => by simp [mergeD]
  | (k, v) :: more, kvs, nd => by
    have h1 : nk k ∉ nkD kvs := fun z => by
      rw [nkD, List.map_append, List.nodup_append] at nd
      exact nd.2.2 (nk k) z (nk k) (by simp) rfl
    show mergeD (putD kvs k v) more = _
    rw [putD_new h1, merge_nodup more (kvs ++ [(k, v)]) (by simpa using nd)]
    simp
theorem dicB_ok {kvs : List (KD × D)} (h : dicB (kvs.map (·.1)) = true) : dicNew kvs = some kvs ∧ (nkD kvs).Nodup := by
  unfold dicB at h
  rw [Bool.or_eq_true] at h
  by_cases h0 : ((kvs.map (·.1)).all kk && decide ((kvs.map (·.1)).length ≤ 15) && decide ((kvs.map (·.1)).map nk).Nodup) = true
  · rw [Bool.and_eq_true, Bool.and_eq_true] at h0
    have nd : (nkD kvs).Nodup := by
      rw [nkD_eq]
      exact of_decide_eq_true h0.2
    refine ⟨?_, nd⟩
    have h1 : (kvs.all fun p => kk p.1) = true := by
      have := h0.1.1
      rwa [List.all_map] at this
    have h2 : kvs.length ≤ 15 := by
      have := of_decide_eq_true h0.1.2
      rwa [List.length_map] at this
    unfold dicNew
    rw [if_pos (by rw [h1, decide_eq_true h2]; rfl), merge_nodup kvs [] (by simpa using nd), List.nil_append]
  · have h1 := h.resolve_left h0
    cases kvs with
    | nil => cases h1
    | cons p r =>
      cases r with
      | cons q r => cases h1
      | nil =>
        obtain ⟨k, v⟩ := p
        have h2 : isT k = true := h1
        refine ⟨?_, by simp [nkD]⟩
        unfold dicNew
        have h3 : kk k = false := by cases k <;> first | rfl | cases h2
        rw [if_neg (by simp [h3])]
        simp only [if_pos h2]
theorem se_dic (hp : SPr dp io k mp vp) : SE dp io (.fr (k + 1)) (mDic mp) (vDic vp) := fun F S h ve env gd =>
  (hp F S h ve env gd).bind fun qs rs F1 S1 h1 ve1 Sr e1 t1 r1 => by
    cases z : keysU qs with
    | none => trivial
    | some ks =>
      dsimp only
      split
      · rename_i hc
        have l : qs.length = rs.length := by
          have := r1.2.length
          rwa [List.length_map, List.length_map] at this
        obtain ⟨kvs, q1, q2, q3, q4⟩ := keys_ok (Sr := Sr) r1.1 z l
        rw [q2] at hc
        obtain ⟨hn, nd⟩ := dicB_ok hc
        simp only [q1, hn]
        have g2 := EP.grow (io := io) e1.gd [.dic false kvs] (fun _ x => x) (fun _ x => .inl x)
        have rv : RVs h1 F1 k Sr (ks.map (·.2)) (kvs.map (·.2)) := by
          rw [q3, q4]
          exact r1.2
        refine ⟨_, _, F1, S1, h1.length :: Sr, rfl, g2, ?_, RV.dic (last_new h1 _) ⟨q2, nd⟩ (RVs.mono (fun _ x => x) (fun n x => List.getElem?_append_left (e1.gd.fb n x)) rv fun n hn => List.getElem?_append_left (t1.bd n hn))⟩
        refine ⟨List.nodup_cons.mpr ⟨fun hm => absurd (t1.bd _ hm) (Nat.lt_irrefl _), t1.nd⟩, fun n hn => ?_, fun n hn => ?_, fun n hn x => ?_, fun n hn i x => ?_⟩
        · rcases List.mem_cons.mp hn with rfl | hn
          · exact e1.hl
          · exact t1.lo n hn
        · rw [List.length_append, List.length_singleton]
          rcases List.mem_cons.mp hn with rfl | hn
          · omega
          · have := t1.bd n hn
            omega
        · rcases List.mem_cons.mp hn with rfl | hn
          · exact absurd (e1.gd.fb _ x) (Nat.lt_irrefl _)
          · exact t1.nf n hn x
        · rcases List.mem_cons.mp hn with rfl | hn
          · exact absurd (e1.gd.bd _ _ x) (Nat.lt_irrefl _)
          · exact t1.ns n hn i x
      · trivial
end
/-! ### slots that change their depth -/
theorem dp_set {l : List Nat} {i k j : Nat} (h : j ≠ i) : dpOf (l.set i k) j = dpOf l j := by
  unfold dpOf
  rw [List.getD_eq_getElem?_getD, List.getD_eq_getElem?_getD, List.getElem?_set_ne fun z => h z.symm]
theorem dp_at {l : List Nat} {i k : Nat} (h : i < l.length) : dpOf (l.set i k) i = k := by
  unfold dpOf
  rw [List.getD_eq_getElem?_getD, List.getElem?_set_self h]
  rfl
section
variable {ps : List Nat} {rm : Md} {dl dp dp' : Nat → Nat} {io : List Nat} {ma : ME} {va : VE} {mr : MA} {vr : VA}
/-- what a slot's depth is, is free where it is unset -/
theorem Gd.unset {F : Nat → Prop} {S : Nat → List Nat} {h : IH} {ve : UE} {env : En} (g : Gd dp F S h ve env) (i : Nat) (hd : ∀ j, j ≠ i → dp' j = dp j) (hn : ∀ u, ve[i]? ≠ some (some u)) : Gd dp' F (fun j => if j = i then [] else S j) h ve env := by
  refine ⟨g.len, fun j u e => ?_, fun j => ?_, fun j k n hj hk => ?_, fun j n hj => ?_, fun j n hj => ?_, g.fb⟩
  · have hj : j ≠ i := fun z => hn u (by rw [← z]; exact e)
    rw [if_neg hj, hd j hj]
    exact g.get j u e
  · split
    · exact List.nodup_nil
    · exact g.nd j
  · split at hj
    · cases hj
    · split at hk
      · cases hk
      · exact g.dj j k n hj hk
  · split at hj
    · cases hj
    · exact g.nf j n hj
  · split at hj
    · cases hj
    · exact g.bd j n hj
theorem Gd.setD {F : Nat → Prop} {S : Nat → List Nat} {h : IH} {ve : UE} {env : En} (g : Gd dp F S h ve env) (i : Nat) (hd : ∀ j, j ≠ i → dp' j = dp j) {u : U} {d : D} {Sr : List Nat} {lo : Nat} (t : Tm F S lo h Sr) (r : RV h F (dp' i) Sr u d) : Gd dp' F (fun j => if j = i then Sr else S j) h (ve.set i (some u)) (env.set i (some d)) := by
  refine ⟨by rw [List.length_set, List.length_set]; exact g.len, fun j v e => ?_, fun j => ?_, fun j k n hj hk => ?_, fun j n hj => ?_, fun j n hj => ?_, g.fb⟩
  · rw [List.getElem?_set] at e ⊢
    by_cases hj : i = j
    · subst hj
      rw [if_pos rfl] at e ⊢
      by_cases hi : i < ve.length
      · rw [if_pos hi] at e
        cases e
        rw [if_pos (by rw [← g.len]; exact hi)]
        refine ⟨d, rfl, ?_⟩
        rw [if_pos rfl]
        exact r
      · rw [if_neg hi] at e
        cases e
    · rw [if_neg hj] at e ⊢
      obtain ⟨d', e1, r1⟩ := g.get j v e
      refine ⟨d', e1, ?_⟩
      rw [if_neg fun z => hj z.symm, hd j fun z => hj z.symm]
      exact r1
  · split
    · exact t.nd
    · exact g.nd j
  · split at hj <;> split at hk
    · rename_i a b
      rw [a, b]
    · exact absurd hk (t.ns n hj k)
    · exact absurd hj (t.ns n hk j)
    · exact g.dj j k n hj hk
  · split at hj
    · exact t.nf n hj
    · exact g.nf j n hj
  · split at hj
    · exact t.bd n hj
    · exact g.bd j n hj
theorem SP.setD {b0 : Nat} {F F' : Nat → Prop} {S S' : Nat → List Nat} {h h' : IH} {ve' : UE} {env env' : En} (s : SP ps b0 dp F S h env F' S' h' ve' env') (i : Nat) (hi : ps.length ≤ i) (hd : ∀ j, j ≠ i → dp' j = dp j) {u : U} {d : D} {Sr : List Nat} (t : Tm F' S' h.length h' Sr) (hb : b0 ≤ h.length) (r : RV h' F' (dp' i) Sr u d) : SP ps b0 dp' F S h env F' (fun j => if j = i then Sr else S' j) h' (ve'.set i (some u)) (env'.set i (some d)) := by
  refine ⟨s.gd.setD i hd t r, fun j hj n hn => ?_, s.ff, s.fn, s.hl, s.fr, fun j n hn => ?_, fun j hj => ?_⟩
  · split at hn
    · exact Nat.le_trans hb (t.lo n hn)
    · exact s.lw j hj n hn
  · split at hn
    · exact .inl (t.lo n hn)
    · exact s.sn j n hn
  · rw [List.getElem?_set_ne (by omega)]
    exact s.ro j hj
theorem ss_asgD {l : List Nat} (i k : Nat) (pd : Pd ps (dpOf l)) (hl : i < l.length) (ha : SE (dpOf l) io (.fr k) ma va) (hi : ps.length ≤ i) : SS ps rm dl (dpOf l) (dpOf (l.set i k)) (sAsg ma (gN i)) (vAsg va i) := fun b0 F S h ve env g lw hb =>
  PoE.bindS0 pd lw hb (ha F S h ve env g) fun a b F1 S1 h1 ve1 Sr e1 t1 r1 s1 => ⟨env.set i (some b), h1, F1, _, rfl, s1.setD i hi (fun j hj => dp_set hj) t1 hb (by rw [dp_at hl]; exact r1)⟩
def setDs : List Nat → List Nat → List Nat → List Nat
  | i :: is, k :: ks, l => setDs is ks (l.set i k)
  | _, _, l => l
theorem SP.setAllD {b0 : Nat} {F F' : Nat → Prop} {S : Nat → List Nat} {h h' : IH} {env : En} (hb : b0 ≤ h.length) : ∀ {is ks : List Nat} {l : List Nat} {us : List U} {ds : List D} {Sr : List Nat} {S' : Nat → List Nat} {ve' : UE} {env' : En}, SP ps b0 (dpOf l) F S h env F' S' h' ve' env' → Tm F' S' h.length h' Sr → RVl h' F' ks Sr us ds → is.length = ks.length → (∀ i ∈ is, ps.length ≤ i ∧ i < l.length) →
    ∃ S2, SP ps b0 (dpOf (setDs is ks l)) F S h env F' S2 h' (VV.setAll is us ve') (VV.setAllD is ds env')
  | [], [], _, _, _, _, S', _, _, s, _, _, _, _ => by
    refine ⟨S', ?_⟩
    unfold VV.setAll VV.setAllD setDs
    exact s
  | [], _ :: _, _, _, _, _, _, _, _, _, _, _, e, _ => by cases e
  | _ :: _, [], _, _, _, _, _, _, _, _, _, _, e, _ => by cases e
  | i :: is, k :: ks, l, us, ds, Sr, S', ve', env', s, t, r, hlen, hi => by
    cases r with
    | cons a b =>
      rename_i A B u d us ds
      have t1 : Tm F' S' h.length h' A := ⟨(List.nodup_append.mp t.nd).1, fun n hn => t.lo n (List.mem_append_left _ hn), fun n hn => t.bd n (List.mem_append_left _ hn), fun n hn => t.nf n (List.mem_append_left _ hn), fun n hn => t.ns n (List.mem_append_left _ hn)⟩
      have hi0 := hi i List.mem_cons_self
      have s1 := s.setD (dp' := dpOf (l.set i k)) i hi0.1 (fun j hj => dp_set hj) t1 hb (by rw [dp_at hi0.2]; exact a)
      have t2 : Tm F' (fun j => if j = i then A else S' j) h.length h' B := ⟨(List.nodup_append.mp t.nd).2.1, fun n hn => t.lo n (List.mem_append_right _ hn), fun n hn => t.bd n (List.mem_append_right _ hn), fun n hn => t.nf n (List.mem_append_right _ hn), fun n hn j x => by
        split at x
        · exact (List.nodup_append.mp t.nd).2.2 n x n hn rfl
        · exact t.ns n (List.mem_append_right _ hn) j x⟩
      show ∃ S2, SP ps b0 (dpOf (setDs is ks (l.set i k))) F S h env F' S2 h' (VV.setAll is us (ve'.set i (some u))) (VV.setAllD is ds (env'.set i (some d)))
      exact SP.setAllD hb s1 t2 b (by simpa using hlen) fun j hj => ⟨(hi j (List.mem_cons_of_mem _ hj)).1, by rw [List.length_set]; exact (hi j (List.mem_cons_of_mem _ hj)).2⟩
theorem ss_parND {f : List D → En → IH → Out} {is ks l : List Nat} (pd : Pd ps (dpOf l)) (ha : SL (dpOf l) io ks mr vr) (hlen : is.length = ks.length) (hi : ∀ i ∈ is, ps.length ≤ i ∧ i < l.length) (hf : ∀ ds env h, ds.length = is.length → f ds env h = .nx (VV.setAllD is ds env) h) : SS ps rm dl (dpOf l) (dpOf (setDs is ks l)) (fun env h => (mr env h).bindS env fun ds h1 => f ds env h1) (vParN is vr) := fun b0 F S h ve env g lw hb =>
  PoE.bindS0 pd lw hb (ha F S h ve env g) fun a b F1 S1 h1 ve1 Sr e1 t1 r1 s1 => by
    obtain ⟨S2, s2⟩ := SP.setAllD hb s1 t1 r1 hlen hi
    rw [hf b env h1 (by rw [r1.length.2, hlen])]
    exact ⟨_, h1, F1, S2, rfl, s2⟩
theorem ss_parD {l : List Nat} (i j ki kj : Nat) (pd : Pd ps (dpOf l)) (ha : SL (dpOf l) io [ki, kj] mr vr) (hi : ∀ x ∈ [i, j], ps.length ≤ x ∧ x < l.length) : SS ps rm dl (dpOf l) (dpOf (setDs [i, j] [ki, kj] l)) (sPar i j mr) (vParN [i, j] vr) :=
  ss_parND (f := fun ds env h1 => match ds with
    | [d, e] => .nx ((env.set i (some d)).set j (some e)) h1
    | _ => .stk) (is := [i, j]) pd ha rfl hi fun ds env h hl => match ds, hl with
    | [d, e], _ => rfl
theorem ss_par3D {l : List Nat} (i j k ki kj kk : Nat) (pd : Pd ps (dpOf l)) (ha : SL (dpOf l) io [ki, kj, kk] mr vr) (hi : ∀ x ∈ [i, j, k], ps.length ≤ x ∧ x < l.length) : SS ps rm dl (dpOf l) (dpOf (setDs [i, j, k] [ki, kj, kk] l)) (sPar3 i j k mr) (vParN [i, j, k] vr) :=
  ss_parND (f := fun ds env h1 => match ds with
    | [d, e, f] => .nx (((env.set i (some d)).set j (some e)).set k (some f)) h1
    | _ => .stk) (is := [i, j, k]) pd ha rfl hi fun ds env h hl => match ds, hl with
    | [d, e, f], _ => rfl
theorem ss_parTD {l : List Nat} (is ks : List Nat) (n : Nat) (pd : Pd ps (dpOf l)) (ha : SL (dpOf l) io ks mr vr) (hlen : is.length = ks.length) (hn : is.length = n) (hs : n ≤ sizeLine) (hi : ∀ x ∈ is, ps.length ≤ x ∧ x < l.length) : SS ps rm dl (dpOf l) (dpOf (setDs is ks l)) (sAsg (mTup mr) (gT n (gsOf is))) (vParN is vr) := by
  have := ss_parND (rm := rm) (dl := dl) (f := fun ds env h1 => (if ds.length ≤ sizeLine then Res.val (D.tup ds) h1 else .stk).bindS env fun d h1 => toOut (gT n (gsOf is) d env h1)) (is := is) pd ha hlen hi fun ds env h hl => by
    rw [if_pos (by omega)]
    simp only [Res.bindS, gT, hl, hn, if_true, gsOf_ok is ds env h hl, toOut]
  have e : sAsg (mTup mr) (gT n (gsOf is)) = fun env h => (mr env h).bindS env fun ds h1 => (if ds.length ≤ sizeLine then Res.val (D.tup ds) h1 else .stk).bindS env fun d h1 => toOut (gT n (gsOf is) d env h1) := by
    funext env h
    unfold sAsg mTup
    rw [bind_bindS]
  rw [e]
  exact this
end
/-! a part of a list of flat things is new -/
def vSlF (a : VE) (lo hi : VOp) : VE := fun e => (a e).bind fun u e1 => (lo e1).bind fun l e2 => (hi e2).bind fun r e3 => match uSliceL u l r with
  | some (.lst ys) => if flats ys = true then .val (.lst ys) e3 else .stk
  | _ => .stk
theorem se_sliceF {dp : Nat → Nat} {io : List Nat} {ma : ME} {va : VE} {ml mh : MO} {vl vh : VOp} (j : Nat) (ha : SE dp io .bor ma va) (hl : SO dp io ml vl) (hh : SO dp io mh vh) : SE dp io (.fr (j + 1)) (mSl ma ml mh) (vSlF va vl vh) := fun F S h ve env gd =>
  (ha F S h ve env gd).bind fun x d F1 S1 h1 ve1 Sr e1 t1 r1 => (hl F1 S1 h1 ve1 env e1.gd).bind fun l l' F2 S2 h2 ve2 Tr e2 t2 r2 => (hh F2 S2 h2 ve2 env e2.gd).bind fun r r' F3 S3 h3 ve3 Vr e3 t3 r3 => by
    subst r2 r3
    have k1 := RM.keep (md := .bor) e1.gd (e2.trans e3) t1 r1
    cases z : uSliceL x l r with
    | none => trivial
    | some u =>
      obtain ⟨e, q, T, z1, z2, z3⟩ := sliceL_ok l r (fun n y => y.1) k1.1 z
      cases u with
      | lst ys =>
        dsimp only
        split
        · rename_i hf
          rw [z1]
          have e13 := e1.trans (e2.trans e3)
          cases z2 with
          | ref hn rs =>
            obtain ⟨rs', hS⟩ := RVs.rf0 rs
            subst hS
            refine PoE.opfr e3.gd (Nat.le_trans e1.hl (Nat.le_trans e2.hl e3.hl)) (RV.ref hn ?_) z3
            exact RFs.rv j (rs'.flat hf _ _) hf
        · trivial
      | _ => trivial
theorem hdp_of {l ps js : List Nat} (h : (js.zipIdx.all fun p => decide (l.getD p.1 0 = ps.getD p.2 0)) = true) : ∀ k j, js[k]? = some j → dpOf l j = dpOf ps k := fun k j e => by
  rw [List.all_eq_true] at h
  have := h (j, k) (by rw [List.mk_mem_zipIdx_iff_getElem?]; exact e)
  simpa using this
theorem sf_ofL {ps : List Nat} {rm : Md} {dl dp' : Nat → Nat} {m : MS} {v : VS} (n : Nat) (l : List Nat) (k : Nat) (hl : l = ps ++ List.replicate k 0) (hb : SS ps rm dl (dpOf l) dp' m v) (pd : Pd ps dp') (hm : rm ≠ .bor) : SF ps rm (mBody n m) (vBody n ps.length v) := by
  have e : dpOf l = dpOf ps := by
    funext i
    unfold dpOf
    rw [hl, List.getD_eq_getElem?_getD, List.getD_eq_getElem?_getD]
    by_cases hi : i < ps.length
    · rw [List.getElem?_append_left hi]
    · rw [List.getElem?_append_right (by omega), List.getElem?_eq_none (l := ps) (by omega), List.getElem?_replicate]
      split <;> rfl
  rw [e] at hb
  exact sf_of n hb pd hm
/-! ### the law -/
theorem ints_rf {h : IH} {F : Nat → Prop} : ∀ ns : List Int, RFs h F (ns.map U.int) (ns.map D.int)
  | [] => .nil
  | n :: ns => .cons (.int n) (ints_rf ns)
theorem law_of {rm : Md} {m : List D → IH → Res D} {v : VF} {ns : List Int} (hf : SF [] rm m v) (hv : ∃ o, v [.fl (ns.map .int)] = .val (.bl true) o) (hm : rm ≠ .bor) : ∃ h', m [scr ns] [] = .val (.bl true) h' := by
  have r : RFs [] (fun _ => False) [U.fl (ns.map .int)] [scr ns] := by
    exact .cons (.fl (ints_rf ns)) .nil
  obtain ⟨o, hv⟩ := hv
  have z := hf (fun _ => False) (fun _ => []) [] _ _ (gd_args r fun _ x => x.elim) (Nat.zero_le _) fun _ _ => rfl
  rw [hv] at z
  obtain ⟨d, h', F', S', Sr, z1, p, t, q⟩ := z
  refine ⟨h', ?_⟩
  rw [z1]
  cases rm with
  | fl =>
    obtain ⟨q, _⟩ := q
    cases q
    rfl
  | fz =>
    obtain ⟨q, _⟩ := q
    cases q
    rfl
  | bor => exact absurd rfl hm
  | fr k =>
    cases q with
    | fz q =>
      cases q
      rfl
    | bl b => rfl
end VV
set_option Elab.async false
set_option linter.all false
set_option maxRecDepth 100000
/-! plain data: equality, repr, in -/
namespace VV
open PySem L2 DD
mutual
def pyOf : U → PyData
  | .non => .none
  | .bl b => .bool b
  | .int i => .int i
  | .str x => .str x
  | .tup us => .tuple (pyOfs us)
  | .lst us => .list (pyOfs us)
  | .fl us => .list (pyOfs us)
  | .dic _ => .none
  | .op _ => .none
  | .gl _ => .none
  | .ins _ _ => .none
def pyOfs : List U → List PyData
  | [] => []
  | u :: us => pyOf u :: pyOfs us
end
theorem pyOfs_map : ∀ us : List U, pyOfs us = us.map pyOf
  | [] => rfl
  | u :: us => by rw [pyOfs, List.map_cons, pyOfs_map us]
/-- no dict, no function; at most so deep; signs of texts -/
def plain : Nat → U → Bool
  | _, .non => true
  | _, .bl _ => true
  | _, .int _ => true
  | _, .str x => PyData.strOk x
  | n + 1, .tup us => us.all (plain n)
  | n + 1, .lst us => us.all (plain n)
  | n + 1, .fl us => us.all (plain n)
  | _, _ => false
theorem mapO_some {α β : Type} {f : α → Option β} {g : α → β} : ∀ {xs : List α}, (∀ x ∈ xs, f x = some (g x)) → mapO f xs = some (xs.map g)
  | [], _ => rfl
  | x :: xs, h => mapO_cons' (h x List.mem_cons_self) (mapO_some fun y hy => h y (List.mem_cons_of_mem _ hy))
theorem plain_no {n : Nat} {kvs : List (KD × U)} (h : plain n (.dic kvs) = true) : False := by cases n <;> simp [plain] at h
theorem plain_noOp {n : Nat} {v : V} (h : plain n (.op v) = true) : False := by cases n <;> simp [plain] at h
theorem plain_noGl {n : Nat} {v : Str} (h : plain n (.gl v) = true) : False := by cases n <;> simp [plain] at h
theorem plain_noIns {n : Nat} {v : Str} {fs : List (Str × U)} (h : plain n (.ins v fs) = true) : False := by cases n <;> simp [plain] at h
theorem plain_tup {n : Nat} {us : List U} (h : plain n (.tup us) = true) : ∃ k, n = k + 1 ∧ us.all (plain k) = true := by
  cases n with
  | zero => simp [plain] at h
  | succ k => exact ⟨k, rfl, by simpa [plain] using h⟩
theorem plain_lst {n : Nat} {us : List U} (h : plain n (.lst us) = true) : ∃ k, n = k + 1 ∧ us.all (plain k) = true := by
  cases n with
  | zero => simp [plain] at h
  | succ k => exact ⟨k, rfl, by simpa [plain] using h⟩
theorem plain_fl {n : Nat} {us : List U} (h : plain n (.fl us) = true) : ∃ k, n = k + 1 ∧ us.all (plain k) = true := by
  cases n with
  | zero => simp [plain] at h
  | succ k => exact ⟨k, rfl, by simpa [plain] using h⟩
/-- by plain data -/
theorem plain_ind {P : Nat → U → Prop} (h1 : ∀ n, P n .non) (h2 : ∀ n b, P n (.bl b)) (h3 : ∀ n i, P n (.int i)) (h4 : ∀ n x, PyData.strOk x = true → P n (.str x)) (h5 : ∀ n us, (∀ u ∈ us, plain n u = true ∧ P n u) → P (n + 1) (.tup us)) (h6 : ∀ n us, (∀ u ∈ us, plain n u = true ∧ P n u) → P (n + 1) (.lst us)) (h7 : ∀ n us, (∀ u ∈ us, plain n u = true ∧ P n u) → P (n + 1) (.fl us)) : ∀ {n : Nat} {u : U}, plain n u = true → P n u := by
  intro n
  induction n with
  | zero =>
    intro u h
    cases u with
    | non => exact h1 0
    | bl b => exact h2 0 b
    | int b => exact h3 0 b
    | str b => exact h4 0 b (by simpa [plain] using h)
    | _ => simp [plain] at h
  | succ n ih =>
    intro u h
    cases u with
    | non => exact h1 _
    | bl b => exact h2 _ b
    | int b => exact h3 _ b
    | str b => exact h4 _ b (by simpa [plain] using h)
    | tup us => exact h5 n us fun u hu => ⟨List.all_eq_true.mp (by simpa [plain] using h) u hu, ih (List.all_eq_true.mp (by simpa [plain] using h) u hu)⟩
    | lst us => exact h6 n us fun u hu => ⟨List.all_eq_true.mp (by simpa [plain] using h) u hu, ih (List.all_eq_true.mp (by simpa [plain] using h) u hu)⟩
    | fl us => exact h7 n us fun u hu => ⟨List.all_eq_true.mp (by simpa [plain] using h) u hu, ih (List.all_eq_true.mp (by simpa [plain] using h) u hu)⟩
    | dic kvs => exact (plain_no h).elim
    | op v => exact (plain_noOp h).elim
    | gl v => exact (plain_noGl h).elim
    | ins c fs => exact (plain_noIns h).elim
theorem plain_py {n : Nat} {u : U} (h : plain n u = true) : toPyU (n + 1) u = some (pyOf u) := by
  refine plain_ind (P := fun n u => toPyU (n + 1) u = some (pyOf u)) ?_ ?_ ?_ ?_ ?_ ?_ ?_ h
  · exact fun n => rfl
  · exact fun n b => rfl
  · exact fun n b => rfl
  · exact fun n b _ => rfl
  · intro n us ih
    show (mapO (toPyU (n + 1)) us).map PyData.tuple = _
    rw [mapO_some (g := pyOf) fun x hx => (ih x hx).2, pyOf, pyOfs_map]
    rfl
  · intro n us ih
    show (mapO (toPyU (n + 1)) us).map PyData.list = _
    rw [mapO_some (g := pyOf) fun x hx => (ih x hx).2, pyOf, pyOfs_map]
    rfl
  · intro n us ih
    show (mapO (toPyU (n + 1)) us).map PyData.list = _
    rw [mapO_some (g := pyOf) fun x hx => (ih x hx).2, pyOf, pyOfs_map]
    rfl
theorem lay_all : ∀ {ps : List PyData}, (∀ p ∈ ps, p.canLay0 = true) → PyData.canLayAll0 ps = true
  | [], _ => rfl
  | p :: ps, h => by rw [PyData.canLayAll0, h p List.mem_cons_self, lay_all fun q hq => h q (List.mem_cons_of_mem _ hq)]; rfl
theorem depth_all {n : Nat} : ∀ {ps : List PyData}, (∀ p ∈ ps, p.depth ≤ n) → PyData.depthAll ps ≤ n
  | [], _ => by simp [PyData.depthAll]
  | p :: ps, h => by
    rw [PyData.depthAll]
    have := h p List.mem_cons_self
    have := depth_all fun q hq => h q (List.mem_cons_of_mem _ hq)
    omega
theorem plain_lay {n : Nat} {u : U} (h : plain n u = true) : (pyOf u).canLay0 = true ∧ (pyOf u).depth ≤ n := by
  have seq : ∀ (n : Nat) (us : List U), (∀ u ∈ us, plain n u = true ∧ ((pyOf u).canLay0 = true ∧ (pyOf u).depth ≤ n)) → PyData.canLayAll0 (us.map pyOf) = true ∧ PyData.depthAll (us.map pyOf) ≤ n := fun n us ih =>
    ⟨lay_all fun p hp => by
      obtain ⟨u, hu, rfl⟩ := List.mem_map.mp hp
      exact (ih u hu).2.1, depth_all fun p hp => by
      obtain ⟨u, hu, rfl⟩ := List.mem_map.mp hp
      exact (ih u hu).2.2⟩
  refine plain_ind (P := fun n u => (pyOf u).canLay0 = true ∧ (pyOf u).depth ≤ n) ?_ ?_ ?_ ?_ ?_ ?_ ?_ h
  · exact fun n => ⟨rfl, by simp [pyOf, PyData.depth]⟩
  · exact fun n b => ⟨rfl, by simp [pyOf, PyData.depth]⟩
  · exact fun n b => ⟨rfl, by simp [pyOf, PyData.depth]⟩
  · exact fun n x hx => ⟨by simpa [pyOf, PyData.canLay0] using hx, by simp [pyOf, PyData.depth]⟩
  · intro n us ih
    have := seq n us ih
    rw [pyOf, pyOfs_map, PyData.canLay0, PyData.depth]
    exact ⟨this.1, by omega⟩
  · intro n us ih
    have := seq n us ih
    rw [pyOf, pyOfs_map, PyData.canLay0, PyData.depth]
    exact ⟨this.1, by omega⟩
  · intro n us ih
    have := seq n us ih
    rw [pyOf, pyOfs_map, PyData.canLay0, PyData.depth]
    exact ⟨this.1, by omega⟩
theorem plain_shaped {u : U} (h : plain 11 u = true) : SeqAt.shaped (pyOf u) = true := by
  obtain ⟨h1, h2⟩ := plain_lay h
  unfold SeqAt.shaped
  rw [h1, Bool.true_and, decide_eq_true_eq]
  omega
/-! equality -/
mutual
def eqB : U → U → Bool
  | .non, .non => true
  | .bl a, .bl b => a == b
  | .bl a, .int j => (if a then 1 else 0) == j
  | .int i, .bl b => i == (if b then 1 else 0)
  | .int i, .int j => decide (i = j)
  | .str x, .str y => decide (x = y)
  | .lst xs, .lst ys => eqBs xs ys
  | .lst xs, .fl ys => eqBs xs ys
  | .fl xs, .lst ys => eqBs xs ys
  | .fl xs, .fl ys => eqBs xs ys
  | .tup xs, .tup ys => eqBs xs ys
  | _, _ => false
def eqBs : List U → List U → Bool
  | [], [] => true
  | x :: xs, y :: ys => eqB x y && eqBs xs ys
  | _, _ => false
end
theorem eqv_eqB0 {a : U} {n : Nat} (ha : plain n a = true) : ∀ (b : U) (k : Nat), plain k b = true → PyData.eqv (pyOf a) (pyOf b) = eqB a b := by
  have seq : ∀ (n : Nat) (us : List U), (∀ u ∈ us, plain n u = true ∧ ∀ (b : U) (k : Nat), plain k b = true → PyData.eqv (pyOf u) (pyOf b) = eqB u b) → ∀ {bs : List U} {k : Nat}, bs.all (plain k) = true → PyData.eqvAll (pyOfs us) (pyOfs bs) = eqBs us bs := by
    intro n us
    induction us with
    | nil =>
      intro _ bs k _
      cases bs <;> simp [pyOfs, PyData.eqvAll, eqBs]
    | cons u us ih =>
      intro hu bs k hb
      cases bs with
      | nil => simp [pyOfs, PyData.eqvAll, eqBs]
      | cons b bs =>
        rw [List.all_cons, Bool.and_eq_true] at hb
        rw [pyOfs, pyOfs, PyData.eqvAll, eqBs, (hu u List.mem_cons_self).2 _ _ hb.1, ih (fun v hv => hu v (List.mem_cons_of_mem _ hv)) hb.2]
  refine plain_ind (P := fun n a => ∀ (b : U) (k : Nat), plain k b = true → PyData.eqv (pyOf a) (pyOf b) = eqB a b) ?_ ?_ ?_ ?_ ?_ ?_ ?_ ha
  · intro n b k hb
    cases b <;> first | exact (plain_no hb).elim | exact (plain_noOp hb).elim | exact (plain_noGl hb).elim | exact (plain_noIns hb).elim | simp [pyOf, PyData.eqv, eqB]
  · intro n x b k hb
    cases b <;> first | exact (plain_no hb).elim | exact (plain_noOp hb).elim | exact (plain_noGl hb).elim | exact (plain_noIns hb).elim | simp [pyOf, PyData.eqv, eqB]
  · intro n x b k hb
    cases b <;> first | exact (plain_no hb).elim | exact (plain_noOp hb).elim | exact (plain_noGl hb).elim | exact (plain_noIns hb).elim | (simp [pyOf, PyData.eqv, eqB]; done) | (simp [pyOf, PyData.eqv, eqB]; rfl)
  · intro n x _ b k hb
    cases b <;> first | exact (plain_no hb).elim | exact (plain_noOp hb).elim | exact (plain_noGl hb).elim | exact (plain_noIns hb).elim | (simp [pyOf, PyData.eqv, eqB]; done) | (simp [pyOf, PyData.eqv, eqB]; rfl)
  · intro n us ih b k hb
    cases b with
    | tup ys =>
      obtain ⟨j, rfl, hy⟩ := plain_tup hb
      rw [pyOf, pyOf, PyData.eqv, eqB]
      exact seq n us ih hy
    | dic _ => exact (plain_no hb).elim
    | op _ => exact (plain_noOp hb).elim
    | gl _ => exact (plain_noGl hb).elim
    | ins _ _ => exact (plain_noIns hb).elim
    | _ => simp [pyOf, PyData.eqv, eqB]
  · intro n us ih b k hb
    cases b with
    | lst ys =>
      obtain ⟨j, rfl, hy⟩ := plain_lst hb
      rw [pyOf, pyOf, PyData.eqv, eqB]
      exact seq n us ih hy
    | fl ys =>
      obtain ⟨j, rfl, hy⟩ := plain_fl hb
      rw [pyOf, pyOf, PyData.eqv, eqB]
      exact seq n us ih hy
    | dic _ => exact (plain_no hb).elim
    | op _ => exact (plain_noOp hb).elim
    | gl _ => exact (plain_noGl hb).elim
    | ins _ _ => exact (plain_noIns hb).elim
    | _ => simp [pyOf, PyData.eqv, eqB]
  · intro n us ih b k hb
    cases b with
    | lst ys =>
      obtain ⟨j, rfl, hy⟩ := plain_lst hb
      rw [pyOf, pyOf, PyData.eqv, eqB]
      exact seq n us ih hy
    | fl ys =>
      obtain ⟨j, rfl, hy⟩ := plain_fl hb
      rw [pyOf, pyOf, PyData.eqv, eqB]
      exact seq n us ih hy
    | dic _ => exact (plain_no hb).elim
    | op _ => exact (plain_noOp hb).elim
    | gl _ => exact (plain_noGl hb).elim
    | ins _ _ => exact (plain_noIns hb).elim
    | _ => simp [pyOf, PyData.eqv, eqB]
theorem eqv_eqB {a b : U} {n k : Nat} (ha : plain n a = true) (hb : plain k b = true) : PyData.eqv (pyOf a) (pyOf b) = eqB a b := eqv_eqB0 ha b k hb
theorem eqU_ok' {a b : U} (ha : plain 11 a = true) (hb : plain 11 b = true) : eqU a b = some (eqB a b) := by
  unfold eqU
  split
  · rfl
  · rfl
  · unfold eqTU
    rw [plain_py ha, plain_py hb]
    simp only [plain_shaped ha, plain_shaped hb, Bool.and_self, if_true, eqv_eqB ha hb]
theorem uEq_ok {a b : U} (ha : plain 11 a = true) (hb : plain 11 b = true) : uEq a b = some (.bl (eqB a b)) := by rw [uEq, eqU_ok' ha hb]; rfl
theorem uNe_ok {a b : U} (ha : plain 11 a = true) (hb : plain 11 b = true) : uNe a b = some (.bl !(eqB a b)) := by rw [uNe, eqU_ok' ha hb]; rfl
theorem uEq_int (i j : Int) : uEq (.int i) (.int j) = some (.bl (decide (i = j))) := rfl
theorem uNe_int (i j : Int) : uNe (.int i) (.int j) = some (.bl !(decide (i = j))) := rfl
theorem uEq_str (i j : Str) : uEq (.str i) (.str j) = some (.bl (decide (i = j))) := rfl
theorem uNe_str (i j : Str) : uNe (.str i) (.str j) = some (.bl !(decide (i = j))) := rfl
theorem eqBs_same {us : List U} (h : ∀ u ∈ us, eqB u u = true) : eqBs us us = true := by
  induction us with
  | nil => simp [eqBs]
  | cons u us ih => rw [eqBs, h u List.mem_cons_self, ih fun v hv => h v (List.mem_cons_of_mem _ hv)]; rfl
theorem eqB_self {n : Nat} {a : U} (h : plain n a = true) : eqB a a = true := by
  refine plain_ind (P := fun n a => eqB a a = true) ?_ ?_ ?_ ?_ ?_ ?_ ?_ h
  · exact fun n => by simp [eqB]
  · exact fun n b => by simp [eqB]
  · exact fun n b => by simp [eqB]
  · exact fun n b _ => by simp [eqB]
  · exact fun n us ih => by rw [eqB]; exact eqBs_same fun u hu => (ih u hu).2
  · exact fun n us ih => by rw [eqB]; exact eqBs_same fun u hu => (ih u hu).2
  · exact fun n us ih => by rw [eqB]; exact eqBs_same fun u hu => (ih u hu).2
theorem eqBs_nil (us : List U) : eqBs us [] = us.isEmpty := by cases us <;> simp [eqBs]
theorem eqBs_nil' (us : List U) : eqBs [] us = us.isEmpty := by cases us <;> simp [eqBs]
/-! plain lists -/
theorem plain_ints (n : Nat) (ns : List Int) : (ns.map U.int).all (plain n) = true := by
  rw [List.all_map, List.all_eq_true]
  intro x _
  cases n <;> rfl
theorem all_map_plain {α : Type} {f : α → U} {n : Nat} {xs : List α} (h : ∀ a ∈ xs, plain n (f a) = true) : (xs.map f).all (plain n) = true := by
  rw [List.all_map, List.all_eq_true]
  exact h
/-! repr -/
/-- ints below 10 ^ 12 -/
def shortU : U → Prop
  | u => (pyOf u).showable = true ∧ (pyOf u).intsShort 13 = true
structure Ok (d w : Nat) (u : U) : Prop where
  p : plain d u = true
  s : (pyOf u).showable = true
  i : (pyOf u).intsShort 13 = true
  w : (pyOf u).weight ≤ w
theorem Ok.mono {d w w' : Nat} {u : U} (h : Ok d w u) (hw : w ≤ w') : Ok d w' u := ⟨h.p, h.s, h.i, Nat.le_trans h.w hw⟩
theorem plain_up {n : Nat} {u : U} (h : plain n u = true) : plain (n + 1) u = true := by
  refine plain_ind (P := fun n u => plain (n + 1) u = true) ?_ ?_ ?_ ?_ ?_ ?_ ?_ h
  · exact fun n => rfl
  · exact fun n b => rfl
  · exact fun n b => rfl
  · exact fun n b hb => by simpa [plain] using hb
  · exact fun n us ih => by rw [plain, List.all_eq_true]; exact fun u hu => (ih u hu).2
  · exact fun n us ih => by rw [plain, List.all_eq_true]; exact fun u hu => (ih u hu).2
  · exact fun n us ih => by rw [plain, List.all_eq_true]; exact fun u hu => (ih u hu).2
theorem plain_le {n m : Nat} {u : U} (h : plain n u = true) (hm : n ≤ m) : plain m u = true := by
  induction hm with
  | refl => exact h
  | step _ ih => exact plain_up ih
theorem Ok.deep {d d' w : Nat} {u : U} (h : Ok d w u) (hd : d ≤ d') : Ok d' w u := ⟨plain_le h.p hd, h.s, h.i, h.w⟩
theorem ok_non : Ok 0 0 .non := ⟨rfl, rfl, rfl, by simp [pyOf, PyData.weight]⟩
theorem ok_bl (b : Bool) : Ok 0 0 (.bl b) := ⟨rfl, rfl, rfl, by simp [pyOf, PyData.weight]⟩
theorem ok_int {i : Int} (h : i.natAbs < 10 ^ 12) : Ok 0 41 (.int i) := by
  refine ⟨rfl, ?_, ?_, ?_⟩
  · rw [pyOf, PyData.showable, decide_eq_true_eq]
    by_cases z : i.natAbs = 0
    · rw [z]
      decide
    · exact Nat.lt_of_lt_of_le ((Nat.log2_lt z).mpr (Nat.lt_of_lt_of_le h (show 10 ^ 12 ≤ 2 ^ 60 by decide))) (by decide)
  · have := PyData.intsShortAll_ints [i] (by
      intro m hm
      rw [List.mem_singleton] at hm
      subst hm
      exact h)
    rw [List.map_cons, PyData.intsShortAll, Bool.and_eq_true] at this
    exact this.1
  · rw [pyOf, PyData.weight]
    split
    · omega
    · by_cases y : i.natAbs = 0
      · rw [y]
        decide
      · have : i.natAbs.log2 < 40 := (Nat.log2_lt y).mpr (Nat.lt_of_lt_of_le h (by decide))
        omega
theorem ok_str {x : Str} {w : Nat} (h : PyData.strOk x = true) (hw : x.length ≤ w) : Ok 0 w (.str x) := ⟨h, rfl, rfl, hw⟩
theorem weight_all {w : Nat} : ∀ {us : List U}, (∀ u ∈ us, (pyOf u).weight ≤ w) → PyData.weightAll (us.map pyOf) ≤ us.length * (w + 1)
  | [], _ => by simp [PyData.weightAll]
  | u :: us, h => by
    rw [List.map_cons, PyData.weightAll, List.length_cons, Nat.succ_mul]
    have := h u List.mem_cons_self
    have := weight_all fun v hv => h v (List.mem_cons_of_mem _ hv)
    omega
theorem show_all : ∀ {us : List U}, (∀ u ∈ us, (pyOf u).showable = true) → PyData.showableAll (us.map pyOf) = true
  | [], _ => rfl
  | u :: us, h => by rw [List.map_cons, PyData.showableAll, h u List.mem_cons_self, show_all fun v hv => h v (List.mem_cons_of_mem _ hv)]; rfl
theorem short_all : ∀ {us : List U}, (∀ u ∈ us, (pyOf u).intsShort 13 = true) → PyData.intsShortAll 13 (us.map pyOf) = true
  | [], _ => rfl
  | u :: us, h => by rw [List.map_cons, PyData.intsShortAll, h u List.mem_cons_self, short_all fun v hv => h v (List.mem_cons_of_mem _ hv)]; rfl
theorem ok_tup {d w n : Nat} {us : List U} (h : ∀ u ∈ us, Ok d w u) (hn : us.length ≤ n) : Ok (d + 1) (n * (w + 1)) (.tup us) := by
  refine ⟨by rw [plain, List.all_eq_true]; exact fun u hu => (h u hu).p, ?_, ?_, ?_⟩
  · rw [pyOf, pyOfs_map, PyData.showable]
    exact show_all fun u hu => (h u hu).s
  · rw [pyOf, pyOfs_map, PyData.intsShort]
    exact short_all fun u hu => (h u hu).i
  · rw [pyOf, pyOfs_map, PyData.weight]
    exact Nat.le_trans (weight_all fun u hu => (h u hu).w) (Nat.mul_le_mul_right _ hn)
theorem ok_lst {d w n : Nat} {us : List U} (h : ∀ u ∈ us, Ok d w u) (hn : us.length ≤ n) : Ok (d + 1) (n * (w + 1)) (.lst us) := by
  refine ⟨by rw [plain, List.all_eq_true]; exact fun u hu => (h u hu).p, ?_, ?_, ?_⟩
  · rw [pyOf, pyOfs_map, PyData.showable]
    exact show_all fun u hu => (h u hu).s
  · rw [pyOf, pyOfs_map, PyData.intsShort]
    exact short_all fun u hu => (h u hu).i
  · rw [pyOf, pyOfs_map, PyData.weight]
    exact Nat.le_trans (weight_all fun u hu => (h u hu).w) (Nat.mul_le_mul_right _ hn)
theorem noDict_of {n : Nat} {u : U} (h : plain n u = true) : (pyOf u).hasDict = false := PyData.hasDict_of_canLay _ (plain_lay h).1
theorem shown_le {u : U} (h : Ok 11 1048576 u) : (pyOf u).shown.length ≤ sizeLine := by
  refine PyData.shown_fits_of_layable0 (B := 13) (by decide) (by decide) ?_ h.i
  unfold PyData.layable0
  obtain ⟨h1, h2⟩ := plain_lay h.p
  simp only [h1, Bool.true_and, Bool.and_eq_true, decide_eq_true_eq]
  exact ⟨by omega, h.w⟩
/-- repr of a tuple, a list -/
theorem uRepr_tup {us : List U} (h : Ok 11 1048576 (.tup us)) : uRepr [.tup us] = some (.str (pyOf (.tup us)).shown) := by
  unfold uRepr
  have e := plain_py h.p
  have h2 := (plain_lay h.p).2
  simp only [e]
  have e2 : pyOf (.tup us) = .tuple (pyOfs us) := by rw [pyOf]
  have s := h.s
  have n := noDict_of h.p
  have l := shown_le h
  rw [e2] at s n l h2 ⊢
  have h3 : (PyData.tuple (pyOfs us)).depth ≤ 60 := by omega
  simp only [s, n, l, h3, decide_true, Bool.not_false, Bool.and_self, if_true]
theorem uRepr_lst {us : List U} (h : Ok 11 1048576 (.lst us)) : uRepr [.lst us] = some (.str (pyOf (.lst us)).shown) := by
  unfold uRepr
  have e := plain_py h.p
  have h2 := (plain_lay h.p).2
  simp only [e]
  have e2 : pyOf (.lst us) = .list (pyOfs us) := by rw [pyOf]
  have s := h.s
  have n := noDict_of h.p
  have l := shown_le h
  rw [e2] at s n l h2 ⊢
  have h3 : (PyData.list (pyOfs us)).depth ≤ 60 := by omega
  simp only [s, n, l, h3, decide_true, Bool.not_false, Bool.and_self, if_true]
end VV
set_option Elab.async false
set_option linter.all false
set_option maxRecDepth 100000
/-! loops and comprehensions on letters -/
namespace VV
open PySem L2 DD
theorem forV_inv {t : VTg} {b : VS} (I : List U → UE → Prop)
    (step : ∀ u us e, I (u :: us) e → ∃ e1 e2, t u e = some e1 ∧ (b e1 = .nx e2 ∨ b e1 = .ct e2) ∧ I us e2) : ∀ us e, I us e → ∃ e2, forV t b us e = .nx e2 ∧ I [] e2
  | [], e, i => ⟨e, rfl, i⟩
  | u :: us, e, i => by
    obtain ⟨e1, e2, z1, z2, i2⟩ := step u us e i
    obtain ⟨e3, z3, i3⟩ := forV_inv I step us e2 i2
    refine ⟨e3, ?_, i3⟩
    rcases z2 with z2 | z2 <;> simp only [forV, z1, z2, z3]
/-- a loop as a fold; γ: what other slots hold -/
theorem forV_fold {t : VTg} {b : VS} {α β γ : Type} (g : α → U) (E : β → γ → UE) (st : β → α → β) : ∀ (xs : List α) (s : β) (j : γ),
    (∀ pre x post, xs = pre ++ x :: post → ∀ j, ∃ e1 j', t (g x) (E (pre.foldl st s) j) = some e1 ∧ (b e1 = .nx (E (st (pre.foldl st s) x) j') ∨ b e1 = .ct (E (st (pre.foldl st s) x) j'))) →
    ∃ j', forV t b (xs.map g) (E s j) = .nx (E (xs.foldl st s) j')
  | [], s, j, _ => ⟨j, rfl⟩
  | x :: xs, s, j, h => by
    obtain ⟨e1, j1, z1, z2⟩ := h [] x xs rfl j
    simp only [List.foldl_nil] at z1 z2
    obtain ⟨j2, z3⟩ := forV_fold g E st xs (st s x) j1 fun pre y post e j => by
      have := h (x :: pre) y post (by rw [e]; rfl) j
      simpa only [List.foldl_cons] using this
    refine ⟨j2, ?_⟩
    rw [List.map_cons, List.foldl_cons]
    rcases z2 with z2 | z2 <;> simp only [forV, z1, z2, z3]
/-- a loop that may be left by a return -/
def goE {α β : Type} (st : β → α → β ⊕ U) : β → List α → β ⊕ U
  | s, [] => Sum.inl s
  | s, x :: xs => match st s x with
    | Sum.inl s' => goE st s' xs
    | Sum.inr u => Sum.inr u
theorem forV_go {t : VTg} {b : VS} {α β γ : Type} (g : α → U) (E : β → γ → UE) (st : β → α → β ⊕ U) : ∀ (xs : List α) (s : β) (j : γ),
    (∀ x ∈ xs, ∀ s j, ∃ e1, t (g x) (E s j) = some e1 ∧ match st s x with
      | Sum.inl s' => ∃ j', b e1 = .nx (E s' j') ∨ b e1 = .ct (E s' j')
      | Sum.inr u => ∃ s' j', b e1 = .rt u (E s' j')) →
    match goE st s xs with
    | Sum.inl s' => ∃ j', forV t b (xs.map g) (E s j) = .nx (E s' j')
    | Sum.inr u => ∃ s' j', forV t b (xs.map g) (E s j) = .rt u (E s' j')
  | [], s, j, _ => ⟨j, rfl⟩
  | x :: xs, s, j, h => by
    have h0 := h x List.mem_cons_self s j
    rw [List.map_cons]
    unfold goE
    cases q : st s x with
    | inl s' =>
      rw [q] at h0
      obtain ⟨e1, z1, j1, z2⟩ := h0
      have ih := forV_go g E st xs s' j1 fun y hy => h y (List.mem_cons_of_mem _ hy)
      dsimp only
      revert ih
      cases goE st s' xs with
      | inl s2 =>
        rintro ⟨j2, z3⟩
        refine ⟨j2, ?_⟩
        rcases z2 with z2 | z2 <;> simp only [forV, z1, z2, z3]
      | inr u =>
        rintro ⟨s2, j2, z3⟩
        refine ⟨s2, j2, ?_⟩
        rcases z2 with z2 | z2 <;> simp only [forV, z1, z2, z3]
    | inr u =>
      rw [q] at h0
      obtain ⟨e1, z1, s2, j2, z2⟩ := h0
      exact ⟨s2, j2, by simp only [forV, z1, z2]⟩
/-- the first item at which a loop returns -/
theorem forV_find {t : VTg} {b : VS} {α γ : Type} (g : α → U) (E : γ → UE) (p : α → Option U) (xs : List α) (j : γ)
    (h : ∀ x ∈ xs, ∀ j, ∃ e1 j', t (g x) (E j) = some e1 ∧ match p x with
      | none => b e1 = .nx (E j') ∨ b e1 = .ct (E j')
      | some u => b e1 = .rt u (E j')) :
    ∃ j', forV t b (xs.map g) (E j) = match xs.findSome? p with
      | none => .nx (E j')
      | some u => .rt u (E j') := by
  induction xs generalizing j with
  | nil => exact ⟨j, rfl⟩
  | cons x xs ih =>
    obtain ⟨e1, j1, z1, z2⟩ := h x List.mem_cons_self j
    rw [List.map_cons, List.findSome?_cons]
    cases q : p x with
    | none =>
      rw [q] at z2
      obtain ⟨j2, z3⟩ := ih j1 fun y hy => h y (List.mem_cons_of_mem _ hy)
      refine ⟨j2, ?_⟩
      dsimp only at z2 ⊢
      rcases z2 with z2 | z2 <;> simp only [forV, z1, z2, z3]
    | some u =>
      rw [q] at z2
      dsimp only at z2 ⊢
      exact ⟨j1, by simp only [forV, z1, z2]⟩
/-- a loop over a list by what holds ahead of each item -/
theorem forV_idx {t : VTg} {b : VS} {α : Type} (g : α → U) (xs : List α) (I : Nat → UE → Prop) (step : ∀ k x e, xs[k]? = some x → I k e → ∃ e1 e2, t (g x) e = some e1 ∧ (b e1 = .nx e2 ∨ b e1 = .ct e2) ∧ I (k + 1) e2) (e : UE) (h0 : I 0 e) : ∃ e2, forV t b (xs.map g) e = .nx e2 ∧ I xs.length e2 := by
  have key : ∀ (n k : Nat) (e : UE), xs.length = k + n → I k e → ∃ e2, forV t b ((xs.drop k).map g) e = .nx e2 ∧ I xs.length e2 := by
    intro n
    induction n with
    | zero =>
      intro k e hk hi
      rw [List.drop_eq_nil_of_le (by omega)]
      refine ⟨e, rfl, ?_⟩
      rw [hk]
      exact hi
    | succ n ih =>
      intro k e hk hi
      have hlt : k < xs.length := by omega
      rw [List.drop_eq_getElem_cons hlt, List.map_cons]
      obtain ⟨e1, e2, z1, z2, i2⟩ := step k xs[k] e (List.getElem?_eq_getElem hlt) hi
      obtain ⟨e3, z3, i3⟩ := ih (k + 1) e2 (by omega) i2
      refine ⟨e3, ?_, i3⟩
      rcases z2 with z2 | z2 <;> simp only [forV, z1, z2, z3]
  obtain ⟨e2, z, i⟩ := key xs.length 0 e (by omega) h0
  exact ⟨e2, z, i⟩
theorem forV_range {t : VTg} {b : VS} (lo : Int) (n : Nat) (I : Nat → UE → Prop) (step : ∀ (k : Nat) e, k < n → I k e → ∃ e1 e2, t (.int (lo + (k : Int))) e = some e1 ∧ (b e1 = .nx e2 ∨ b e1 = .ct e2) ∧ I (k + 1) e2) (e : UE) (h0 : I 0 e) : ∃ e2, forV t b (rangeU lo n) e = .nx e2 ∧ I n e2 := by
  obtain ⟨e2, z, i⟩ := forV_idx (t := t) (b := b) (fun i : Nat => U.int (lo + (i : Int))) (List.range n) I (fun k x e hx hi => by
    obtain ⟨hk, hx⟩ := List.getElem?_eq_some_iff.mp hx
    rw [List.getElem_range] at hx
    subst hx
    rw [List.length_range] at hk
    exact step k e hk hi) e h0
  rw [List.length_range] at i
  exact ⟨e2, z, i⟩
/-- a comprehension: each item by itself -/
theorem lcV_map {t : VTg} {c : VT} {x : VE} {own : List Nat} {e0 : UE} {α : Type} (g : α → U) (f : α → U) : ∀ (xs : List α) (acc : List U),
    (∀ a ∈ xs, ∃ e1 e2 e3, t (g a) e0 = some e1 ∧ c e1 = .val true e2 ∧ x e2 = .val (f a) e3 ∧ wipeU e3 own = e0) → acc.length + xs.length ≤ sizeLine → lcV t c x own (xs.map g) acc e0 = .val (acc ++ xs.map f) e0
  | [], acc, _, _ => by simp [lcV]
  | a :: xs, acc, h, hl => by
    obtain ⟨e1, e2, e3, z1, z2, z3, z4⟩ := h a List.mem_cons_self
    rw [List.length_cons] at hl
    have ih := lcV_map g f xs (acc ++ [f a]) (fun b hb => h b (List.mem_cons_of_mem _ hb)) (by rw [List.length_append, List.length_singleton]; omega)
    rw [List.map_cons, List.map_cons]
    have hlt : acc.length < sizeLine := by omega
    simp only [lcV, lcVT, z1, z2, z3, if_pos hlt, z4, ih, List.append_assoc, List.cons_append, List.nil_append]
theorem lcV_filter {t : VTg} {c : VT} {x : VE} {own : List Nat} {e0 : UE} {α : Type} (g : α → U) (p : α → Bool) (f : α → U) : ∀ (xs : List α) (acc : List U),
    (∀ a ∈ xs, ∃ e1 e2, t (g a) e0 = some e1 ∧ c e1 = .val (p a) e2 ∧ (p a = true → ∃ e3, x e2 = .val (f a) e3 ∧ wipeU e3 own = e0) ∧ (p a = false → wipeU e2 own = e0)) → acc.length + xs.length ≤ sizeLine → lcV t c x own (xs.map g) acc e0 = .val (acc ++ (xs.filter p).map f) e0
  | [], acc, _, _ => by simp [lcV]
  | a :: xs, acc, h, hl => by
    obtain ⟨e1, e2, z1, z2, z3, z4⟩ := h a List.mem_cons_self
    rw [List.length_cons] at hl
    rw [List.map_cons]
    have hlt : acc.length < sizeLine := by omega
    cases q : p a with
    | true =>
      obtain ⟨e3, z3, z5⟩ := z3 q
      have ih := lcV_filter g p f xs (acc ++ [f a]) (fun b hb => h b (List.mem_cons_of_mem _ hb)) (by rw [List.length_append, List.length_singleton]; omega)
      rw [q] at z2
      rw [List.filter_cons_of_pos q, List.map_cons]
      simp only [lcV, lcVT, z1, z2, z3, if_pos hlt, z5, ih, List.append_assoc, List.cons_append, List.nil_append]
    | false =>
      have ih := lcV_filter g p f xs acc (fun b hb => h b (List.mem_cons_of_mem _ hb)) (by omega)
      rw [q] at z2
      rw [List.filter_cons_of_neg (by rw [q]; exact Bool.false_ne_true)]
      simp only [lcV, lcVT, z1, z2, z4 q, ih]
/-- a comprehension whose items change slots: I of how many are left, R of an item and its value -/
theorem lcV_inv {t : VTg} {c : VT} {x : VE} {own : List Nat} {α β : Type} (g : α → U) (f : β → U) (I : Nat → UE → Prop) (R : α → β → Prop) : ∀ (xs : List α) (acc : List U) (e : UE),
    (∀ a ∈ xs, ∀ n e, I (n + 1) e → ∃ e1 e2 y e3, t (g a) e = some e1 ∧ c e1 = .val true e2 ∧ x e2 = .val (f y) e3 ∧ R a y ∧ I n (wipeU e3 own)) → acc.length + xs.length ≤ sizeLine → I xs.length e →
    ∃ ys e', lcV t c x own (xs.map g) acc e = .val (acc ++ ys.map f) e' ∧ Paired R xs ys ∧ I 0 e'
  | [], acc, e, _, _, i => ⟨[], e, by simp [lcV], .nil, i⟩
  | a :: xs, acc, e, h, hl, i => by
    rw [List.length_cons] at hl
    obtain ⟨e1, e2, y, e3, z1, z2, z3, r, i3⟩ := h a List.mem_cons_self xs.length e i
    obtain ⟨ys, e4, z4, r4, i4⟩ := lcV_inv g f I R xs (acc ++ [f y]) (wipeU e3 own) (fun b hb => h b (List.mem_cons_of_mem _ hb)) (by rw [List.length_append, List.length_singleton]; omega) i3
    have hlt : acc.length < sizeLine := by omega
    refine ⟨y :: ys, e4, ?_, .cons r r4, i4⟩
    rw [List.map_cons]
    simp only [lcV, lcVT, z1, z2, z3, if_pos hlt, z4, List.map_cons, List.append_assoc, List.cons_append, List.nil_append]
theorem rangeU_map (lo : Int) (n : Nat) : rangeU lo n = (List.range n).map (fun i : Nat => U.int (lo + (i : Int))) := rfl
theorem enumU_map {α : Type} (g : α → U) : ∀ (xs : List α) (k : Nat), enumU k (xs.map g) = (xs.zipIdx k).map fun p => U.tup [.int (p.2 : Nat), g p.1]
  | [], _ => rfl
  | x :: xs, k => by
    rw [List.map_cons, enumU, List.zipIdx_cons, List.map_cons, enumU_map g xs (k + 1)]
theorem atI_map {α β : Type} (f : α → β) (xs : List α) (i : Int) : atI (xs.map f) i = (atI xs i).map f := by
  unfold atI
  rw [List.length_map]
  cases ixN xs.length i with
  | none => rfl
  | some j => simp [Option.bind]
theorem atI_nat {α : Type} (xs : List α) (i : Nat) : atI xs (i : Int) = xs[i]? := by
  unfold atI ixN
  by_cases h : i < xs.length
  · rw [if_pos (by omega), if_pos (by omega)]
    simp [Option.bind]
  · rw [if_pos (by omega), if_neg (by omega), List.getElem?_eq_none (by omega)]
    rfl
theorem cutA_map {α β : Type} (f : α → β) (xs : List α) (lo hi : Option Int) : cutA (xs.map f) lo hi = (cutA xs lo hi).map f := by
  unfold cutA
  rw [List.length_map, List.map_take, List.map_drop]
theorem cut_take {α : Type} (xs : List α) (k : Int) (h : 0 ≤ k) : cutA xs none (some k) = xs.take k.toNat := by
  unfold cutA
  simp only [HT.sIx_none, List.drop_zero, Nat.sub_zero]
  have e : HT.sIx xs.length xs.length (some k) = min k.toNat xs.length := by
    show (if k < 0 then (k + (xs.length : Int)).toNat else min k.toNat xs.length) = _
    rw [if_neg (by omega)]
  rw [e]
  by_cases z : k.toNat ≤ xs.length
  · rw [Nat.min_eq_left z]
  · rw [Nat.min_eq_right (by omega), List.take_length, List.take_of_length_le (by omega)]
theorem cut_drop {α : Type} (xs : List α) (k : Int) (h : 0 ≤ k) : cutA xs (some k) none = xs.drop k.toNat := by
  unfold cutA
  simp only [HT.sIx_none]
  have e : HT.sIx xs.length 0 (some k) = min k.toNat xs.length := by
    show (if k < 0 then (k + (xs.length : Int)).toNat else min k.toNat xs.length) = _
    rw [if_neg (by omega)]
  rw [e]
  by_cases z : k.toNat ≤ xs.length
  · rw [Nat.min_eq_left z, List.take_of_length_le (by rw [List.length_drop]; omega)]
  · rw [Nat.min_eq_right (by omega), Nat.sub_self, List.take_zero, List.drop_of_length_le (by omega)]
theorem intsU_map (ns : List Int) : intsU (ns.map U.int) = some ns := by
  unfold intsU
  have := mapO_map (f := fun d => match d with
    | U.int i => some i
    | _ => none) (g := U.int) (k := id) (xs := ns) fun x _ => rfl
  rw [List.map_id] at this
  exact this
theorem boolsU_map (ns : List Bool) : boolsU (ns.map U.bl) = some ns := by
  unfold boolsU
  have := mapO_map (f := fun d => match d with
    | U.bl i => some i
    | _ => none) (g := U.bl) (k := id) (xs := ns) fun x _ => rfl
  rw [List.map_id] at this
  exact this
theorem flats_ints (ns : List Int) : flats (ns.map U.int) = true := flats_map (fun _ => rfl) ns
theorem isEmpty_map {α β : Type} (f : α → β) (xs : List α) : (xs.map f).isEmpty = xs.isEmpty := by cases xs <;> rfl
theorem ofS_inj (a b : String) : (Str.ofString a = Str.ofString b) = (a = b) := by
  apply propext
  constructor
  · intro h
    rw [Str.ofString_eq_toList, Str.ofString_eq_toList] at h
    have h1 := congrArg (fun s : Str => s.cps.toList) h
    simp only [List.toList_toArray] at h1
    have key : ∀ (xs ys : List Char), xs.map Char.toNat = ys.map Char.toNat → xs = ys := by
      intro xs
      induction xs with
      | nil =>
        intro ys h
        cases ys with
        | nil => rfl
        | cons _ _ => cases h
      | cons x xs ih =>
        intro ys h
        cases ys with
        | nil => cases h
        | cons y ys =>
          rw [List.map_cons, List.map_cons] at h
          injection h with h1 h2
          have : x = y := by
            apply Char.ext
            exact UInt32.toNat_inj.mp h1
          rw [this, ih ys h2]
    have := key _ _ h1
    exact String.toList_inj.mp this
  · intro h
    rw [h]
theorem at0 {α : Type} (f : α → U) (x : α) (ls : List α) : atI ((x :: ls).map f) 0 = some (f x) := by
  rw [atI_map]
  have : atI (x :: ls) ((0 : Nat) : Int) = (x :: ls)[0]? := atI_nat _ _
  rw [show (0 : Int) = ((0 : Nat) : Int) from rfl, this]
  rfl
theorem szl : sizeLine = 16777216 := rfl
end VV
set_option Elab.async false
set_option linter.all false
set_option maxRecDepth 100000
/-! more operations -/
namespace VV
open PySem L2 DD
/-! ### repr -/
def reprLU : U → Option Str
  | .int i => if i.natAbs.log2 < 1920 then some (toString i) else none
  | .str x => if (reprText x).length ≤ sizeLine then some (reprText x) else none
  | .bl b => some (if b = true then "True" else "False")
  | .non => some "None"
  | _ => none
def uReprA : List U → Option U := fun as => match as with
  | [x] => match reprLU x with
    | some s => some (.str s)
    | none => uRepr [x]
  | _ => none
theorem reprL_ok {h : IH} {G : Nat → Prop} {u : U} {d : D} (r : RF h G u d) : reprL d = reprLU u := by cases r <;> rfl
theorem od_reprA : OdN pyReprA uReprA := fun h G us ds r hb rs e => by
  unfold uReprA at e
  split at e
  · rename_i x
    have rs0 := rs
    cases rs with
    | cons a b => cases b with
      | nil =>
        split at e
        · rename_i s z
          cases e
          exact same (by simp only [pyReprA, reprL_ok a, z]) (.str _)
        · rename_i z
          obtain ⟨e', q, z1, z2⟩ := od_repr h G _ _ r hb rs0 e
          exact ⟨e', q, by simp only [pyReprA, reprL_ok a, z]; exact z1, z2⟩
  · cases e
theorem fl_reprA : FlN uReprA := fun us r e => by
  unfold uReprA at e
  split at e
  · split at e
    · cases e
      rfl
    · exact fl_repr _ _ e
  · cases e
/-! ### methods -/
def vMeth (T : String) (g : U → List U → Option U) (o : VE) (r : VA) : VE := fun e => (o e).bind fun u e1 => if tyMU u = some T then (r e1).bind fun us e2 => ofO (g u us) e2 else .stk
def OdM (f : D → List D → IH → Res D) (g : U → List U → Option U) : Prop := ∀ h (G : Nat → Prop) u d us ds r, (∀ n, G n → n < h.length) → RF h G u d → RFs h G us ds → g u us = some r → ∃ e q, f d ds h = .val e (h ++ q) ∧ RF (h ++ q) (Nw h q G) r e
def OoM (k : Nat) (f : D → List D → IH → Res D) (g : U → List U → Option U) : Prop := ∀ h (G : Nat → Prop) u d us ds r, (∀ n, G n → n < h.length) → RF h G u d → RFs h G us ds → g u us = some r → ∃ e q Sr, f d ds h = .val e (h ++ q) ∧ RV (h ++ q) G k Sr r e ∧ Nx h q Sr
def FlM (g : U → List U → Option U) : Prop := ∀ u us r, g u us = some r → flat r = true
section
variable {dp : Nat → Nat} {io : List Nat} {T : String} {ma : ME} {va : VE} {mr : MA} {vr : VA} {f : D → List D → IH → Res D} {g : U → List U → Option U}
theorem meth_go {md : Md} {lo : Nat} {R2 : (Nat → Prop) → (Nat → List Nat) → IH → List Nat → U → D → Prop} {F : Nat → Prop} {S : Nat → List Nat} {h : IH} {ve : UE} {env : En} (ha : SE dp io md ma va) (hr : SA dp io md mr vr) (gd : Gd dp F S h ve env)
    (q : ∀ x a us ds F' S' h' ve' Sr Tr, EP dp io F S h ve env F' S' h' ve' → RM io F' S' h' Sr x a md → RA io md F' S' h' Tr us ds → PoE lo dp io F' S' h' ve' env R2 (ofO (g x us) ve') (f a ds h')) :
    PoE lo dp io F S h ve env R2 (vMeth T g va vr ve) (mMeth T f ma mr env h) :=
  (ha F S h ve env gd).bind fun x a F1 S1 h1 ve1 Sr e1 t1 r1 => by
    by_cases ht : tyMU x = some T
    · rw [if_pos ht, if_pos (tyMU_ok (r1.rf e1.gd t1) ht)]
      exact (hr F1 S1 h1 ve1 env e1.gd).bind fun us ds F2 S2 h2 ve2 Tr e2 t2 r2 => q x a us ds F2 S2 h2 ve2 Sr Tr (e1.trans e2) (RM.keep e1.gd e2 t1 r1) r2
    · rw [if_neg ht]
      trivial
theorem se_methL (od : OdM f g) (fl : FlM g) (ha : SE dp io .bor ma va) (hr : SA dp io .bor mr vr) : SE dp io .fl (mMeth T f ma mr) (vMeth T g va vr) := fun F S h ve env gd =>
  meth_go ha hr gd fun x a us ds F1 S1 h1 ve1 Sr Tr e1 r1 r2 => by
    cases z : g x us with
    | none => trivial
    | some u =>
      obtain ⟨e, q, z1, z2⟩ := od h1 _ x a us ds u (fun n y => y.1) r1.1 r2.1 z
      rw [z1]
      exact PoE.opfl e1.gd z2 (fl _ _ _ z)
theorem se_meth (od : OdM f g) (ha : SE dp io .fz ma va) (hr : SA dp io .fz mr vr) : SE dp io .fz (mMeth T f ma mr) (vMeth T g va vr) := fun F S h ve env gd =>
  meth_go ha hr gd fun x a us ds F1 S1 h1 ve1 Sr Tr e1 r1 r2 => by
    cases z : g x us with
    | none => trivial
    | some u =>
      obtain ⟨e, q, z1, z2⟩ := od h1 _ x a us ds u e1.gd.fb r1.1 r2.1 z
      rw [z1]
      exact PoE.opfz e1.gd z2
theorem se_methB (od : OdM f g) (ha : SE dp io .bor ma va) (hr : SA dp io .bor mr vr) : SE dp io .bor (mMeth T f ma mr) (vMeth T g va vr) := fun F S h ve env gd =>
  meth_go ha hr gd fun x a us ds F1 S1 h1 ve1 Sr Tr e1 r1 r2 => by
    cases z : g x us with
    | none => trivial
    | some u =>
      obtain ⟨e, q, z1, z2⟩ := od h1 _ x a us ds u (fun n y => y.1) r1.1 r2.1 z
      rw [z1]
      exact PoE.opbor e1.gd z2
theorem se_methO {k : Nat} (od : OoM k f g) (ha : SE dp io .fz ma va) (hr : SA dp io .fz mr vr) : SE dp io (.fr k) (mMeth T f ma mr) (vMeth T g va vr) := fun F S h ve env gd =>
  meth_go ha hr gd fun x a us ds F1 S1 h1 ve1 Sr Tr e1 r1 r2 => by
    cases z : g x us with
    | none => trivial
    | some u =>
      obtain ⟨e, q, T, z1, z2, z3⟩ := od h1 F1 x a us ds u e1.gd.fb r1.1 r2.1 z
      rw [z1]
      exact PoE.opfr e1.gd e1.hl z2 z3
end
def strsU : List U → Option (List Str) := mapO fun d => match d with
  | .str x => some x
  | _ => none
theorem strsU_ok {h : IH} {G : Nat → Prop} : ∀ {us : List U} {ds : List D} {ns : List Str}, RFs h G us ds → strsU us = some ns → strsD ds = some ns
  | _, _, _, .nil, e => e
  | _, _, _, .cons a b, e => by
    obtain ⟨x, xs, e1, e2, rfl⟩ := VV.mapO_cons e
    refine VV.mapO_cons' ?_ (strsU_ok b e2)
    cases a <;> first | exact e1 | cases e1
def uJoin : U → List U → Option U := fun a as => match a, as with
  | .str x, [y] => match seqTU y with
    | some ds => match strsU ds with
      | some ys => if (ys.map (·.length)).sum + ys.length * x.length ≤ 16777216 then some (.str (Txt.join x ys)) else none
      | none => none
    | none => none
  | _, _ => none
theorem od_join : OdM pyJoin uJoin := fun h G u d us ds r hb a rs e => by
  unfold uJoin at e
  split at e
  · rename_i x y
    cases a with
    | str =>
      cases rs with
      | cons a b => cases b with
        | nil =>
          split at e
          · rename_i vs z
            obtain ⟨es, z1, z2⟩ := seqTU_ok a z
            split at e
            · rename_i ys z3
              split at e
              · rename_i hl
                cases e
                exact same (by simp only [pyJoin, z1, strsU_ok z2 z3, if_pos hl]) (.str _)
              · cases e
            · cases e
          · cases e
  · cases e
theorem fl_join : FlM uJoin := fun u us r e => by
  unfold uJoin at e
  split at e
  · split at e
    · split at e
      · split at e <;> cases e
        rfl
      · cases e
    · cases e
  · cases e
def uStarts : U → List U → Option U := fun a as => match a, as with
  | .str x, [.str y] => some (.bl (Txt.startswith x y))
  | .str x, [.str y, .int i] => some (.bl (Txt.startswith3 x y i))
  | _, _ => none
theorem od_starts : OdM pyStarts uStarts := fun h G u d us ds r hb a rs e => by
  unfold uStarts at e
  split at e
  · cases e
    cases a
    cases rs with
    | cons a b =>
      cases b
      cases a
      exact same rfl (.bl _)
  · cases e
    cases a
    cases rs with
    | cons a b =>
      cases b with
      | cons b c =>
        cases c
        cases a
        cases b
        exact same rfl (.bl _)
  · cases e
theorem fl_starts : FlM uStarts := fun u us r e => by
  unfold uStarts at e
  split at e <;> cases e <;> rfl
def uSIndex : U → List U → Option U := fun a as => match a, as with
  | .str x, [.str y] => match Builtin.Str.occurrences x y 0 x.length 1 with
    | i :: _ => some (.int (i : Nat))
    | [] => none
  | _, _ => none
theorem od_sindex : OdM pySIndex uSIndex := fun h G u d us ds r hb a rs e => by
  unfold uSIndex at e
  split at e
  · cases a
    cases rs with
    | cons a b =>
      cases b
      cases a
      split at e
      · rename_i z
        cases e
        exact same (by simp only [pySIndex, z]) (.int _)
      · cases e
  · cases e
theorem fl_sindex : FlM uSIndex := fun u us r e => by
  unfold uSIndex at e
  split at e
  · split at e <;> cases e
    rfl
  · cases e
def uCount : U → List U → Option U := fun a as => match a, as with
  | .str x, [.str y] => some (.int (Txt.count x y))
  | _, _ => none
theorem od_count : OdM pyCount uCount := fun h G u d us ds r hb a rs e => by
  unfold uCount at e
  split at e
  · cases e
    cases a
    cases rs with
    | cons a b =>
      cases b
      cases a
      exact same rfl (.int _)
  · cases e
theorem fl_count : FlM uCount := fun u us r e => by
  unfold uCount at e
  split at e <;> cases e <;> rfl
def uSplit : U → List U → Option U := fun a as => match a, as with
  | .str x, [.str y] => if (y.length == 0) = false ∧ x.length + 2 ≤ sizeLine then some (.lst ((Txt.split x y).map U.str)) else none
  | _, _ => none
theorem strs_rf {h : IH} {F : Nat → Prop} : ∀ ys : List Str, RFs h F (ys.map U.str) (ys.map D.str)
  | [] => .nil
  | n :: ns => .cons (.str n) (strs_rf ns)
theorem od_split : OdM pySplit uSplit := fun h G u d us ds r hb a rs e => by
  unfold uSplit at e
  split at e
  · split at e
    · rename_i z
      cases e
      cases a
      cases rs with
      | cons a b =>
        cases b
        cases a
        exact ⟨_, _, by simp only [pySplit, if_pos z], newL hb (strs_rf _)⟩
    · cases e
  · cases e
theorem oo_split : OoM 1 pySplit uSplit := fun h G u d us ds r hb a rs e => by
  unfold uSplit at e
  split at e
  · split at e
    · rename_i z
      cases e
      cases a
      cases rs with
      | cons a b =>
        cases b
        cases a
        exact ⟨_, _, _, by simp only [pySplit, if_pos z], newO hb (strs_rf _)⟩
    · cases e
  · cases e
/-! ### extend: the other list is frozen -/
def uExtend (w : U) (as : List U) : Option (U × U) := match w, as with
  | .lst us, [.lst vs] => if us.length + vs.length ≤ sizeLine then some (.lst (us ++ vs), .non) else none
  | _, _ => none
theorem mo_extend : Mo 0 "list" pyExtend uExtend := fun h F Sw Sa w d as das w' r fb rw ra nd nf e => by
  unfold uExtend at e
  split at e
  · rename_i us vs
    split at e
    · rename_i hl
      cases e
      cases rw with
      | ref hn rs =>
        rename_i n S ds
        obtain ⟨rs', hS1⟩ := RVs.rf0 rs
        obtain ⟨ra', hS2⟩ := RVs.rf0 ra
        subst hS1 hS2
        clear ra
        clear rs
        cases ra' with
        | cons a b =>
          cases b
          cases a with
          | ref fm hm rm =>
            rename_i m es
            have hne : m ≠ n := fun z => nf n (by simp) (by rw [← z]; exact fm)
            have hF : ∀ k, F k → (h.set n (.lst (ds ++ es)))[k]? = h[k]? := fun k x => set_get fun z => nf n (by simp) (by rw [← z]; exact x)
            refine ⟨n, h.set n (.lst (ds ++ es)), .non, [n], ?_, List.length_set, fun m hm => set_get hm, by simp, RV.ref (set_same hn) ((rs'.append rm).mono (fun _ x => x) hF).rv0, by simp, fun m hm => .inl hm, .non⟩
            simp only [pyExtend, lstAt_of hn, lstAt_of hm, ← rs'.length, ← rm.length, if_pos hl]
    · cases e
  · cases e
/-! ### abs, str -/
def uAbs : List U → Option U := fun as => match as with
  | [.int i] => some (.int (if i < 0 then -i else i))
  | _ => none
theorem od_abs : OdN pyAbs uAbs := fun h G us ds r hb rs e => by
  unfold uAbs at e
  split at e
  · cases e
    cases rs with
    | cons a b =>
      cases b
      cases a
      exact same rfl (.int _)
  · cases e
theorem fl_abs : FlN uAbs := fun us r e => by
  unfold uAbs at e
  split at e <;> cases e <;> rfl
def uStr : List U → Option U := fun as => match as with
  | [.int i] => if i.natAbs.log2 < 1920 then some (.str (toString i)) else none
  | [.str x] => some (.str x)
  | _ => none
theorem od_str : OdN DD.pyStr uStr := fun h G us ds r hb rs e => by
  unfold uStr at e
  split at e
  · split at e
    · rename_i z
      cases e
      cases rs with
      | cons a b =>
        cases b
        cases a
        exact same (by simp only [DD.pyStr, if_pos z]) (.str _)
    · cases e
  · cases e
    cases rs with
    | cons a b =>
      cases b
      cases a
      exact same rfl (.str _)
  · cases e
theorem fl_str : FlN uStr := fun us r e => by
  unfold uStr at e
  split at e
  · split at e <;> cases e
    rfl
  · cases e
    rfl
  · cases e
end VV

set_option Elab.async false
set_option linter.all false
set_option maxRecDepth 100000
/-! a dict that takes slots over, handed out -/
namespace VV
open PySem L2 DD
section
variable (h : IH) (F : Nat → Prop) (S : Nat → List Nat) (k : Nat)
/-- values, some of them new (their cells), some of them what slots hold: cells A in turn -/
inductive RVt : List Nat → List Nat → List Nat → List U → List D → Prop
  | nil : RVt [] [] [] [] []
  | new {T A Sr B : List Nat} {u : U} {d : D} {us : List U} {ds : List D} : RV h F k B u d → RVt T A Sr us ds → RVt T (B ++ A) (B ++ Sr) (u :: us) (d :: ds)
  | old {T A Sr : List Nat} {u : U} {d : D} {us : List U} {ds : List D} (i : Nat) : RV h F k (S i) u d → RVt T A Sr us ds → RVt (i :: T) (S i ++ A) Sr (u :: us) (d :: ds)
end
def RPt (k : Nat) (T : List Nat) : (Nat → Prop) → (Nat → List Nat) → IH → List Nat → List (U × U) → List (D × D) → Prop := fun F S h Sr us ds => RFs h F (us.map (·.1)) (ds.map (·.1)) ∧ ∃ A, RVt h F S k T A Sr (us.map (·.2)) (ds.map (·.2))
def SPt (dp : Nat → Nat) (io : List Nat) (k : Nat) (T : List Nat) (m : MP) (v : VP) : Prop := ∀ F S h ve env, Gd dp F S h ve env → PoE h.length dp io F S h ve env (RPt k T) (v ve) (m env h)
section
variable {dp : Nat → Nat} {io : List Nat} {k : Nat} {T : List Nat} {ma mb : ME} {va vb : VE} {mp : MP} {vp : VP}
theorem RVt.length {h : IH} {F : Nat → Prop} {S : Nat → List Nat} : ∀ {T A Sr : List Nat} {us : List U} {ds : List D}, RVt h F S k T A Sr us ds → us.length = ds.length
  | _, _, _, _, _, .nil => rfl
  | _, _, _, _, _, .new _ b => by rw [List.length_cons, List.length_cons, b.length]
  | _, _, _, _, _, .old _ _ b => by rw [List.length_cons, List.length_cons, b.length]
theorem RVt.rvs {h : IH} {F : Nat → Prop} {S : Nat → List Nat} : ∀ {T A Sr : List Nat} {us : List U} {ds : List D}, RVt h F S k T A Sr us ds → RVs h F k A us ds
  | _, _, _, _, _, .nil => .nil
  | _, _, _, _, _, .new a b => .cons a b.rvs
  | _, _, _, _, _, .old _ a b => .cons a b.rvs
theorem RVt.mem {h : IH} {F : Nat → Prop} {S : Nat → List Nat} : ∀ {T A Sr : List Nat} {us : List U} {ds : List D}, RVt h F S k T A Sr us ds → ∀ n ∈ A, n ∈ Sr ∨ ∃ i ∈ T, n ∈ S i
  | _, _, _, _, _, .nil, n, hn => by cases hn
  | _, _, _, _, _, .new a b, n, hn => by
    rcases List.mem_append.mp hn with hn | hn
    · exact .inl (List.mem_append_left _ hn)
    · exact (b.mem n hn).imp (List.mem_append_right _) id
  | _, _, _, _, _, .old i a b, n, hn => by
    rcases List.mem_append.mp hn with hn | hn
    · exact .inr ⟨i, List.mem_cons_self, hn⟩
    · exact (b.mem n hn).imp id fun ⟨j, q1, q2⟩ => ⟨j, List.mem_cons_of_mem _ q1, q2⟩
theorem RVt.nodup {h : IH} {F : Nat → Prop} {S : Nat → List Nat} (nd : ∀ i, (S i).Nodup) (dj : ∀ i j n, n ∈ S i → n ∈ S j → i = j) : ∀ {T A Sr : List Nat} {us : List U} {ds : List D}, RVt h F S k T A Sr us ds → T.Nodup → Sr.Nodup → (∀ n ∈ Sr, ∀ i, n ∉ S i) → A.Nodup
  | _, _, _, _, _, .nil, _, _, _ => List.nodup_nil
  | _, _, _, _, _, .new a b, ht, hs, hn => by
    rw [List.nodup_append] at hs ⊢
    refine ⟨hs.1, b.nodup nd dj ht hs.2.1 fun n q => hn n (List.mem_append_right _ q), fun x hx y hy e => ?_⟩
    subst e
    rcases b.mem x hy with q | ⟨i, _, q⟩
    · exact hs.2.2 x hx x q rfl
    · exact hn x (List.mem_append_left _ hx) i q
  | _, _, _, _, _, .old i a b, ht, hs, hn => by
    rw [List.nodup_cons] at ht
    rw [List.nodup_append]
    refine ⟨nd i, b.nodup nd dj ht.2 hs hn, fun x hx y hy e => ?_⟩
    subst e
    rcases b.mem x hy with q | ⟨j, q1, q⟩
    · exact hn x q i hx
    · rw [dj i j x hx q] at ht
      exact ht.1 q1
theorem spt_nil : SPt dp io k [] pNil vpNil := fun F S h ve env g => PoE.val (R := RPt k []) (Sr := []) g .nil ⟨.nil, [], .nil⟩
theorem spt_cons (ha : SE dp io .fz ma va) (hb : SE dp io (.fr k) mb vb) (hp : SPt dp io k T mp vp) : SPt dp io k T (pCons ma mb mp) (vpCons va vb vp) := fun F S h ve env gd =>
  (ha F S h ve env gd).bind fun x a F1 S1 h1 ve1 Sr e1 t1 r1 => (hb F1 S1 h1 ve1 env e1.gd).bind fun y b F2 S2 h2 ve2 Tr e2 t2 r2 => (hp F2 S2 h2 ve2 env e2.gd).bind fun qs rs F3 S3 h3 ve3 Vr e3 t3 r3 => by
    have k1 := RM.keep (md := .fz) e1.gd (e2.trans e3) t1 r1
    have k2 := RM.keep (md := .fr k) e2.gd e3 t2 r2
    obtain ⟨r3a, A, r3b⟩ := r3
    exact PoE.val (R := RPt k T) (Sr := Tr ++ Vr) e3.gd (((t2.keep e3).low e1.hl).append (t3.low (Nat.le_trans e1.hl e2.hl)) fun n h1 h2 => absurd (t2.bd n h1) (Nat.not_lt.mpr (t3.lo n h2))) ⟨.cons k1.1 r3a, _, .new k2 r3b⟩
theorem spt_take (i : Nat) (hi : dp i = k) (hio : i ∉ io) (ha : SE dp io .fz ma va) (hp : SPt dp io k T mp vp) : SPt dp io k (i :: T) (pCons ma (mVar i) mp) (vpCons va (vVar i) vp) := fun F S h ve env gd =>
  (ha F S h ve env gd).bind fun x a F1 S1 h1 ve1 Sr e1 t1 r1 => by
    unfold vVar mVar
    cases e : ve1[i]? with
    | none => trivial
    | some o =>
      cases o with
      | none => trivial
      | some u =>
        obtain ⟨d, q1, q2⟩ := e1.gd.get i u e
        rw [q1]
        have z := (hp F1 S1 h1 ve1 env e1.gd).bind (lo' := h.length) (R2 := RPt k (i :: T)) (f := fun ps e3 => .val ((x, u) :: ps) e3) (g := fun ps h3 => .val ((a, d) :: ps) h3) fun qs rs F3 S3 h3 ve3 Vr e3 t3 r3 => by
          have k1 := RM.keep (md := .fz) e1.gd e3 t1 r1
          obtain ⟨r3a, A, r3b⟩ := r3
          have hS := (e3.st i hio).1
          have hu : ve3[i]? = some (some u) := by rw [(e3.st i hio).2]; exact e
          obtain ⟨d3, w1, w2⟩ := e3.gd.get i u hu
          rw [q1] at w1
          cases w1
          rw [hi] at w2
          exact PoE.val (R := RPt k (i :: T)) (Sr := Vr) e3.gd (t3.low e1.hl) ⟨.cons k1.1 r3a, _, .old i w2 r3b⟩
        exact z
/-- slots are unset -/
theorem Gd.unsetAll {F : Nat → Prop} {S : Nat → List Nat} {h : IH} {ve : UE} {env : En} (g : Gd dp F S h ve env) (T : List Nat) : Gd dp F (fun i => if i ∈ T then [] else S i) h (wipeU ve T) env := by
  refine ⟨by rw [wipeU_len]; exact g.len, fun i u e => ?_, fun i => ?_, fun i j n hi hj => ?_, fun i n hi => ?_, fun i n hi => ?_, g.fb⟩
  · rw [wipeU_get] at e
    split at e
    · split at e <;> cases e
    · rename_i z
      rw [if_neg z]
      exact g.get i u e
  · split
    · exact List.nodup_nil
    · exact g.nd i
  · split at hi
    · cases hi
    · split at hj
      · cases hj
      · exact g.dj i j n hi hj
  · split at hi
    · cases hi
    · exact g.nf i n hi
  · split at hi
    · cases hi
    · exact g.bd i n hi
def vRetD (T : List Nat) (r : VP) : VS := fun e => (r e).bindS fun ps e1 => match keysU ps with
  | some kvs => if dicB (kvs.map (·.1)) = true then .rt (.dic kvs) (wipeU e1 T) else .stk
  | none => .stk
theorem bind_bindS' {α β : Type} (r : Res α) (f : α → IH → Res β) (env : En) (g : β → IH → Out) : (r.bind f).bindS env g = r.bindS env fun a h => (f a h).bindS env g := by
  cases r <;> rfl
theorem ss_retD {ps : List Nat} {dl dp' : Nat → Nat} (pd : Pd ps dp) (hp : SPt dp io k T mp vp) (hT : T.Nodup) (hTp : ∀ i ∈ T, ps.length ≤ i) : SS ps (.fr (k + 1)) dl dp dp' (sRet (mDic mp)) (vRetD T vp) := fun b0 F S h ve env g lw hb => by
  have e : sRet (mDic mp) env h = (mp env h).bindS env fun ps h1 => ((match keysD ps with
      | some kvs => (match dicNew kvs with
        | some kvs' => Res.val (D.ref h1.length) (h1 ++ [.dic false kvs'])
        | none => .stk)
      | none => .stk) : Res D).bindS env fun d h1 => .rt d h1 := by
    unfold sRet mDic
    rw [bind_bindS'] <;> rfl
  rw [e]
  refine PoE.bindS0 pd lw hb (hp F S h ve env g) fun qs rs F1 S1 h1 ve1 Sr e1 t1 r1 s1 => ?_
  cases z : keysU qs with
  | none => trivial
  | some ks =>
    dsimp only
    split
    · rename_i hc
      obtain ⟨r1a, A, r1b⟩ := r1
      have l : qs.length = rs.length := by
        have := r1b.length
        rwa [List.length_map, List.length_map] at this
      obtain ⟨kvs, q1, q2, q3, q4⟩ := keys_ok (Sr := Sr) r1a z l
      rw [q2] at hc
      obtain ⟨hn0, nd⟩ := dicB_ok hc
      simp only [q1, hn0]
      have rv : RVs h1 F1 k A (ks.map (·.2)) (kvs.map (·.2)) := by
        rw [q3, q4]
        exact r1b.rvs
      have hA := r1b.mem
      have gu := e1.gd.unsetAll T
      have g3 := gu.grow [.dic false kvs] (F' := F1) (fun _ x => x) (fun _ x => .inl x)
      have s3 : SP ps b0 dp F S h env F1 (fun i => if i ∈ T then [] else S1 i) (h1 ++ [.dic false kvs]) (wipeU ve1 T) env := by
        refine ⟨g3, fun i hi n hn => ?_, s1.ff, s1.fn, Nat.le_trans s1.hl (by rw [List.length_append]; omega), fun n hn hs => ?_, fun i n hn => ?_, s1.ro⟩
        · split at hn
          · cases hn
          · exact s1.lw i hi n hn
        · rw [List.getElem?_append_left (Nat.lt_of_lt_of_le hn s1.hl)]
          exact s1.fr n hn hs
        · split at hn
          · cases hn
          · exact s1.sn i n hn
      have hAbd : ∀ n ∈ A, n < h1.length := fun n hn => (hA n hn).elim (t1.bd n) fun ⟨i, _, q⟩ => e1.gd.bd i n q
      have hAlo : ∀ n ∈ A, b0 ≤ n := fun n hn => (hA n hn).elim (fun q => Nat.le_trans hb (t1.lo n q)) fun ⟨i, q0, q⟩ => s1.lw i (hTp i q0) n q
      refine ⟨_, env, _, _, _, h1.length :: A, rfl, s3.weak pd, ⟨?_, fun n hn => ?_, fun n hn => ?_, fun n hn x => ?_, fun n hn i x => ?_⟩, ?_⟩
      · refine List.nodup_cons.mpr ⟨fun hm => absurd (hAbd _ hm) (Nat.lt_irrefl _), r1b.nodup e1.gd.nd e1.gd.dj hT t1.nd t1.ns⟩
      · rcases List.mem_cons.mp hn with rfl | hn
        · exact Nat.le_trans hb e1.hl
        · exact hAlo n hn
      · rw [List.length_append, List.length_singleton]
        rcases List.mem_cons.mp hn with rfl | hn
        · omega
        · have := hAbd n hn
          omega
      · rcases x with x | ⟨i, _, x⟩
        · rcases List.mem_cons.mp hn with rfl | hn
          · exact absurd (e1.gd.fb _ x) (Nat.lt_irrefl _)
          · rcases hA n hn with q | ⟨i, _, q⟩
            · exact t1.nf n q x
            · exact e1.gd.nf i n q x
        · split at x
          · cases x
          · rename_i hiT
            rcases List.mem_cons.mp hn with rfl | hn
            · exact absurd (e1.gd.bd _ _ x) (Nat.lt_irrefl _)
            · rcases hA n hn with q | ⟨j, qj, q⟩
              · exact t1.ns n q i x
              · exact hiT (by rw [← e1.gd.dj j i n q x]; exact qj)
      · split at x
        · cases x
        · split at x
          · cases x
          · rename_i hiT
            rcases List.mem_cons.mp hn with rfl | hn
            · exact absurd (e1.gd.bd _ _ x) (Nat.lt_irrefl _)
            · rcases hA n hn with q | ⟨j, qj, q⟩
              · exact t1.ns n q i x
              · exact hiT (by rw [← e1.gd.dj j i n q x]; exact qj)
      · refine RV.dic (last_new h1 _) ⟨q2, nd⟩ (RVs.mono (fun n x => .inl x) (fun n x => List.getElem?_append_left (e1.gd.fb n x)) rv fun n hn => List.getElem?_append_left (hAbd n hn))
    · trivial
end
end VV
set_option Elab.async false
set_option linter.all false
set_option maxRecDepth 100000
/-! the least of pairs -/
namespace VV
open PySem L2 DD
theorem bestU_first (f : Int → Int) (lo : Int) (n : Nat) : ∃ b, bestU PySem.W.minD ((List.range (n + 1)).map fun i : Nat => U.tup [.int (f (lo + (i : Int))), .int (lo + (i : Int))]) = some (.tup [.int (f b), .int b]) ∧ IsFirst f lo (lo + n) b := by
  obtain ⟨b, e, hb⟩ := minD_first f lo n
  refine ⟨b, ?_, hb⟩
  unfold bestU
  have e1 : mapO (toPyU 12) ((List.range (n + 1)).map fun i : Nat => U.tup [.int (f (lo + (i : Int))), .int (lo + (i : Int))]) = some ((List.range (n + 1)).map fun i : Nat => prD (f (lo + (i : Int))) (lo + (i : Int))) := mapO_map fun x _ => rfl
  have e2 : (List.range (n + 1)).map (fun i : Nat => prD (f (lo + (i : Int))) (lo + (i : Int))) = prD (f lo) lo :: (List.range n).map fun i : Nat => prD (f (lo + 1 + (i : Int))) (lo + 1 + (i : Int)) := by
    rw [List.range_succ_eq_map, List.map_cons, List.map_map]
    congr 1
    · simp
    · apply List.map_congr_left
      intro i _
      have : lo + ((i + 1 : Nat) : Int) = lo + 1 + (i : Int) := by omega
      show prD (f (lo + ((i + 1 : Nat) : Int))) (lo + ((i + 1 : Nat) : Int)) = _
      rw [this]
  rw [e1]
  have a1 := alikeB_pairs (fun i : Nat => f (lo + (i : Int))) (fun i : Nat => lo + (i : Int)) (List.range (n + 1))
  have a2 := canLay_pairs (fun i : Nat => f (lo + (i : Int))) (fun i : Nat => lo + (i : Int)) (List.range (n + 1))
  have a3 := depth_pairs (fun i : Nat => f (lo + (i : Int))) (fun i : Nat => lo + (i : Int)) (List.range (n + 1))
  rw [e2] at a1 a2 a3
  rw [e2]
  simp only [a1, a2, a3, decide_true, Bool.and_self, if_true, e]
  rfl
theorem at1 (a b : U) : atI [a, b] 1 = some b := rfl
/-- .. as a min over a range -/
theorem uMin_first (f : Int → Int) (lo hi : Int) (h : lo ≤ hi) : ∃ b, bestU PySem.W.minD ((List.range (hi + 1 - lo).toNat).map fun i : Nat => U.tup [.int (f (lo + (i : Int))), .int (lo + (i : Int))]) = some (.tup [.int (f b), .int b]) ∧ IsFirst f lo hi b := by
  obtain ⟨n, hn⟩ : ∃ n : Nat, (hi + 1 - lo).toNat = n + 1 := ⟨(hi - lo).toNat, by omega⟩
  obtain ⟨b, e, hb⟩ := bestU_first f lo n
  rw [hn]
  refine ⟨b, e, ?_⟩
  rw [show hi = lo + (n : Int) by omega]
  exact hb
end VV
set_option Elab.async false
set_option linter.all false
/-! rows of dots as lists of Bool: false '.', true '#' -/
namespace VV
open PySem L2 DD
def cp (b : Bool) : Nat := if b then 35 else 46
theorem cp_inj {a b : Bool} (h : cp a = cp b) : a = b := by cases a <;> cases b <;> simp [cp] at h ⊢
def rS (l : List Bool) : Str := ⟨(l.map cp).toArray⟩
abbrev rU (l : List Bool) : U := .str (rS l)
theorem rS_e : Str.ofString "" = rS [] := by decide +kernel
theorem rS_w : Str.ofString "." = rS [false] := by decide +kernel
theorem rS_b : Str.ofString "#" = rS [true] := by decide +kernel
theorem rS_wb : Str.ofString ".#" = rS [false, true] := by decide +kernel
theorem rS_app (a b : List Bool) : rS a ++ rS b = rS (a ++ b) := by
  show Str.append _ _ = _
  simp only [Str.append, rS, List.map_append, List.append_toArray]
theorem rS_len (a : List Bool) : (rS a).length = a.length := by simp only [Str.length, rS, List.size_toArray, List.length_map]
theorem map_cp_inj : ∀ {a b : List Bool}, a.map cp = b.map cp → a = b
  | [], [], _ => rfl
  | [], _ :: _, h => by simp at h
  | _ :: _, [], h => by simp at h
  | x :: a, y :: b, h => by
    rw [List.map_cons, List.map_cons] at h
    injection h with h1 h2
    rw [cp_inj h1, map_cp_inj h2]
theorem rS_inj (a b : List Bool) : (rS a = rS b) = (a = b) := by
  apply propext
  refine ⟨fun h => ?_, fun h => by rw [h]⟩
  injection h with h
  have := congrArg Array.toList h
  simp only [List.toList_toArray] at this
  exact map_cp_inj this
theorem rS_at (l : List Bool) (i : Int) : atI (rS l).cps.toList i = (atI l i).map cp := by
  show atI (l.map cp) i = _
  rw [atI_map]
theorem rS_one (b : Bool) : (⟨#[cp b]⟩ : Str) = rS [b] := rfl
theorem rS_cut (l : List Bool) (lo hi : Option Int) : cutS (rS l) lo hi = rS (cutA l lo hi) := by
  unfold cutS cutA
  rw [rS_len]
  unfold rS
  simp [List.map_take, List.map_drop]
theorem rS_signs (l : List Bool) : signsU (rS l) = l.map fun b => rU [b] := by
  unfold signsU rS
  simp only [List.toList_toArray, List.map_map]
  rfl
theorem foldl_rep (c : Nat) : ∀ (n : Nat) (acc : Array Nat), (List.replicate n #[c]).foldl (· ++ ·) acc = acc ++ (List.replicate n c).toArray
  | 0, acc => by simp
  | n + 1, acc => by
    rw [List.replicate_succ, List.foldl_cons, foldl_rep c n, List.replicate_succ]
    apply Array.ext'
    simp
theorem rS_mul (b : Bool) (k : Int) : Txt.mul (rS [b]) k = rS (List.replicate k.toNat b) := by
  unfold Txt.mul
  by_cases h : k < 1
  · rw [if_pos h, show k.toNat = 0 by omega]
    rfl
  · rw [if_neg h]
    by_cases h2 : k = 1
    · subst h2
      rfl
    · have : (k == 1 || (rS [b]).length == 0) = false := by
        rw [rS_len]
        simp [h2]
      rw [this, if_neg Bool.false_ne_true]
      have e := foldl_rep (cp b) k.toNat #[]
      unfold rS
      rw [List.map_replicate]
      show Str.mk _ = _
      congr 1
      rw [show ([b].map cp).toArray = #[cp b] from rfl, e]
      simp
theorem uMul_r (b : Bool) (k : Int) (h1 : -1000000 ≤ k) (h2 : k ≤ 1000000) : uMul (rU [b]) (.int k) = some (rU (List.replicate k.toNat b)) := by
  have h3 : (rS [b]).length * k.toNat ≤ sizeLine := by
    rw [rS_len, szl, List.length_singleton]
    omega
  have h4 : (rS [b]).length ≤ 1000000 := by
    rw [rS_len, List.length_singleton]
    omega
  simp only [uMul, h1, h2, h3, h4, and_self, if_true, rS_mul]
theorem not_in_r (b : Bool) : uNotIn (rU [b]) (rU [false, true]) = some (.bl false) := by cases b <;> kernel_rfl
theorem one_eq (a b : Bool) : ([a] = [b]) = (a = b) := by simp
end VV
set_option Elab.async false
set_option linter.all false
/-! `in` a plain tuple -/
namespace VV
open PySem L2 DD
theorem any_eq {x : U} {n : Nat} (hx : plain n x = true) : ∀ {us : List U} {k : Nat}, us.all (plain k) = true → (us.map pyOf).any (fun z => PyData.eqv z (pyOf x)) = us.any fun z => eqB z x
  | [], _, _ => rfl
  | u :: us, k, h => by
    rw [List.all_cons, Bool.and_eq_true] at h
    rw [List.map_cons, List.any_cons, List.any_cons, any_eq hx h.2, eqv_eqB h.1 hx]
theorem inTU_tup {x : U} {us : List U} (hx : plain 11 x = true) (hu : us.all (plain 10) = true) : inTU x (.tup us) = some (us.any fun z => eqB z x) := by
  have h1 : plain 11 (.tup us) = true := by rw [plain]; exact hu
  have h2 : plain 11 (.lst us) = true := by rw [plain]; exact hu
  unfold inTU
  rw [plain_py hx, plain_py h1]
  have s2 := plain_shaped h2
  rw [pyOf, pyOfs_map] at s2
  simp only [plain_shaped hx, pyOf, pyOfs_map, s2, Bool.and_self, if_true, any_eq hx hu]
theorem inTU_lst {x : U} {us : List U} (hx : plain 11 x = true) (hu : us.all (plain 10) = true) : inTU x (.lst us) = some (us.any fun z => eqB z x) := by
  have h2 : plain 11 (.lst us) = true := by rw [plain]; exact hu
  unfold inTU
  rw [plain_py hx, plain_py h2]
  have s2 := plain_shaped h2
  rw [pyOf, pyOfs_map] at s2
  simp only [plain_shaped hx, pyOf, pyOfs_map, s2, Bool.and_self, if_true, any_eq hx hu]
theorem uIn_int (i : Int) {us : List U} (hu : us.all (plain 10) = true) : uIn (.int i) (.tup us) = some (.bl (us.any fun z => eqB z (.int i))) := by
  show (inTU (.int i) (.tup us)).map _ = _
  rw [inTU_tup rfl hu]
  rfl
theorem uNotIn_int (i : Int) {us : List U} (hu : us.all (plain 10) = true) : uNotIn (.int i) (.tup us) = some (.bl !(us.any fun z => eqB z (.int i))) := by
  show (inTU (.int i) (.tup us)).map _ = _
  rw [inTU_tup rfl hu]
  rfl
end VV
set_option Elab.async false
set_option linter.all false
/-! repr of what is plain -/
namespace VV
open PySem L2 DD
theorem strOk_r (l : List Bool) : PyData.strOk (rS l) = true := by
  unfold PyData.strOk rS
  simp only [List.all_toArray, List.all_map, List.all_eq_true]
  intro b _
  cases b <;> rfl
theorem ok_row {l : List Bool} {w : Nat} (h : l.length ≤ w) : Ok 0 w (VV.rU l) := ok_str (strOk_r l) (by rw [rS_len]; exact h)
theorem repr_ex {u : U} (h : Ok 11 1048576 u) (hs : ∀ us, u ≠ .fl us) : ∃ s, uReprA [u] = some (.str s) := by
  have hp := h.p
  unfold uReprA reprLU
  cases u with
  | non => exact ⟨_, rfl⟩
  | bl b => exact ⟨_, rfl⟩
  | int i =>
    have : i.natAbs.log2 < 1920 := by
      have := h.s
      rw [pyOf, PyData.showable, decide_eq_true_eq] at this
      omega
    simp only [this, if_true]
    exact ⟨_, rfl⟩
  | str x =>
    have : (reprText x).length ≤ sizeLine := by
      have := shown_le h
      exact this
    simp only [this, if_true]
    exact ⟨_, rfl⟩
  | tup us =>
    simp only [uRepr_tup h]
    exact ⟨_, rfl⟩
  | lst us =>
    simp only [uRepr_lst h]
    exact ⟨_, rfl⟩
  | fl us => exact absurd rfl (hs us)
  | dic us => simp [plain] at hp
  | gl x => simp [plain] at hp
  | ins c fs => simp [plain] at hp
  | op v => simp [plain] at hp
end VV
set_option Elab.async false
set_option linter.all false
set_option maxRecDepth 100000
/-! keys of dicts -/
namespace VV
open PySem L2 DD
theorem eqK_str (x y : Str) : eqK (.str x) (.str y) = decide (x = y) := rfl
theorem eqK_int (x y : Int) : eqK (.int x) (.int y) = decide (x = y) := rfl
theorem eqK_si (x : Str) (y : Int) : eqK (.str x) (.int y) = false := rfl
theorem eqK_is (x : Int) (y : Str) : eqK (.int x) (.str y) = false := rfl
theorem eqK_bl (x y : Bool) : eqK (.bl x) (.bl y) = decide (x = y) := by cases x <;> cases y <;> decide
theorem eqK_tup (xs ys : List KD) : eqK (.tup xs) (.tup ys) = NestedKey.beqAll (nks xs) (nks ys) := rfl
theorem beqs_cons (a b : KD) (as bs : List KD) : NestedKey.beqAll (nks (a :: as)) (nks (b :: bs)) = (eqK a b && NestedKey.beqAll (nks as) (nks bs)) := rfl
theorem beqs_nil : NestedKey.beqAll (nks []) (nks []) = true := rfl
theorem eqK_self (k : KD) : eqK k k = true := eqK_iff.mpr rfl
end VV
set_option Elab.async false
set_option linter.all false
set_option maxRecDepth 100000
/-! sorted, dicts, the greatest of three: without a heap -/
namespace VV
open PySem L2 DD
/-! ### sorted -/
def sortU (us : List U) : Option (List U) := match mapO (toPyU 12) us with
  | some ps => if (alikeB' ps && sortB ps && decide (PyData.depthAll ps ≤ 60)) = true then some ((isort (leD false) (us.zip ps)).map (·.1)) else none
  | none => none
def uSorted : List U → Option U := fun as => match as with
  | [x] => match seqTU x with
    | some us => (sortU us).map .lst
    | none => none
  | _ => none
section
variable {h : IH} {G : Nat → Prop}
inductive Pd2 {α β : Type} (R : α → β → Prop) : List α → List β → Prop
  | nil : Pd2 R [] []
  | cons {a : α} {b : β} {as : List α} {bs : List β} : R a b → Pd2 R as bs → Pd2 R (a :: as) (b :: bs)
theorem insU_rel {x : U} {d : D} {p : PyData} (r : RF h G x d) : ∀ {vs : List (U × PyData)} {ds : List (D × PyData)}, Pd2 (fun a b => RF h G a.1 b.1 ∧ a.2 = b.2) vs ds → Pd2 (fun a b => RF h G a.1 b.1 ∧ a.2 = b.2) (insS (leD false) (x, p) vs) (insS (leD false) (d, p) ds)
  | _, _, .nil => .cons ⟨r, rfl⟩ .nil
  | _, _, .cons (a := a) (b := b) h t => by
    unfold insS
    have e : leD false (x, p) a = leD false (d, p) b := by
      unfold leD
      rw [h.2]
    rw [e]
    split
    · exact .cons ⟨r, rfl⟩ (.cons h t)
    · exact .cons h (insU_rel r t)
theorem isortU_rel : ∀ {vs : List (U × PyData)} {ds : List (D × PyData)}, Pd2 (fun a b => RF h G a.1 b.1 ∧ a.2 = b.2) vs ds → Pd2 (fun a b => RF h G a.1 b.1 ∧ a.2 = b.2) (isort (leD false) vs) (isort (leD false) ds)
  | _, _, .nil => .nil
  | _, _, .cons (a := a) (b := b) h t => by
    unfold isort
    obtain ⟨x, p⟩ := a
    obtain ⟨d, p'⟩ := b
    have e : p = p' := h.2
    subst e
    exact insU_rel h.1 (isortU_rel t)
theorem rfs_pd : ∀ {vs : List (U × PyData)} {ds : List (D × PyData)}, Pd2 (fun a b => RF h G a.1 b.1 ∧ a.2 = b.2) vs ds → RFs h G (vs.map (·.1)) (ds.map (·.1))
  | _, _, .nil => .nil
  | _, _, .cons h t => .cons h.1 (rfs_pd t)
theorem pd_rfs : ∀ {us : List U} {ds : List D} {ps : List PyData}, RFs h G us ds → Pd2 (fun (a : U × PyData) (b : D × PyData) => RF h G a.1 b.1 ∧ a.2 = b.2) (us.zip ps) (ds.zip ps)
  | _, _, [], .nil => .nil
  | _, _, _ :: _, .nil => .nil
  | _, _, [], .cons _ _ => .nil
  | _, _, p :: ps, .cons a b => .cons ⟨a, rfl⟩ (pd_rfs b)
theorem sortU_ok {us us' : List U} {ds : List D} (r : RFs h G us ds) (e : sortU us = some us') : ∃ ds', sortO h ds = some ds' ∧ RFs h G us' ds' := by
  unfold sortU at e
  split at e
  · rename_i ps z
    split at e
    · rename_i z2
      cases e
      refine ⟨_, ?_, rfs_pd (isortU_rel (pd_rfs r))⟩
      unfold sortO
      rw [mapO_rel (fun r e => toPy_ok r e) r z]
      dsimp only
      rw [if_pos z2]
    · cases e
  · cases e
theorem sorted_cases {us : List U} {ds : List D} {r : U} (rs : RFs h G us ds) (e : uSorted us = some r) : ∃ vs es, r = .lst vs ∧ RFs h G vs es ∧ pySorted ds h = .val (.ref h.length) (h ++ [.lst es]) := by
  unfold uSorted at e
  split at e
  · cases rs with
    | cons a b => cases b with
      | nil =>
        split at e
        · rename_i vs z
          obtain ⟨es, z1, z2⟩ := seqTU_ok a z
          obtain ⟨us', z3, rfl⟩ := Option.map_eq_some_iff.mp e
          obtain ⟨ds', z4, z5⟩ := sortU_ok z2 z3
          exact ⟨us', ds', rfl, z5, by simp only [pySorted, z1, z4]⟩
        · cases e
  · cases e
end
theorem od_sorted : OdN pySorted uSorted := fun h G us ds r hb rs e => by
  obtain ⟨vs, es, rfl, q, z⟩ := sorted_cases rs e
  exact ⟨_, _, z, newL hb q⟩
theorem oo_sorted : OoN 1 pySorted uSorted := fun h G us ds r hb rs e => by
  obtain ⟨vs, es, rfl, q, z⟩ := sorted_cases rs e
  exact ⟨_, _, _, z, newO hb q⟩
/-! ### len, list of dicts -/
def lenUA (u : U) : Option Nat := match u with
  | .dic kvs => some kvs.length
  | u => lenU u
def uLenA : List U → Option U := fun as => match as with
  | [x] => (lenUA x).map fun n : Nat => U.int n
  | _ => none
theorem lenUA_ok {h : IH} {G : Nat → Prop} {a : U} {c : D} {n : Nat} (r : RF h G a c) (e : lenUA a = some n) : lenA h c = some n := by
  cases r with
  | dic f hn ek q =>
    cases e
    have := congrArg List.length ek
    rw [List.length_map, List.length_map] at this
    simp only [lenA, hn, this]
  | ref f hn q =>
    have := lenU_ok (.ref f hn q) (show lenU _ = some n from e)
    simp only [lenA, hn]
    exact this
  | ins f hn c q => cases e
  | tup q => exact lenU_ok (.tup q) e
  | fl q => exact lenU_ok (.fl q) e
  | str x => exact lenU_ok (.str x : RF h G _ _) e
  | non => cases e
  | bl b => cases e
  | int b => cases e
  | op b => cases e
  | gl b => cases e
theorem od_lenA : OdN pyLenA uLenA := fun h G us ds r hb rs e => by
  unfold uLenA at e
  split at e
  · cases rs with
    | cons a b => cases b with
      | nil =>
        obtain ⟨n, z, rfl⟩ := Option.map_eq_some_iff.mp e
        exact same (by simp only [pyLenA, lenUA_ok a z]) (.int _)
  · cases e
theorem fl_lenA : FlN uLenA := fun us r e => by
  unfold uLenA at e
  split at e
  · obtain ⟨n, z, rfl⟩ := Option.map_eq_some_iff.mp e
    rfl
  · cases e
mutual
def unkU : KD → U
  | .non => .non
  | .bl b => .bl b
  | .int i => .int i
  | .str x => .str x
  | .tup ks => .tup (unkUs ks)
def unkUs : List KD → List U
  | [] => []
  | k :: ks => unkU k :: unkUs ks
end
mutual
theorem rf_unk {h : IH} {G : Nat → Prop} : ∀ k : KD, RF h G (unkU k) (unk k)
  | .non => .non
  | .bl b => .bl b
  | .int b => .int b
  | .str b => .str b
  | .tup ks => .tup (rfs_unk ks)
theorem rfs_unk {h : IH} {G : Nat → Prop} : ∀ ks : List KD, RFs h G (unkUs ks) (unks ks)
  | [] => .nil
  | k :: ks => .cons (rf_unk k) (rfs_unk ks)
end
def uListA : List U → Option U := fun as => match as with
  | [.dic kvs] => some (.lst (kvs.map fun p => unkU p.1))
  | as => uList as
theorem rfs_keys {h : IH} {G : Nat → Prop} : ∀ {ks : List (KD × U)} {kvs : List (KD × D)}, ks.map (·.1) = kvs.map (·.1) → RFs h G (ks.map fun p => unkU p.1) (kvs.map fun p => unk p.1)
  | [], [], _ => .nil
  | [], _ :: _, e => by simp at e
  | _ :: _, [], e => by simp at e
  | (a, v) :: ks, (b, d) :: kvs, e => by
    simp only [List.map_cons, List.cons.injEq] at e
    obtain ⟨rfl, e⟩ := e
    exact .cons (rf_unk a) (rfs_keys e)
theorem list_casesA {h : IH} {G : Nat → Prop} {us : List U} {ds : List D} {r : U} (rs : RFs h G us ds) (e : uListA us = some r) : ∃ vs es, r = .lst vs ∧ RFs h G vs es ∧ pyListA ds h = .val (.ref h.length) (h ++ [.lst es]) := by
  unfold uListA at e
  split at e
  · cases rs with
    | cons a b => cases b with
      | nil => cases a with
        | dic f hn ek q =>
          cases e
          exact ⟨_, _, rfl, rfs_keys ek, by simp only [pyListA, hn]⟩
  · rename_i hx
    obtain ⟨vs, es, e1, e2, e3⟩ := list_cases rs e
    refine ⟨vs, es, e1, e2, ?_⟩
    rw [← e3]
    unfold pyListA
    split
    · rename_i n
      split
      · rename_i lk kvs z
        cases rs with
        | cons a b => cases b with
          | nil => cases a with
            | ref f hn q =>
              rw [z] at hn
              cases hn
            | ins f hn c q =>
              rw [z] at hn
              cases hn
            | dic f hn c q => exact (hx _ rfl).elim
      · rfl
    · rfl
theorem od_listA : OdN pyListA uListA := fun h G us ds r hb rs e => by
  obtain ⟨vs, es, rfl, q, z⟩ := list_casesA rs e
  exact ⟨_, _, z, newL hb q⟩
theorem oo_listA : OoN 1 pyListA uListA := fun h G us ds r hb rs e => by
  obtain ⟨vs, es, rfl, q, z⟩ := list_casesA rs e
  exact ⟨_, _, _, z, newO hb q⟩
/-! ### max, min of three -/
def uMaxA : List U → Option U := fun as => match as with
  | [.int i, .int j, .int k] => some (.int (max (max i j) k))
  | as => uMax as
def uMinA : List U → Option U := fun as => match as with
  | [.int i, .int j, .int k] => some (.int (min (min i j) k))
  | as => uMin as
theorem three {h : IH} {G : Nat → Prop} {us : List U} {ds : List D} (rs : RFs h G us ds) : (∃ i j k, us = [.int i, .int j, .int k] ∧ ds = [.int i, .int j, .int k]) ∨ ((∀ i j k, us ≠ [.int i, .int j, .int k]) ∧ ∀ i j k, ds ≠ [.int i, .int j, .int k]) := by
  by_cases z : ∃ i j k, ds = [D.int i, .int j, .int k]
  · obtain ⟨i, j, k, rfl⟩ := z
    cases rs with
    | cons a b => cases b with
      | cons b c => cases c with
        | cons c d =>
          cases d
          cases a
          cases b
          cases c
          exact .inl ⟨i, j, k, rfl, rfl⟩
  · refine .inr ⟨fun i j k e => z ?_, fun i j k e => z ⟨i, j, k, e⟩⟩
    subst e
    cases rs with
    | cons a b => cases b with
      | cons b c => cases c with
        | cons c d =>
          cases d
          cases a
          cases b
          cases c
          exact ⟨i, j, k, rfl⟩
theorem od_maxA : OdN pyMaxA uMaxA := fun h G us ds r hb rs e => by
  rcases three rs with ⟨i, j, k, rfl, rfl⟩ | ⟨h1, h2⟩
  · cases e
    exact same rfl (.int _)
  · have e1 : uMaxA us = uMax us := by
      unfold uMaxA
      split
      · exact absurd rfl (h1 _ _ _)
      · rfl
    have e2 : pyMaxA ds = pyMax ds := by
      funext h
      unfold pyMaxA
      split
      · exact absurd rfl (h2 _ _ _)
      · rfl
    rw [e1] at e
    rw [e2]
    exact od_max h G us ds r hb rs e
theorem od_minA : OdN pyMinA uMinA := fun h G us ds r hb rs e => by
  rcases three rs with ⟨i, j, k, rfl, rfl⟩ | ⟨h1, h2⟩
  · cases e
    exact same rfl (.int _)
  · have e1 : uMinA us = uMin us := by
      unfold uMinA
      split
      · exact absurd rfl (h1 _ _ _)
      · rfl
    have e2 : pyMinA ds = pyMin ds := by
      funext h
      unfold pyMinA
      split
      · exact absurd rfl (h2 _ _ _)
      · rfl
    rw [e1] at e
    rw [e2]
    exact od_min h G us ds r hb rs e
theorem fl_maxA : FlN uMaxA := fun us r e => by
  unfold uMaxA at e
  split at e
  · cases e
    rfl
  · exact fl_max us r e
theorem fl_minA : FlN uMinA := fun us r e => by
  unfold uMinA at e
  split at e
  · cases e
    rfl
  · exact fl_min us r e
end VV
set_option Elab.async false
set_option linter.all false
set_option maxRecDepth 100000
/-! targets of all kinds: names that own, patterns, items -/
namespace VV
open PySem L2 DD
section
variable {ps : List Nat} {b0 : Nat} {dp dp' : Nat → Nat} {io : List Nat} {F F' F2 : Nat → Prop} {S S' S2 : Nat → List Nat} {h h' h2 : IH} {ve ve' ve2 : UE} {env env' : En}
theorem SP.ep (s : SP ps b0 dp F S h env F' S' h' ve' env') (a : EP dp io F' S' h' ve' env' F2 S2 h2 ve2) (hb : b0 ≤ h.length) : SP ps b0 dp F S h env F2 S2 h2 ve2 env' := by
  have old : ∀ n i, n < h.length → (∀ i, n ∉ S i) → n ∉ S' i := fun n i hn hs z => by
    rcases s.sn i n z with q | q | ⟨j, _, q⟩
    · omega
    · exact hs i q.2
    · exact hs j q
  refine ⟨a.gd, fun i hi n hn => ?_, fun n x => a.ff n (s.ff n x), fun n x => ?_, Nat.le_trans s.hl a.hl, fun n hn hs => ?_, fun i n x => ?_, s.ro⟩
  · rcases a.sn i n hn with q | q
    · exact s.lw i hi n q
    · exact Nat.le_trans hb (Nat.le_trans s.hl q)
  · rcases a.fn n x with q | q | ⟨i, _, q⟩
    · exact s.fn n q
    · exact .inr (.inl (Nat.le_trans s.hl q))
    · rcases s.sn i n q with q | q | ⟨j, _, q⟩
      · exact .inr (.inl q)
      · exact .inr (.inr ⟨i, q.2⟩)
      · exact .inr (.inr ⟨j, q⟩)
  · rw [a.fr n (Nat.lt_of_lt_of_le hn s.hl) fun i _ => old n i hn hs]
    exact s.fr n hn hs
  · rcases a.sn i n x with q | q
    · exact s.sn i n q
    · exact .inl (Nat.le_trans s.hl q)
/-- a change deep in a slot, at any time of a statement -/
theorem mut_goS {i n j : Nat} {f : D → List D → IH → Res D} {g : U → List U → Option (U × U)} {T : String} (mo : Mo j T f g) (hd : dp i = n + (j + 1)) (hb : b0 ≤ h.length) (a : SP ps b0 dp F S h env F2 S2 h2 ve2 env') {u w w' r : U} {kv as : List U} {kd das : List D} {di d : D} {Sa : List Nat} (ei : env'[i]? = some (some di)) (rk : RFs h2 F2 kv kd) (hl : kv.length = n) (hp : getPD h2 di kd = some d)
    (hs : slot ve2 i = some u) (hg : getP u kv = some w) (ra : RVs h2 F2 j Sa as das) (t : Tm F2 S2 h.length h2 Sa) (z : g w as = some (w', r)) :
    ∃ h3 r' S3 n0, f d das h2 = .val r' h3 ∧ SP ps b0 dp F S h env F2 S3 h3 (ve2.set i (some (setP u kv w'))) env' ∧ n0 ∈ S2 i ∧ (∀ m, m ≠ n0 → h3[m]? = h2[m]?) ∧ h3.length = h2.length ∧ (∀ k m, m ∈ S3 k → m ∈ S2 k ∨ m ∈ Sa) := by
  obtain ⟨d2, e3, ru⟩ := a.gd.get i u (slot_some hs)
  rw [ei] at e3
  cases e3
  have hk : dp i = kv.length + (j + 1) := by rw [hl]; exact hd
  rw [hk] at ru
  obtain ⟨e, A, Tw, B, w1, w2, w3, w4⟩ := way rk ru hg
  have w5 := w1 h2 fun _ _ => rfl
  rw [hp] at w5
  cases w5
  have nd := a.gd.nd i
  rw [w2] at nd
  have hTi : ∀ m ∈ Tw, m ∈ S2 i := fun m hm => by
    rw [w2]
    exact List.mem_append_left _ (List.mem_append_right _ hm)
  have nd1 := (List.nodup_append.mp nd).1
  have ndT := (List.nodup_append.mp nd1).2.1
  obtain ⟨n0, h3, r', T', y1, y2, y3, y4, y5, y6, y7, y8⟩ := mo h2 F2 Tw Sa w d as das w' r a.gd.fb w3 ra (by
    rw [List.nodup_append]
    refine ⟨ndT, t.nd, fun x hx y hy e => ?_⟩
    subst e
    exact t.ns x hy i (hTi x hx)) (fun m hm => by
    rcases List.mem_append.mp hm with hm | hm
    · exact a.gd.nf i m (hTi m hm)
    · exact t.nf m hm) z
  have n0i : n0 ∈ S2 i := hTi n0 y4
  have hF : ∀ m, F2 m → h3[m]? = h2[m]? := fun m x => y3 m fun e => a.gd.nf i n0 n0i (by rw [← e]; exact x)
  have hAB : ∀ m, m ∈ A ∨ m ∈ B → m ≠ n0 := fun m hm e => by
    subst e
    rcases hm with hm | hm
    · exact (List.nodup_append.mp nd1).2.2 m hm m y4 rfl
    · exact (List.nodup_append.mp nd).2.2 m (List.mem_append_right _ y4) m hm rfl
  have rn := w4 h3 F2 w' T' (fun _ x => x) hF (fun m hm => y3 m (hAB m hm)) y5
  have hmem : ∀ m, m ∈ A ++ T' ++ B → m ∈ S2 i ∨ m ∈ Sa := fun m hm => by
    rw [w2]
    rcases List.mem_append.mp hm with hm | hm
    · rcases List.mem_append.mp hm with hm | hm
      · exact .inl (List.mem_append_left _ (List.mem_append_left _ hm))
      · rcases y7 m hm with q | q
        · exact .inl (List.mem_append_left _ (List.mem_append_right _ q))
        · exact .inr q
    · exact .inl (List.mem_append_right _ hm)
  have hSk : ∀ k m, m ∈ (if k = i then A ++ T' ++ B else S2 k) → m ∈ S2 k ∨ m ∈ Sa := fun k m hm => by
    split at hm
    · rename_i q
      rw [q]
      exact hmem m hm
    · exact .inl hm
  refine ⟨h3, r', fun k => if k = i then A ++ T' ++ B else S2 k, n0, y1, ⟨⟨?_, fun k v ek => ?_, fun k => ?_, fun k l m hk hl => ?_, fun k m hk => ?_, fun k m hk => ?_, fun m x => by rw [y2]; exact a.gd.fb m x⟩, fun k hk m hm => ?_, a.ff, a.fn, by rw [y2]; exact a.hl, fun m hm hn => ?_, fun k m hkm => ?_, a.ro⟩, n0i, y3, y2, hSk⟩
  · rw [List.length_set]
    exact a.gd.len
  · rw [List.getElem?_set] at ek
    split at ek
    · rename_i q
      subst q
      split at ek
      · cases ek
        refine ⟨di, ei, ?_⟩
        rw [if_pos rfl, hk]
        exact rn
      · cases ek
    · rename_i q
      obtain ⟨d', e1, r1⟩ := a.gd.get k v ek
      refine ⟨d', e1, ?_⟩
      rw [if_neg fun z => q z.symm]
      exact r1.mono (fun _ x => x) hF fun m hm => y3 m fun e => q (a.gd.dj i k m (by rw [e]; exact n0i) hm)
  · show (if k = i then A ++ T' ++ B else S2 k).Nodup
    split
    · rw [List.nodup_append] at nd ⊢
      rw [List.nodup_append] at nd1 ⊢
      refine ⟨⟨nd1.1, y6, fun x hx y hy e => ?_⟩, nd.2.1, fun x hx y hy e => ?_⟩
      · subst e
        rcases y7 x hy with q | q
        · exact nd1.2.2 x hx x q rfl
        · exact t.ns x q i (by rw [w2]; exact List.mem_append_left _ (List.mem_append_left _ hx))
      · subst e
        rcases List.mem_append.mp hx with hx | hx
        · exact nd.2.2 x (List.mem_append_left _ hx) x hy rfl
        · rcases y7 x hx with q | q
          · exact nd.2.2 x (List.mem_append_right _ q) x hy rfl
          · exact t.ns x q i (by rw [w2]; exact List.mem_append_right _ hy)
    · exact a.gd.nd k
  · split at hk <;> split at hl
    · rename_i p q
      rw [p, q]
    · rename_i p q
      rcases hmem m hk with x | x
      · exact absurd (a.gd.dj i l m x hl).symm q
      · exact absurd hl (t.ns m x l)
    · rename_i p q
      rcases hmem m hl with x | x
      · exact absurd (a.gd.dj i k m x hk).symm p
      · exact absurd hk (t.ns m x k)
    · exact a.gd.dj k l m hk hl
  · rcases hSk k m hk with x | x
    · exact a.gd.nf k m x
    · exact t.nf m x
  · rw [y2]
    rcases hSk k m hk with x | x
    · exact a.gd.bd k m x
    · exact t.bd m x
  · rcases hSk k m hm with x | x
    · exact a.lw k hk m x
    · exact Nat.le_trans hb (t.lo m x)
  · rw [y3 m fun e => ?_]
    · exact a.fr m hm hn
    · subst e
      rcases a.sn i m n0i with q | q | ⟨j, _, q⟩
      · omega
      · exact hn i q.2
      · exact hn j q
  · rcases hSk k m hkm with x | x
    · exact a.sn k m x
    · exact .inl (t.lo m x)
end
/-- a target of a value of a depth, amid a statement; B: the cells of values that wait -/
def TG (ps : List Nat) (dp dp' : Nat → Nat) (k : Nat) (g : MTg) (t : VTg) : Prop := ∀ b0 F S h env F' S' h' ve' env' u d A B, b0 ≤ h.length → SP ps b0 dp F S h env F' S' h' ve' env' → Tm F' S' h.length h' (A ++ B) → RV h' F' k A u d → match t u ve' with
  | none => True
  | some ve2 => ∃ env2 h2 F2 S2, g d env' h' = some (env2, h2) ∧ SP ps b0 dp' F S h env F2 S2 h2 ve2 env2 ∧ Tm F2 S2 h.length h2 B ∧ (∀ n, F' n → F2 n) ∧ (∀ n, F' n → h2[n]? = h'[n]?) ∧ ∀ n ∈ B, h2[n]? = h'[n]?
def TGs (ps : List Nat) (dp dp' : Nat → Nat) (ks : List Nat) (g : MTs) (t : VTs) : Prop := ∀ b0 F S h env F' S' h' ve' env' us ds A, b0 ≤ h.length → SP ps b0 dp F S h env F' S' h' ve' env' → Tm F' S' h.length h' A → RVl h' F' ks A us ds → match t us ve' with
  | none => True
  | some ve2 => ∃ env2 h2 F2 S2, g ds env' h' = some (env2, h2) ∧ SP ps b0 dp' F S h env F2 S2 h2 ve2 env2
theorem RVl.mono {h h' : IH} {F F' : Nat → Prop} (hf : ∀ n, F n → F' n) (hh : ∀ n, F n → h'[n]? = h[n]?) : ∀ {ks S : List Nat} {us : List U} {ds : List D}, RVl h F ks S us ds → (∀ n ∈ S, h'[n]? = h[n]?) → RVl h' F' ks S us ds
  | _, _, _, _, .nil, _ => .nil
  | _, _, _, _, .cons a b, hs => .cons (a.mono hf hh fun n hn => hs n (List.mem_append_left _ hn)) (RVl.mono hf hh b fun n hn => hs n (List.mem_append_right _ hn))
section
variable {ps : List Nat} {dp dp' dp2 : Nat → Nat} {k : Nat} {ks : List Nat} {io : List Nat}
theorem tgs_nil : TGs ps dp dp [] gsNil tsNil := fun b0 F S h env F' S' h' ve' env' us ds A hb s t r => by
  cases r
  exact ⟨env', h', F', S', rfl, s⟩
theorem tgs_cons {g : MTg} {gs : MTs} {t : VTg} {ts : VTs} (h1 : TG ps dp dp' k g t) (h2 : TGs ps dp' dp2 ks gs ts) : TGs ps dp dp2 (k :: ks) (gsCons g gs) (tsCons t ts) := fun b0 F S h env F' S' h' ve' env' us ds A hb s tm r => by
  cases r with
  | cons a b =>
    rename_i A1 B1 u d us ds
    have q := h1 b0 F S h env F' S' h' ve' env' u d A1 B1 hb s tm a
    show match (match t u ve' with
      | some e1 => ts us e1
      | none => none) with
      | none => True
      | some ve2 => _
    cases z : t u ve' with
    | none => trivial
    | some ve2 =>
      rw [z] at q
      obtain ⟨env2, hp2, F2, S2, q1, q2, q3, q4, q5, q6⟩ := q
      have w := h2 b0 F S h env F2 S2 hp2 ve2 env2 us ds B1 hb q2 q3 (RVl.mono q4 q5 b q6)
      dsimp only
      cases z2 : ts us ve2 with
      | none => trivial
      | some ve3 =>
        rw [z2] at w
        obtain ⟨env3, h3, F3, S3, w1, w2⟩ := w
        exact ⟨env3, h3, F3, S3, by simp only [gsCons, q1, w1], w2⟩
theorem Tm.left {F : Nat → Prop} {S : Nat → List Nat} {lo : Nat} {h : IH} {A B : List Nat} (t : Tm F S lo h (A ++ B)) : Tm F S lo h A := ⟨(List.nodup_append.mp t.nd).1, fun n hn => t.lo n (List.mem_append_left _ hn), fun n hn => t.bd n (List.mem_append_left _ hn), fun n hn => t.nf n (List.mem_append_left _ hn), fun n hn => t.ns n (List.mem_append_left _ hn)⟩
theorem Tm.right {F : Nat → Prop} {S : Nat → List Nat} {lo : Nat} {h : IH} {A B : List Nat} (t : Tm F S lo h (A ++ B)) : Tm F S lo h B := ⟨(List.nodup_append.mp t.nd).2.1, fun n hn => t.lo n (List.mem_append_right _ hn), fun n hn => t.bd n (List.mem_append_right _ hn), fun n hn => t.nf n (List.mem_append_right _ hn), fun n hn => t.ns n (List.mem_append_right _ hn)⟩
/-- a name -/
theorem tg_name {l : List Nat} (i k : Nat) (hl : i < l.length) (hi : ps.length ≤ i) : TG ps (dpOf l) (dpOf (l.set i k)) k (gN i) (tN i) := fun b0 F S h env F' S' h' ve' env' u d A B hb s t r => by
  refine ⟨env'.set i (some d), h', F', _, rfl, s.setD i hi (fun j hj => dp_set hj) t.left hb (by rw [dp_at hl]; exact r), ⟨t.right.nd, t.right.lo, t.right.bd, t.right.nf, fun n hn j x => ?_⟩, fun _ x => x, fun _ _ => rfl, fun _ _ => rfl⟩
  split at x
  · exact (List.nodup_append.mp t.nd).2.2 n x n hn rfl
  · exact t.right.ns n hn j x
/-- a pattern -/
theorem tg_pat {ts : List Nat} {g : MTg} {t : VTg} (ht : SG dp ts g t) (hts : ∀ i ∈ ts, ps.length ≤ i) : TG ps dp dp 0 g t := fun b0 F S h env F' S' h' ve' env' u d A B hb s tm r => by
  cases r with
  | fz rf =>
    have q := ht F' S' h' ve' env' u d s.gd rf
    revert q
    cases t u ve' with
    | none => exact fun _ => trivial
    | some ve2 =>
      rintro ⟨env2, S2, q1, q2⟩
      have hS : ∀ i n, n ∈ S2 i → n ∈ S' i := fun i n hn => by
        rcases q2.so i with e | e
        · rw [e] at hn
          exact hn
        · rw [e] at hn
          cases hn
      refine ⟨env2, h', F', S2, q1, ⟨q2.gd, fun i hi n hn => s.lw i hi n (hS i n hn), s.ff, s.fn, s.hl, s.fr, fun i n hn => s.sn i n (hS i n hn), fun i hi => ?_⟩, ?_, fun _ x => x, fun _ _ => rfl, fun _ _ => rfl⟩
      · rw [(q2.st i fun z => absurd (hts i z) (Nat.not_le.mpr hi)).2.1]
        exact s.ro i hi
      · have tr := tm.right
        exact ⟨tr.nd, tr.lo, tr.bd, tr.nf, fun n hn i x => tr.ns n hn i (hS i n x)⟩
/-- an item -/
def tItm (i : Nat) (ks : VA) (k : VE) : VTg := fun y e1 => match ks e1 with
  | .val kv e2 => (match k e2 with
    | .val x e3 => (match slot e3 i with
      | some u => match getP u kv with
        | some w => if flat x = true then (match uPut w [x, y] with
          | some (w', _) => some (e3.set i (some (setP u kv w')))
          | none => none) else none
        | none => none
      | none => none)
    | _ => none)
  | _ => none
theorem tg_sub {i n j : Nat} {o mk : ME} {ks : VA} {vk : VE} (hi : i ∉ io) (hd : dp i = n + (j + 1)) (ho : OP dp io i n o ks) (hk : SE dp io .fz mk vk) : TG ps dp dp j (gSubM o mk) (tItm i ks vk) := fun b0 F S h env F1 S1 h1 ve1 env' y dy A B hb s tm r1 => by
  have p1 := ho F1 S1 h1 ve1 env' s.gd
  unfold tItm
  revert p1
  cases ks ve1 with
  | exc x e => exact fun _ => trivial
  | stk => exact fun _ => trivial
  | val kv ve2 =>
    rintro ⟨d, h2, F2, S2, Tr, z, e2, t2, _, di, kd, ei, rk, hl, hp⟩
    dsimp only
    have p2 := hk F2 S2 h2 ve2 env' e2.gd
    revert p2
    cases vk ve2 with
    | exc x e => exact fun _ => trivial
    | stk => exact fun _ => trivial
    | val x ve3 =>
      rintro ⟨dx, h3, F3, S3, Vr, z3, e3, t3, rx, _⟩
      dsimp only
      cases zs : slot ve3 i with
      | none => trivial
      | some u =>
        dsimp only
        cases hg : getP u kv with
        | none => trivial
        | some w =>
          dsimp only
          by_cases hfx : flat x = true
          · rw [if_pos hfx]
            cases zp : uPut w [x, y] with
            | none => trivial
            | some wr =>
              obtain ⟨w', r⟩ := wr
              dsimp only
              have e23 := e2.trans e3
              have s3 := s.ep e23 hb
              have ry : RV h3 F3 j A y dy := RM.keep (md := .fr j) s.gd e23 tm.left r1
              have tk := tm.keep e23
              have hF : ∀ m, F2 m → h3[m]? = h2[m]? := fun m x => e3.fr m (e2.gd.fb m x) fun k _ q => e2.gd.nf k m q x
              have hp3 : getPD h3 di kd = some d := by
                have hu : ve2[i]? = some (some u) := by
                  have := (e3.st i hi).2
                  rw [slot_some zs] at this
                  exact this.symm
                obtain ⟨d2, e5, ru⟩ := e2.gd.get i u hu
                rw [ei] at e5
                cases e5
                have hk2 : dp i = kv.length + (j + 1) := by rw [hl]; exact hd
                rw [hk2] at ru
                obtain ⟨e, A, Tw, B, w1, w2, _, _⟩ := way rk ru hg
                have w5 := w1 h2 fun _ _ => rfl
                rw [hp] at w5
                cases w5
                have hA : ∀ m ∈ A, m ∈ S2 i := fun m hm => by
                  rw [w2]
                  exact List.mem_append_left _ (List.mem_append_left _ hm)
                exact w1 h3 fun m hm => e3.fr m (e2.gd.bd i m (hA m hm)) fun k hk2 q => hi (by rw [e2.gd.dj i k m (hA m hm) q]; exact hk2)
              have ra : RVs h3 F3 j A [x, y] [dx, dy] := by
                have := RVs.cons (rx.rv j hfx) (RVs.cons ry .nil)
                simpa using this
              obtain ⟨h4, r', S4, n0, y1, y2, y3, y4, y5, y6⟩ := mut_goS (mo_put j) hd hb s3 ei (rk.mono e3.ff hF) hl hp3 zs hg ra tk.left zp
              have hset : gSubM o mk dy env' h1 = some (env', h4) := by
                simp only [gSubM, z, z3]
                simp only [setF] at y1
                cases q : pySet d dx dy h3 with
                | none =>
                  rw [q] at y1
                  cases y1
                | some h5 =>
                  rw [q] at y1
                  cases y1
                  rfl
              have tr := tk.right
              refine ⟨env', h4, F3, S4, hset, y2, ⟨tr.nd, tr.lo, fun m hm => by rw [y5]; exact tr.bd m hm, tr.nf, fun m hm k x => ?_⟩, fun m x => e23.ff m x, fun m x => ?_, fun m hm => ?_⟩
              · rcases y6 k m x with q | q
                · exact tr.ns m hm k q
                · exact (List.nodup_append.mp tk.nd).2.2 m q m hm rfl
              · rw [y4 m fun e => s3.gd.nf i n0 y3 (by rw [← e]; exact e23.ff m x)]
                exact e23.fr m (s.gd.fb m x) fun k _ q => s.gd.nf k m q x
              · rw [y4 m fun e => tr.ns m hm i (by rw [e]; exact y3)]
                exact e23.fr m (tm.right.bd m hm) fun k _ q => tm.right.ns m hm k q
          · rw [if_neg hfx]
            trivial
/-- t1, t2, .. = v1, v2, .. -/
def vParT (r : VA) (ts : VTs) : VS := fun e => (r e).bindS fun us e1 => toUO (ts us e1)
theorem RVl.lens {h : IH} {F : Nat → Prop} : ∀ {ks S : List Nat} {us : List U} {ds : List D}, RVl h F ks S us ds → ds.length = ks.length
  | _, _, _, _, .nil => rfl
  | _, _, _, _, .cons _ b => by rw [List.length_cons, List.length_cons, b.lens]
theorem ss_parG {rm : Md} {dl : Nat → Nat} {mr : MA} {vr : VA} {gs : MTs} {ts : VTs} (n : Nat) (pd : Pd ps dp) (ha : SL dp io ks mr vr) (hn : ks.length = n) (hs : n ≤ sizeLine) (ht : TGs ps dp dp' ks gs ts) : SS ps rm dl dp dp' (sAsg (mTup mr) (gT n gs)) (vParT vr ts) := by
  have e : sAsg (mTup mr) (gT n gs) = fun env h => (mr env h).bindS env fun ds h1 => (if ds.length ≤ sizeLine then Res.val (D.tup ds) h1 else .stk).bindS env fun d h1 => toOut (gT n gs d env h1) := by
    funext env h
    unfold sAsg mTup
    rw [bind_bindS]
  rw [e]
  exact fun b0 F S h ve env g lw hb => PoE.bindS0 pd lw hb (ha F S h ve env g) fun a b F1 S1 h1 ve1 Sr e1 t1 r1 s1 => by
    have hl : b.length = n := by rw [r1.lens, hn]
    rw [if_pos (by omega)]
    have q := ht b0 F S h env F1 S1 h1 ve1 env a b Sr hb s1 t1 r1
    revert q
    cases ts a ve1 with
    | none => exact fun _ => trivial
    | some ve2 =>
      rintro ⟨env2, h2, F2, S2, q1, q2⟩
      simp only [Res.bindS, gT, hl, if_true, q1, toOut]
      exact ⟨env2, h2, F2, S2, rfl, q2⟩
end
/-- a new list of flat things, of what is only read -/
def vOpF (g : List U → Option U) (r : VA) : VE := fun e => (r e).bind fun us e1 => match g us with
  | some (.lst ys) => if flats ys = true then .val (.lst ys) e1 else .stk
  | _ => .stk
theorem se_callF {dp : Nat → Nat} {io : List Nat} {f : List D → IH → Res D} {g : List U → Option U} {mr : MA} {vr : VA} (j : Nat) (od : OoN 1 f g) (hr : SA dp io .bor mr vr) : SE dp io (.fr (j + 1)) (mCall f mr) (vOpF g vr) := fun F S h ve env gd =>
  (hr F S h ve env gd).bind fun xs as F1 S1 h1 ve1 Sr e1 t1 r1 => by
    cases z : g xs with
    | none => trivial
    | some u =>
      obtain ⟨e, q, T, z1, z2, z3⟩ := od h1 _ xs as u (fun n y => y.1) r1.1 z
      cases u with
      | lst ys =>
        dsimp only
        split
        · rename_i hf
          rw [z1]
          cases z2 with
          | ref hn rs =>
            obtain ⟨rs', hS⟩ := RVs.rf0 rs
            subst hS
            exact PoE.opfr e1.gd e1.hl (RV.ref hn (RFs.rv j (rs'.flat hf _ _) hf)) z3
        · trivial
      | _ => trivial
end VV
set_option Elab.async false
set_option linter.all false
set_option maxRecDepth 100000
set_option maxHeartbeats 4000000
namespace LW
open PySem PySem.Spec L2 PyProof.Rows DD
/-! ### the text -/
def top (i : Nat) : Stmt := PySem.Challenge.pw_faxhouse_k20_whole_windows_of_few_rooms.main.body.getD i (.Pass ⟨0, 0, 0, 0⟩)
structure Gs (mg : MG) (K : PySem.W.Frag) : Prop where
  z_all : mg "all" = none
  z_bool : mg "bool" = none
  z_enumerate : mg "enumerate" = none
  z_int : mg "int" = none
  z_isinstance : mg "isinstance" = none
  z_len : mg "len" = none
  z_list : mg "list" = none
  z_max : mg "max" = none
  z_range : mg "range" = none
  z_repr : mg "repr" = none
  z_sorted : mg "sorted" = none
  z_str : mg "str" = none
  z_tuple : mg "tuple" = none
  c_MOST_NUMBERS : ∃ t, mg "MOST_NUMBERS" = some (.int 8 t)
  c_MOST_LAG : ∃ t, mg "MOST_LAG" = some (.int 3 t)
  c_MOST_ROOM : ∃ t, mg "MOST_ROOM" = some (.int 3 t)
  c_FAULTS : ∃ a, mg "FAULTS" = some (.ref a) ∧ ∀ H, SqT K H a [.str "none", .str "lose", .str "double", .str "both"]
  c_LOSE : ∃ t, mg "LOSE" = some (.str "lose" t)
  c_DOUBLE : ∃ t, mg "DOUBLE" = some (.str "double" t)
  c_BOTH : ∃ t, mg "BOTH" = some (.str "both" t)
  c_MOST_STATES : ∃ t, mg "MOST_STATES" = some (.int 20000 t)
  c_MOST_DEEDS : ∃ t, mg "MOST_DEEDS" = some (.int 1000 t)
  c_WRONG : ∃ t, mg "WRONG" = some (.str "wrong" t)
  c_SOUND : ∃ t, mg "SOUND" = some (.str "sound" t)
/-! _law_begun -/
abbrev s_law_begun : Stmt := top 40
abbrev N_law_begun : List Str := ["_law_script", "_law_cell"]
theorem sc_law_begun : FnScope N_law_begun ["_law_script"] (defScope s_law_begun) := ⟨rfl, rfl, rfl, by decide +kernel, rfl, by decide +kernel, by decide +kernel⟩
def E_law_begun_1 : ME := mVar 1
def T_law_begun_1 : MT := mTst (mBin pyGe (mVar 1) (mBin pyPow (mC (.int 10)) (mC (.int 18))))
def b_law_begun : MS := sRet (mDic (pCons (mC (.str "cells")) (mCall pyListA (mCons (mVar 0) (mNil))) (pCons (mC (.str "left")) (mLc (mIt (mVar 0)) (gN 1) (T_law_begun_1) (E_law_begun_1) [1]) (pCons (mC (.str "at")) (mC (.int 0)) (pNil)))))
def m_law_begun : List D → IH → Res D := mBody 2 b_law_begun
theorem ok_law_begun {P : Program} {w : World} {K : PySem.W.Frag} {mg : MG} {base : Heap} {f : Addr} {fd : FuncData} (G : Gs mg K) (F : FunD K "_law_begun" "_law_begun" (defArgs s_law_begun) (defBody s_law_begun) (defScope s_law_begun) [] [] f fd) (hm : mg "_law_begun" = some (.ref f))
    : Fn P w K mg base 1 "_law_begun" m_law_begun 1 := mk_fn F sc_law_begun hm (fun _ _ _ _ _ _ us hl => match us, hl with | [_], _ => rfl) fun cv A out s H E C =>
  qss_one (qs_ret (qe_dic C (qp_cons (qe_str) (qe_callT (cr_listA C) sd_listA G.z_list (by decide +kernel) (qa_cons (qe_var 0) (qa_nil))) (qp_cons (qe_str) (qe_lc [("_law_cell", 1)] C (qi_val (qe_var 0)) (blkOk_by (own := [("_law_cell", 1)]) (N := N_law_begun) (sc := defScope s_law_begun) (by decide +kernel)) (fun _ _ _ _ _ C => qx_name 1 C.nd) (fun _ _ _ _ _ C => qts_one (qt_cmp op_ge sd_cmp (qe_var 1) (qe_bin op_pow sd_pow (qe_int) (qe_int)) (nomark _))) (fun _ _ _ _ _ C => qe_var 1)) (qp_cons (qe_str) (qe_int) (qp_nil))))))
/-! is_whole -/
abbrev s_is_whole : Stmt := top 12
abbrev N_is_whole : List Str := ["thing", "least", "most"]
theorem sc_is_whole : FnScope N_is_whole ["thing", "least", "most"] (defScope s_is_whole) := ⟨rfl, rfl, rfl, by decide +kernel, rfl, by decide +kernel, by decide +kernel⟩
def b_is_whole : MS := sSeq (sIf (mOr (mNot (mTru (mCall pyIsi (mCons (mVar 0) (mCons (mC (.op (.ty "int"))) (mNil)))))) (mOr (mTru (mCall pyIsi (mCons (mVar 0) (mCons (mC (.op (.ty "bool"))) (mNil))))) (mTst (mBin pyLt (mVar 0) (mVar 1))))) (sRet (mC (.bl false))) (sNil))
    (sRet (mOrV (mBin pyIs (mVar 2) (mC .non)) (mBin pyLe (mVar 0) (mVar 2))))
def m_is_whole : List D → IH → Res D := mBody 3 b_is_whole
theorem ok_is_whole {P : Program} {w : World} {K : PySem.W.Frag} {mg : MG} {base : Heap} {f : Addr} {fd : FuncData} (G : Gs mg K) (F : FunD K "is_whole" "is_whole" (defArgs s_is_whole) (defBody s_is_whole) (defScope s_is_whole) [] [] f fd) (hm : mg "is_whole" = some (.ref f))
    : Fn P w K mg base 1 "is_whole" m_is_whole 3 := mk_fn F sc_is_whole hm (fun _ _ _ _ _ _ us hl => match us, hl with | [_, _, _], _ => rfl) fun cv A out s H E C =>
  qss_cons (qs_if (QW.qt (qw_or (qt_not (qt_tru (qe_callB call_isi sd_isi G.z_isinstance (by decide +kernel) (qa_cons (qe_var 0) (qa_cons (qe_ty G.z_int (by decide +kernel)) (qa_nil)))))) (qw_or (qt_tru (qe_callB call_isi sd_isi G.z_isinstance (by decide +kernel) (qa_cons (qe_var 0) (qa_cons (qe_ty G.z_bool (by decide +kernel)) (qa_nil))))) (qw_or1 (qt_cmp op_lt sd_cmp (qe_var 0) (qe_var 1) (nomark _)))))) (qss_one (qs_ret (qe_bl))) (qss_nil))
    (qss_one (qs_ret (qe_or (qe_cmp op_isN sd_is (qe_var 2) (qe_non) (nomark _)) (qe_one (qe_cmp op_le sd_cmp (qe_var 0) (qe_var 2) (nomark _))))))
/-! need_window -/
abbrev s_need_window : Stmt := top 13
abbrev N_need_window : List Str := ["thing"]
theorem sc_need_window : FnScope N_need_window ["thing"] (defScope s_need_window) := ⟨rfl, rfl, rfl, by decide +kernel, rfl, by decide +kernel, by decide +kernel⟩
def b_need_window : MS := sSeq (sIf (mOr (mNot (mTru (mCall pyIsi (mCons (mVar 0) (mCons (mC (.op (.ty "tuple"))) (mNil)))))) (mTst (mBin pyNe (mCall pyLenA (mCons (mVar 0) (mNil))) (mC (.int 3))))) ((fun _ _ => .stk)) (sNil))
    (sSeq (sIf (mNot (mTru (mCall m_is_whole (mCons (mBin pyIx (mVar 0) (mC (.int 0))) (mCons (mC (.int 2)) (mCons (mC (.int 8)) (mNil))))))) ((fun _ _ => .stk)) (sNil))
    (sSeq (sIf (mNot (mTru (mCall m_is_whole (mCons (mBin pyIx (mVar 0) (mC (.int 1))) (mCons (mC (.int 1)) (mCons (mBin pyIx (mVar 0) (mC (.int 0))) (mNil))))))) ((fun _ _ => .stk)) (sNil))
    (sSeq (sIf (mNot (mTru (mCall m_is_whole (mCons (mBin pyIx (mVar 0) (mC (.int 2))) (mCons (mC (.int 1)) (mCons (mBin pyIx (mVar 0) (mC (.int 0))) (mNil))))))) ((fun _ _ => .stk)) (sNil))
    (sRet (mVar 0)))))
def m_need_window : List D → IH → Res D := mBody 1 b_need_window
theorem ok_need_window {P : Program} {w : World} {K : PySem.W.Frag} {mg : MG} {base : Heap} {f : Addr} {fd : FuncData} (G : Gs mg K) (F : FunD K "need_window" "need_window" (defArgs s_need_window) (defBody s_need_window) (defScope s_need_window) [] [] f fd) (hm : mg "need_window" = some (.ref f))
    (F_is_whole : Fn P w K mg base 1 "is_whole" m_is_whole 3)
    : Fn P w K mg base 2 "need_window" m_need_window 1 := mk_fn F sc_need_window hm (fun _ _ _ _ _ _ us hl => match us, hl with | [_], _ => rfl) fun cv A out s H E C =>
  qss_cons (qs_if (QW.qt (qw_or (qt_not (qt_tru (qe_callB call_isi sd_isi G.z_isinstance (by decide +kernel) (qa_cons (qe_var 0) (qa_cons (qe_ty G.z_tuple (by decide +kernel)) (qa_nil)))))) (qw_or1 (qt_cmp (op_neA (units_of C)) sd_ne (qe_callB cr_lenA sd_lenA G.z_len (by decide +kernel) (qa_cons (qe_var 0) (qa_nil))) (qe_int) (nomark _))))) (qss_one (qs_never)) (qss_nil))
    (qss_cons (qs_if (qt_not (qt_tru (qe_call C F_is_whole (qa_cons (qe_ix (ix_any C) sd_ix (qe_var 0) (qe_int) (fun _ _ => rfl)) (qa_cons (qe_int) (qa_cons (qe_gint G.c_MOST_NUMBERS) (qa_nil))))))) (qss_one (qs_never)) (qss_nil))
    (qss_cons (qs_if (qt_not (qt_tru (qe_call C F_is_whole (qa_cons (qe_ix (ix_any C) sd_ix (qe_var 0) (qe_int) (fun _ _ => rfl)) (qa_cons (qe_int) (qa_cons (qe_ix (ix_any C) sd_ix (qe_var 0) (qe_int) (fun _ _ => rfl)) (qa_nil))))))) (qss_one (qs_never)) (qss_nil))
    (qss_cons (qs_if (qt_not (qt_tru (qe_call C F_is_whole (qa_cons (qe_ix (ix_any C) sd_ix (qe_var 0) (qe_int) (fun _ _ => rfl)) (qa_cons (qe_int) (qa_cons (qe_ix (ix_any C) sd_ix (qe_var 0) (qe_int) (fun _ _ => rfl)) (qa_nil))))))) (qss_one (qs_never)) (qss_nil))
    (qss_one (qs_ret (qe_var 0))))))
/-! need_channel -/
abbrev s_need_channel : Stmt := top 14
abbrev N_need_channel : List Str := ["thing"]
theorem sc_need_channel : FnScope N_need_channel ["thing"] (defScope s_need_channel) := ⟨rfl, rfl, rfl, by decide +kernel, rfl, by decide +kernel, by decide +kernel⟩
def b_need_channel : MS := sSeq (sIf (mOr (mNot (mTru (mCall pyIsi (mCons (mVar 0) (mCons (mC (.op (.ty "tuple"))) (mNil)))))) (mTst (mBin pyNe (mCall pyLenA (mCons (mVar 0) (mNil))) (mC (.int 3))))) ((fun _ _ => .stk)) (sNil))
    (sSeq (sIf (mNot (mTru (mCall m_is_whole (mCons (mBin pyIx (mVar 0) (mC (.int 0))) (mCons (mC (.int 0)) (mCons (mC (.int 3)) (mNil))))))) ((fun _ _ => .stk)) (sNil))
    (sSeq (sIf (mNot (mTru (mCall m_is_whole (mCons (mBin pyIx (mVar 0) (mC (.int 1))) (mCons (mC (.int 1)) (mCons (mC (.int 3)) (mNil))))))) ((fun _ _ => .stk)) (sNil))
    (sSeq (sIf (mOr (mNot (mTru (mCall pyIsi (mCons (mBin pyIx (mVar 0) (mC (.int 2))) (mCons (mC (.op (.ty "str"))) (mNil)))))) (mTst (mBin pyNotIn (mBin pyIx (mVar 0) (mC (.int 2))) (mC (.tup [.str "none", .str "lose", .str "double", .str "both"]))))) ((fun _ _ => .stk)) (sNil))
    (sRet (mVar 0)))))
def m_need_channel : List D → IH → Res D := mBody 1 b_need_channel
theorem ok_need_channel {P : Program} {w : World} {K : PySem.W.Frag} {mg : MG} {base : Heap} {f : Addr} {fd : FuncData} (G : Gs mg K) (F : FunD K "need_channel" "need_channel" (defArgs s_need_channel) (defBody s_need_channel) (defScope s_need_channel) [] [] f fd) (hm : mg "need_channel" = some (.ref f))
    (F_is_whole : Fn P w K mg base 1 "is_whole" m_is_whole 3)
    : Fn P w K mg base 2 "need_channel" m_need_channel 1 := mk_fn F sc_need_channel hm (fun _ _ _ _ _ _ us hl => match us, hl with | [_], _ => rfl) fun cv A out s H E C =>
  qss_cons (qs_if (QW.qt (qw_or (qt_not (qt_tru (qe_callB call_isi sd_isi G.z_isinstance (by decide +kernel) (qa_cons (qe_var 0) (qa_cons (qe_ty G.z_tuple (by decide +kernel)) (qa_nil)))))) (qw_or1 (qt_cmp (op_neA (units_of C)) sd_ne (qe_callB cr_lenA sd_lenA G.z_len (by decide +kernel) (qa_cons (qe_var 0) (qa_nil))) (qe_int) (nomark _))))) (qss_one (qs_never)) (qss_nil))
    (qss_cons (qs_if (qt_not (qt_tru (qe_call C F_is_whole (qa_cons (qe_ix (ix_any C) sd_ix (qe_var 0) (qe_int) (fun _ _ => rfl)) (qa_cons (qe_int) (qa_cons (qe_gint G.c_MOST_LAG) (qa_nil))))))) (qss_one (qs_never)) (qss_nil))
    (qss_cons (qs_if (qt_not (qt_tru (qe_call C F_is_whole (qa_cons (qe_ix (ix_any C) sd_ix (qe_var 0) (qe_int) (fun _ _ => rfl)) (qa_cons (qe_int) (qa_cons (qe_gint G.c_MOST_ROOM) (qa_nil))))))) (qss_one (qs_never)) (qss_nil))
    (qss_cons (qs_if (QW.qt (qw_or (qt_not (qt_tru (qe_callB call_isi sd_isi G.z_isinstance (by decide +kernel) (qa_cons (qe_ix (ix_any C) sd_ix (qe_var 0) (qe_int) (fun _ _ => rfl)) (qa_cons (qe_ty G.z_str (by decide +kernel)) (qa_nil)))))) (qw_or1 (qt_cmp (op_notInA C) sd_notIn (qe_ix (ix_any C) sd_ix (qe_var 0) (qe_int) (fun _ _ => rfl)) (qe_gtup G.c_FAULTS (fun _ _ => .cons (.str _) (.cons (.str _) (.cons (.str _) (.cons (.str _) (.nil)))))) (by rfl))))) (qss_one (qs_never)) (qss_nil))
    (qss_one (qs_ret (qe_var 0))))))
/-! need_both -/
abbrev s_need_both : Stmt := top 33
abbrev N_need_both : List Str := ["window", "channel"]
theorem sc_need_both : FnScope N_need_both ["window", "channel"] (defScope s_need_both) := ⟨rfl, rfl, rfl, by decide +kernel, rfl, by decide +kernel, by decide +kernel⟩
def b_need_both : MS := sSeq (sExpr (mCall m_need_window (mCons (mVar 0) (mNil))))
    (sExpr (mCall m_need_channel (mCons (mVar 1) (mNil))))
def m_need_both : List D → IH → Res D := mBody 2 b_need_both
theorem ok_need_both {P : Program} {w : World} {K : PySem.W.Frag} {mg : MG} {base : Heap} {f : Addr} {fd : FuncData} (G : Gs mg K) (F : FunD K "need_both" "need_both" (defArgs s_need_both) (defBody s_need_both) (defScope s_need_both) [] [] f fd) (hm : mg "need_both" = some (.ref f))
    (F_need_window : Fn P w K mg base 2 "need_window" m_need_window 1)
    (F_need_channel : Fn P w K mg base 2 "need_channel" m_need_channel 1)
    : Fn P w K mg base 3 "need_both" m_need_both 2 := mk_fn F sc_need_both hm (fun _ _ _ _ _ _ us hl => match us, hl with | [_, _], _ => rfl) fun cv A out s H E C =>
  qss_cons (qs_expr (qe_call C F_need_window (qa_cons (qe_var 0) (qa_nil))))
    (qss_one (qs_expr (qe_call C F_need_channel (qa_cons (qe_var 1) (qa_nil)))))
/-! first_state -/
abbrev s_first_state : Stmt := top 15
abbrev N_first_state : List Str := []
theorem sc_first_state : FnScope N_first_state [] (defScope s_first_state) := ⟨rfl, rfl, rfl, by decide +kernel, rfl, by decide +kernel, by decide +kernel⟩
def b_first_state : MS := sRet (mTup (mCons (mC (.int 0)) (mCons (mTup (mNil)) (mCons (mTup (mNil)) (mCons (mTup (mNil)) (mNil))))))
def m_first_state : List D → IH → Res D := mBody 0 b_first_state
theorem ok_first_state {P : Program} {w : World} {K : PySem.W.Frag} {mg : MG} {base : Heap} {f : Addr} {fd : FuncData} (G : Gs mg K) (F : FunD K "first_state" "first_state" (defArgs s_first_state) (defBody s_first_state) (defScope s_first_state) [] [] f fd) (hm : mg "first_state" = some (.ref f))
    : Fn P w K mg base 1 "first_state" m_first_state 0 := mk_fn F sc_first_state hm (fun _ _ _ _ _ _ us hl => match us, hl with | [], _ => rfl) fun cv A out s H E C =>
  qss_one (qs_ret (qe_tup (qa_cons (qe_int) (qa_cons (qe_tup (qa_nil)) (qa_cons (qe_tup (qa_nil)) (qa_cons (qe_tup (qa_nil)) (qa_nil)))))))
/-! may_come_out -/
abbrev s_may_come_out : Stmt := top 19
abbrev N_may_come_out : List Str := ["channel", "items", "found", "place", "number", "late"]
theorem sc_may_come_out : FnScope N_may_come_out ["channel", "items"] (defScope s_may_come_out) := ⟨rfl, rfl, rfl, by decide +kernel, rfl, by decide +kernel, by decide +kernel⟩
def E_may_come_out_1 : ME := mBin pyLt (mVar 5) (mBin pyIx (mVar 0) (mC (.int 0)))
def B_may_come_out_2 : MS := sIf (mTru (mCall pyAll (mCons (mLc (mIt (mSl (mVar 1) (moN) (moS (mVar 3)))) (gT 2 (gsCons (gN 4) (gsCons (gN 5) (gsNil)))) (mYes) (E_may_come_out_1) [4, 5]) (mNil)))) (sExpr (mMeth "list" pyAppend (mVar 2) (mCons (mVar 3) (mNil)))) (sNil)
def b_may_come_out : MS := sSeq (sAsg (mLst (mNil)) (gN 2))
    (sSeq (sFor (mRng1 (mCall pyLenA (mCons (mVar 1) (mNil)))) (gN 3) (B_may_come_out_2))
    (sRet (mVar 2)))
def m_may_come_out : List D → IH → Res D := mBody 6 b_may_come_out
theorem ok_may_come_out {P : Program} {w : World} {K : PySem.W.Frag} {mg : MG} {base : Heap} {f : Addr} {fd : FuncData} (G : Gs mg K) (F : FunD K "may_come_out" "may_come_out" (defArgs s_may_come_out) (defBody s_may_come_out) (defScope s_may_come_out) [] [] f fd) (hm : mg "may_come_out" = some (.ref f))
    : Fn P w K mg base 1 "may_come_out" m_may_come_out 2 := mk_fn F sc_may_come_out hm (fun _ _ _ _ _ _ us hl => match us, hl with | [_, _], _ => rfl) fun cv A out s H E C =>
  qss_cons (qs_set 2 C.nd (qe_lst (qa_nil)))
    (qss_cons (qs_for C (qi_range1 G.z_range (qe_callB cr_lenA sd_lenA G.z_len (by decide +kernel) (qa_cons (qe_var 1) (qa_nil)))) (qg_name 3 C.nd) (qss_one (qs_if (qt_tru (qe_callB (cr_all C.calm) sd_all G.z_all (by decide +kernel) (qa_cons (qe_lc [("number", 4), ("late", 5)] C (qi_val (qe_slice (qe_var 1) (qo_none) (qo_some (qe_var 3)))) (blkOk_by (own := [("number", 4), ("late", 5)]) (N := N_may_come_out) (sc := defScope s_may_come_out) (by decide +kernel)) (fun _ _ _ _ _ C => qx_tup C.calm (qxs_cons (qx_name 4 C.nd) (qxs_cons (qx_name 5 C.nd) (qxs_nil)))) (fun _ _ _ _ _ C => qts_nil) (fun _ _ _ _ _ C => qe_cmp op_lt sd_cmp (qe_var 5) (qe_ix (ix_any C) sd_ix (qe_var 0) (qe_int) (fun _ _ => rfl)) (nomark _))) (qa_nil)))) (qss_one (qs_expr (qe_meth PySem.F.plainAttrs_list PySem.F.slot_list_append PySem.F.type_list_append mt_append sd_append (.inl rfl) (qe_var 2) (qa_cons (qe_var 3) (qa_nil))))) (qss_nil))))
    (qss_one (qs_ret (qe_var 2))))
/-! deeds_of -/
abbrev s_deeds_of : Stmt := top 20
abbrev N_deeds_of : List Str := ["window", "channel", "state", "found", "lag", "room", "faults", "items", "out", "loss", "twice", "number", "place"]
theorem sc_deeds_of : FnScope N_deeds_of ["window", "channel", "state"] (defScope s_deeds_of) := ⟨rfl, rfl, rfl, by decide +kernel, rfl, by decide +kernel, by decide +kernel⟩
def E_deeds_of_1 : ME := mTup (mCons (mC (.str "send")) (mCons (mVar 11) (mNil)))
def E_deeds_of_2 : ME := mTup (mCons (mVar 8) (mCons (mVar 12) (mNil)))
def E_deeds_of_3 : ME := mTup (mCons (mVar 9) (mCons (mVar 12) (mNil)))
def E_deeds_of_4 : ME := mTup (mCons (mVar 10) (mCons (mVar 12) (mNil)))
def B_deeds_of_5 : MS := sSeq (sExpr (mMeth "list" pyExtend (mVar 3) (mCons (mLc (mIt (mCall m_may_come_out (mCons (mVar 1) (mCons (mVar 7) (mNil))))) (gN 12) (mYes) (E_deeds_of_2) [12]) (mNil))))
    (sSeq (sIf (mTst (mBin pyIn (mVar 6) (mTup (mCons (mC (.str "lose")) (mCons (mC (.str "both")) (mNil)))))) (sExpr (mMeth "list" pyExtend (mVar 3) (mCons (mLc (mRng1 (mCall pyLenA (mCons (mVar 7) (mNil)))) (gN 12) (mYes) (E_deeds_of_3) [12]) (mNil)))) (sNil))
    (sIf (mAnd (mTst (mBin pyIn (mVar 6) (mTup (mCons (mC (.str "double")) (mCons (mC (.str "both")) (mNil)))))) (mTst (mBin pyLt (mCall pyLenA (mCons (mVar 7) (mNil))) (mVar 5)))) (sExpr (mMeth "list" pyExtend (mVar 3) (mCons (mLc (mRng1 (mCall pyLenA (mCons (mVar 7) (mNil)))) (gN 12) (mYes) (E_deeds_of_4) [12]) (mNil)))) (sNil)))
def b_deeds_of : MS := sSeq (sAsg (mTup (mCons (mLst (mNil)) (mCons (mVar 1) (mNil)))) (gT 2 (gsCons (gN 3) (gsCons (gT 3 (gsCons (gN 4) (gsCons (gN 5) (gsCons (gN 6) (gsNil))))) (gsNil)))))
    (sSeq (sIf (mTst (mBin pyLt (mCall pyLenA (mCons (mBin pyIx (mVar 2) (mC (.int 2))) (mNil))) (mVar 5))) (sExpr (mMeth "list" pyExtend (mVar 3) (mCons (mLc (mRng1 (mBin pyIx (mVar 0) (mC (.int 1)))) (gN 11) (mYes) (E_deeds_of_1) [11]) (mNil)))) (sNil))
    (sSeq (sIf (mTst (mBin pyLt (mCall pyLenA (mCons (mBin pyIx (mVar 2) (mC (.int 3))) (mNil))) (mVar 5))) (sExpr (mMeth "list" pyAppend (mVar 3) (mCons (mTup (mCons (mC (.str "answer")) (mNil))) (mNil)))) (sNil))
    (sSeq (sFor (mIt (mTup (mCons (mTup (mCons (mBin pyIx (mVar 2) (mC (.int 2))) (mCons (mC (.str "take")) (mCons (mC (.str "lose")) (mCons (mC (.str "double")) (mNil)))))) (mCons (mTup (mCons (mBin pyIx (mVar 2) (mC (.int 3))) (mCons (mC (.str "hear")) (mCons (mC (.str "deaf")) (mCons (mC (.str "echo")) (mNil)))))) (mNil))))) (gT 4 (gsCons (gN 7) (gsCons (gN 8) (gsCons (gN 9) (gsCons (gN 10) (gsNil)))))) (B_deeds_of_5))
    (sRet (mCall pySorted (mCons (mVar 3) (mNil)))))))
def m_deeds_of : List D → IH → Res D := mBody 13 b_deeds_of
theorem ok_deeds_of {P : Program} {w : World} {K : PySem.W.Frag} {mg : MG} {base : Heap} {f : Addr} {fd : FuncData} (G : Gs mg K) (F : FunD K "deeds_of" "deeds_of" (defArgs s_deeds_of) (defBody s_deeds_of) (defScope s_deeds_of) [] [] f fd) (hm : mg "deeds_of" = some (.ref f))
    (F_may_come_out : Fn P w K mg base 1 "may_come_out" m_may_come_out 2)
    : Fn P w K mg base 2 "deeds_of" m_deeds_of 3 := mk_fn F sc_deeds_of hm (fun _ _ _ _ _ _ us hl => match us, hl with | [_, _, _], _ => rfl) fun cv A out s H E C =>
  qss_cons (qs_asg (qe_tup (qa_cons (qe_lst (qa_nil)) (qa_cons (qe_var 1) (qa_nil)))) (qg_tup C.calm (qgs_cons (qg_name 3 C.nd) (qgs_cons (qg_tup C.calm (qgs_cons (qg_name 4 C.nd) (qgs_cons (qg_name 5 C.nd) (qgs_cons (qg_name 6 C.nd) (qgs_nil))))) (qgs_nil)))))
    (qss_cons (qs_if (qt_cmp op_lt sd_cmp (qe_callB cr_lenA sd_lenA G.z_len (by decide +kernel) (qa_cons (qe_ix (ix_any C) sd_ix (qe_var 2) (qe_int) (fun _ _ => rfl)) (qa_nil))) (qe_var 5) (nomark _)) (qss_one (qs_expr (qe_meth PySem.F.plainAttrs_list PySem.F.slot_list_extend PySem.F.type_list_extend mt_extend sd_extend (.inl rfl) (qe_var 3) (qa_cons (qe_lc [("number", 11)] C (qi_range1 G.z_range (qe_ix (ix_any C) sd_ix (qe_var 0) (qe_int) (fun _ _ => rfl))) (blkOk_by (own := [("number", 11)]) (N := N_deeds_of) (sc := defScope s_deeds_of) (by decide +kernel)) (fun _ _ _ _ _ C => qx_name 11 C.nd) (fun _ _ _ _ _ C => qts_nil) (fun _ _ _ _ _ C => qe_tup (qa_cons (qe_str) (qa_cons (qe_var 11) (qa_nil))))) (qa_nil))))) (qss_nil))
    (qss_cons (qs_if (qt_cmp op_lt sd_cmp (qe_callB cr_lenA sd_lenA G.z_len (by decide +kernel) (qa_cons (qe_ix (ix_any C) sd_ix (qe_var 2) (qe_int) (fun _ _ => rfl)) (qa_nil))) (qe_var 5) (nomark _)) (qss_one (qs_expr (qe_meth PySem.F.plainAttrs_list PySem.F.slot_list_append PySem.F.type_list_append mt_append sd_append (.inl rfl) (qe_var 3) (qa_cons (qe_tup (qa_cons (qe_str) (qa_nil))) (qa_nil))))) (qss_nil))
    (qss_cons (qs_for C (qi_val (qe_tup (qa_cons (qe_tup (qa_cons (qe_ix (ix_any C) sd_ix (qe_var 2) (qe_int) (fun _ _ => rfl)) (qa_cons (qe_str) (qa_cons (qe_gstr G.c_LOSE) (qa_cons (qe_gstr G.c_DOUBLE) (qa_nil)))))) (qa_cons (qe_tup (qa_cons (qe_ix (ix_any C) sd_ix (qe_var 2) (qe_int) (fun _ _ => rfl)) (qa_cons (qe_str) (qa_cons (qe_str) (qa_cons (qe_str) (qa_nil)))))) (qa_nil))))) (qg_tup C.calm (qgs_cons (qg_name 7 C.nd) (qgs_cons (qg_name 8 C.nd) (qgs_cons (qg_name 9 C.nd) (qgs_cons (qg_name 10 C.nd) (qgs_nil)))))) (qss_cons (qs_expr (qe_meth PySem.F.plainAttrs_list PySem.F.slot_list_extend PySem.F.type_list_extend mt_extend sd_extend (.inl rfl) (qe_var 3) (qa_cons (qe_lc [("place", 12)] C (qi_val (qe_call C F_may_come_out (qa_cons (qe_var 1) (qa_cons (qe_var 7) (qa_nil))))) (blkOk_by (own := [("place", 12)]) (N := N_deeds_of) (sc := defScope s_deeds_of) (by decide +kernel)) (fun _ _ _ _ _ C => qx_name 12 C.nd) (fun _ _ _ _ _ C => qts_nil) (fun _ _ _ _ _ C => qe_tup (qa_cons (qe_var 8) (qa_cons (qe_var 12) (qa_nil))))) (qa_nil))))
    (qss_cons (qs_if (qt_cmp (op_inA C) sd_in (qe_var 6) (qe_tup (qa_cons (qe_gstr G.c_LOSE) (qa_cons (qe_gstr G.c_BOTH) (qa_nil)))) (by rfl)) (qss_one (qs_expr (qe_meth PySem.F.plainAttrs_list PySem.F.slot_list_extend PySem.F.type_list_extend mt_extend sd_extend (.inl rfl) (qe_var 3) (qa_cons (qe_lc [("place", 12)] C (qi_range1 G.z_range (qe_callB cr_lenA sd_lenA G.z_len (by decide +kernel) (qa_cons (qe_var 7) (qa_nil)))) (blkOk_by (own := [("place", 12)]) (N := N_deeds_of) (sc := defScope s_deeds_of) (by decide +kernel)) (fun _ _ _ _ _ C => qx_name 12 C.nd) (fun _ _ _ _ _ C => qts_nil) (fun _ _ _ _ _ C => qe_tup (qa_cons (qe_var 9) (qa_cons (qe_var 12) (qa_nil))))) (qa_nil))))) (qss_nil))
    (qss_one (qs_if (QW.qt (qw_and (qt_cmp (op_inA C) sd_in (qe_var 6) (qe_tup (qa_cons (qe_gstr G.c_DOUBLE) (qa_cons (qe_gstr G.c_BOTH) (qa_nil)))) (by rfl)) (qw_and1 (qt_cmp op_lt sd_cmp (qe_callB cr_lenA sd_lenA G.z_len (by decide +kernel) (qa_cons (qe_var 7) (qa_nil))) (qe_var 5) (nomark _))))) (qss_one (qs_expr (qe_meth PySem.F.plainAttrs_list PySem.F.slot_list_extend PySem.F.type_list_extend mt_extend sd_extend (.inl rfl) (qe_var 3) (qa_cons (qe_lc [("place", 12)] C (qi_range1 G.z_range (qe_callB cr_lenA sd_lenA G.z_len (by decide +kernel) (qa_cons (qe_var 7) (qa_nil)))) (blkOk_by (own := [("place", 12)]) (N := N_deeds_of) (sc := defScope s_deeds_of) (by decide +kernel)) (fun _ _ _ _ _ C => qx_name 12 C.nd) (fun _ _ _ _ _ C => qts_nil) (fun _ _ _ _ _ C => qe_tup (qa_cons (qe_var 10) (qa_cons (qe_var 12) (qa_nil))))) (qa_nil))))) (qss_nil))))))
    (qss_one (qs_ret (qe_callB (cr_sorted (units_of C)) sd_sorted G.z_sorted (by decide +kernel) (qa_cons (qe_var 3) (qa_nil))))))))
/-! taken_frame -/
abbrev s_taken_frame : Stmt := top 21
abbrev N_taken_frame : List Str := ["window", "state", "number", "m", "w", "v", "frame"]
theorem sc_taken_frame : FnScope N_taken_frame ["window", "state", "number"] (defScope s_taken_frame) := ⟨rfl, rfl, rfl, by decide +kernel, rfl, by decide +kernel, by decide +kernel⟩
def b_taken_frame : MS := sSeq (sAsg (mVar 0) (gT 3 (gsCons (gN 3) (gsCons (gN 4) (gsCons (gN 5) (gsNil))))))
    (sSeq (sAsg (mBin pyMod (mCall pyInt (mCons (mVar 2) (mNil))) (mVar 3)) (gN 6))
    (sRet (mIf (mAnd (mTst (mBin pyLt (mVar 6) (mVar 5))) (mTst (mBin pyNotIn (mVar 6) (mBin pyIx (mVar 1) (mC (.int 1)))))) (mVar 6) (mC .non))))
def m_taken_frame : List D → IH → Res D := mBody 7 b_taken_frame
theorem ok_taken_frame {P : Program} {w : World} {K : PySem.W.Frag} {mg : MG} {base : Heap} {f : Addr} {fd : FuncData} (G : Gs mg K) (F : FunD K "taken_frame" "taken_frame" (defArgs s_taken_frame) (defBody s_taken_frame) (defScope s_taken_frame) [] [] f fd) (hm : mg "taken_frame" = some (.ref f))
    : Fn P w K mg base 1 "taken_frame" m_taken_frame 3 := mk_fn F sc_taken_frame hm (fun _ _ _ _ _ _ us hl => match us, hl with | [_, _, _], _ => rfl) fun cv A out s H E C =>
  qss_cons (qs_asg (qe_var 0) (qg_tup C.calm (qgs_cons (qg_name 3 C.nd) (qgs_cons (qg_name 4 C.nd) (qgs_cons (qg_name 5 C.nd) (qgs_nil))))))
    (qss_cons (qs_set 6 C.nd (qe_bin op_mod sd_mod (qe_callT call_int1 sd_int G.z_int (by decide +kernel) (qa_cons (qe_var 2) (qa_nil))) (qe_var 3)))
    (qss_one (qs_ret (qe_if (QW.qt (qw_and (qt_cmp op_lt sd_cmp (qe_var 6) (qe_var 5) (nomark _)) (qw_and1 (qt_cmp (op_notInA C) sd_notIn (qe_var 6) (qe_ix (ix_any C) sd_ix (qe_var 1) (qe_int) (fun _ _ => rfl)) (by rfl))))) (qe_var 6) (qe_non)))))
/-! come_out -/
abbrev s_come_out : Stmt := top 18
abbrev N_come_out : List Str := ["items", "place", "number", "late"]
theorem sc_come_out : FnScope N_come_out ["items", "place"] (defScope s_come_out) := ⟨rfl, rfl, rfl, by decide +kernel, rfl, by decide +kernel, by decide +kernel⟩
def E_come_out_1 : ME := mTup (mCons (mVar 2) (mCons (mBin pyAdd (mVar 3) (mC (.int 1))) (mNil)))
def b_come_out : MS := sRet (mBin pyAdd (mCall pyTuple (mCons (mLc (mIt (mSl (mVar 0) (moN) (moS (mVar 1)))) (gT 2 (gsCons (gN 2) (gsCons (gN 3) (gsNil)))) (mYes) (E_come_out_1) [2, 3]) (mNil))) (mSl (mVar 0) (moS (mBin pyAdd (mVar 1) (mC (.int 1)))) (moN)))
def m_come_out : List D → IH → Res D := mBody 4 b_come_out
theorem ok_come_out {P : Program} {w : World} {K : PySem.W.Frag} {mg : MG} {base : Heap} {f : Addr} {fd : FuncData} (G : Gs mg K) (F : FunD K "come_out" "come_out" (defArgs s_come_out) (defBody s_come_out) (defScope s_come_out) [] [] f fd) (hm : mg "come_out" = some (.ref f))
    : Fn P w K mg base 1 "come_out" m_come_out 2 := mk_fn F sc_come_out hm (fun _ _ _ _ _ _ us hl => match us, hl with | [_, _], _ => rfl) fun cv A out s H E C =>
  qss_one (qs_ret (qe_bin op_addD sd_add (qe_callT call_tuple_of sd_tuple G.z_tuple (by decide +kernel) (qa_cons (qe_lc [("number", 2), ("late", 3)] C (qi_val (qe_slice (qe_var 0) (qo_none) (qo_some (qe_var 1)))) (blkOk_by (own := [("number", 2), ("late", 3)]) (N := N_come_out) (sc := defScope s_come_out) (by decide +kernel)) (fun _ _ _ _ _ C => qx_tup C.calm (qxs_cons (qx_name 2 C.nd) (qxs_cons (qx_name 3 C.nd) (qxs_nil)))) (fun _ _ _ _ _ C => qts_nil) (fun _ _ _ _ _ C => qe_tup (qa_cons (qe_var 2) (qa_cons (qe_bin op_addD sd_add (qe_var 3) (qe_int)) (qa_nil))))) (qa_nil))) (qe_slice (qe_var 0) (qo_some (qe_bin op_addD sd_add (qe_var 1) (qe_int))) (qo_none))))
/-! lowered -/
abbrev s_lowered : Stmt := top 16
abbrev N_lowered : List Str := ["m", "number", "by", "found"]
theorem sc_lowered : FnScope N_lowered ["m", "number", "by"] (defScope s_lowered) := ⟨rfl, rfl, rfl, by decide +kernel, rfl, by decide +kernel, by decide +kernel⟩
def b_lowered : MS := sSeq (sAsg (mBin pySub (mVar 1) (mVar 2)) (gN 3))
    (sRet (mIf (mAnd (mTst (mBin pyGe (mVar 3) (mC (.int 0)))) (mTst (mBin pyGe (mVar 1) (mC (.int 0))))) (mVar 3) (mBin pySub (mBin pyMod (mCall pyInt (mCons (mVar 3) (mNil))) (mVar 0)) (mVar 0))))
def m_lowered : List D → IH → Res D := mBody 4 b_lowered
theorem ok_lowered {P : Program} {w : World} {K : PySem.W.Frag} {mg : MG} {base : Heap} {f : Addr} {fd : FuncData} (G : Gs mg K) (F : FunD K "lowered" "lowered" (defArgs s_lowered) (defBody s_lowered) (defScope s_lowered) [] [] f fd) (hm : mg "lowered" = some (.ref f))
    : Fn P w K mg base 1 "lowered" m_lowered 3 := mk_fn F sc_lowered hm (fun _ _ _ _ _ _ us hl => match us, hl with | [_, _, _], _ => rfl) fun cv A out s H E C =>
  qss_cons (qs_set 3 C.nd (qe_bin op_sub sd_sub (qe_var 1) (qe_var 2)))
    (qss_one (qs_ret (qe_if (QW.qt (qw_and (qt_cmp op_ge sd_cmp (qe_var 3) (qe_int) (nomark _)) (qw_and1 (qt_cmp op_ge sd_cmp (qe_var 1) (qe_int) (nomark _))))) (qe_var 3) (qe_bin op_sub sd_sub (qe_bin op_mod sd_mod (qe_callT call_int1 sd_int G.z_int (by decide +kernel) (qa_cons (qe_var 3) (qa_nil))) (qe_var 0)) (qe_var 0)))))
/-! all_lowered -/
abbrev s_all_lowered : Stmt := top 17
abbrev N_all_lowered : List Str := ["m", "items", "by", "number", "late"]
theorem sc_all_lowered : FnScope N_all_lowered ["m", "items", "by"] (defScope s_all_lowered) := ⟨rfl, rfl, rfl, by decide +kernel, rfl, by decide +kernel, by decide +kernel⟩
def E_all_lowered_1 : ME := mTup (mCons (mCall m_lowered (mCons (mVar 0) (mCons (mVar 3) (mCons (mVar 2) (mNil))))) (mCons (mVar 4) (mNil)))
def b_all_lowered : MS := sRet (mCall pyTuple (mCons (mLc (mIt (mVar 1)) (gT 2 (gsCons (gN 3) (gsCons (gN 4) (gsNil)))) (mYes) (E_all_lowered_1) [3, 4]) (mNil)))
def m_all_lowered : List D → IH → Res D := mBody 5 b_all_lowered
theorem ok_all_lowered {P : Program} {w : World} {K : PySem.W.Frag} {mg : MG} {base : Heap} {f : Addr} {fd : FuncData} (G : Gs mg K) (F : FunD K "all_lowered" "all_lowered" (defArgs s_all_lowered) (defBody s_all_lowered) (defScope s_all_lowered) [] [] f fd) (hm : mg "all_lowered" = some (.ref f))
    (F_lowered : Fn P w K mg base 1 "lowered" m_lowered 3)
    : Fn P w K mg base 2 "all_lowered" m_all_lowered 3 := mk_fn F sc_all_lowered hm (fun _ _ _ _ _ _ us hl => match us, hl with | [_, _, _], _ => rfl) fun cv A out s H E C =>
  qss_one (qs_ret (qe_callT call_tuple_of sd_tuple G.z_tuple (by decide +kernel) (qa_cons (qe_lc [("number", 3), ("late", 4)] C (qi_val (qe_var 1)) (blkOk_by (own := [("number", 3), ("late", 4)]) (N := N_all_lowered) (sc := defScope s_all_lowered) (by decide +kernel)) (fun _ _ _ _ _ C => qx_tup C.calm (qxs_cons (qx_name 3 C.nd) (qxs_cons (qx_name 4 C.nd) (qxs_nil)))) (fun _ _ _ _ _ C => qts_nil) (fun _ _ _ _ _ C => qe_tup (qa_cons (qe_call C F_lowered (qa_cons (qe_var 0) (qa_cons (qe_var 3) (qa_cons (qe_var 2) (qa_nil))))) (qa_cons (qe_var 4) (qa_nil))))) (qa_nil))))
/-! behind_take -/
abbrev s_behind_take : Stmt := top 22
abbrev N_behind_take : List Str := ["window", "state", "place", "ahead", "taken", "frames", "answers", "number", "frame", "some", "by", "left", "one"]
theorem sc_behind_take : FnScope N_behind_take ["window", "state", "place"] (defScope s_behind_take) := ⟨rfl, rfl, rfl, by decide +kernel, rfl, by decide +kernel, by decide +kernel⟩
def B_behind_take_1 : MS := sAug 10 pyIAdd (mC (.int 1))
def T_behind_take_1 : MT := mTst (mBin pyIn (mVar 10) (mVar 9))
def E_behind_take_2 : ME := mBin pySub (mVar 12) (mVar 10)
def T_behind_take_2 : MT := mTst (mBin pyGt (mVar 12) (mVar 10))
def b_behind_take : MS := sSeq (sAsg (mVar 1) (gT 4 (gsCons (gN 3) (gsCons (gN 4) (gsCons (gN 5) (gsCons (gN 6) (gsNil)))))))
    (sSeq (sPar 7 5 (mCons (mBin pyIx (mBin pyIx (mVar 5) (mVar 2)) (mC (.int 0))) (mCons (mCall m_come_out (mCons (mVar 5) (mCons (mVar 2) (mNil)))) (mNil))))
    (sSeq (sAsg (mCall m_taken_frame (mCons (mVar 0) (mCons (mVar 1) (mCons (mVar 7) (mNil))))) (gN 8))
    (sSeq (sIf (mTst (mBin pyIs (mVar 8) (mC .non))) (sRet (mTup (mCons (mVar 3) (mCons (mVar 4) (mCons (mVar 5) (mCons (mVar 6) (mNil))))))) (sNil))
    (sSeq (sIf (mTst (mBin pyNe (mVar 8) (mVar 7))) (sRet (mC .non)) (sNil))
    (sSeq (sAsg (mTup (mCons (mCall pySorted (mCons (mBin pyAdd (mVar 4) (mTup (mCons (mVar 8) (mNil)))) (mNil))) (mCons (mC (.int 0)) (mNil)))) (gT 2 (gsCons (gN 9) (gsCons (gN 10) (gsNil)))))
    (sSeq (whileM 100000 (T_behind_take_1) (B_behind_take_1))
    (sSeq (sAsg (mCall pyTuple (mCons (mLc (mIt (mVar 9)) (gN 12) (T_behind_take_2) (E_behind_take_2) [12]) (mNil))) (gN 11))
    (sRet (mTup (mCons (mBin pyAdd (mVar 3) (mVar 10)) (mCons (mVar 11) (mCons (mCall m_all_lowered (mCons (mBin pyIx (mVar 0) (mC (.int 0))) (mCons (mVar 5) (mCons (mVar 10) (mNil))))) (mCons (mVar 6) (mNil))))))))))))))
def m_behind_take : List D → IH → Res D := mBody 13 b_behind_take
theorem ok_behind_take {P : Program} {w : World} {K : PySem.W.Frag} {mg : MG} {base : Heap} {f : Addr} {fd : FuncData} (G : Gs mg K) (F : FunD K "behind_take" "behind_take" (defArgs s_behind_take) (defBody s_behind_take) (defScope s_behind_take) [] [] f fd) (hm : mg "behind_take" = some (.ref f))
    (F_taken_frame : Fn P w K mg base 1 "taken_frame" m_taken_frame 3)
    (F_come_out : Fn P w K mg base 1 "come_out" m_come_out 2)
    (F_all_lowered : Fn P w K mg base 2 "all_lowered" m_all_lowered 3)
    : Fn P w K mg base 3 "behind_take" m_behind_take 3 := mk_fn F sc_behind_take hm (fun _ _ _ _ _ _ us hl => match us, hl with | [_, _, _], _ => rfl) fun cv A out s H E C =>
  qss_cons (qs_asg (qe_var 1) (qg_tup C.calm (qgs_cons (qg_name 3 C.nd) (qgs_cons (qg_name 4 C.nd) (qgs_cons (qg_name 5 C.nd) (qgs_cons (qg_name 6 C.nd) (qgs_nil)))))))
    (qss_cons (qs_par 7 5 C.calm C.nd (qa_cons (qe_ix (ix_any C) sd_ix (qe_ix (ix_any C) sd_ix (qe_var 5) (qe_var 2) (fun _ _ => rfl)) (qe_int) (fun _ _ => rfl)) (qa_cons (qe_call C F_come_out (qa_cons (qe_var 5) (qa_cons (qe_var 2) (qa_nil)))) (qa_nil))))
    (qss_cons (qs_set 8 C.nd (qe_call C F_taken_frame (qa_cons (qe_var 0) (qa_cons (qe_var 1) (qa_cons (qe_var 7) (qa_nil))))))
    (qss_cons (qs_if (qt_cmp op_isN sd_is (qe_var 8) (qe_non) (nomark _)) (qss_one (qs_ret (qe_tup (qa_cons (qe_var 3) (qa_cons (qe_var 4) (qa_cons (qe_var 5) (qa_cons (qe_var 6) (qa_nil)))))))) (qss_nil))
    (qss_cons (qs_if (qt_cmp (op_neA (units_of C)) sd_ne (qe_var 8) (qe_var 7) (nomark _)) (qss_one (qs_ret (qe_non))) (qss_nil))
    (qss_cons (qs_asg (qe_tup (qa_cons (qe_callB (cr_sorted (units_of C)) sd_sorted G.z_sorted (by decide +kernel) (qa_cons (qe_bin op_addD sd_add (qe_var 4) (qe_tup (qa_cons (qe_var 8) (qa_nil)))) (qa_nil))) (qa_cons (qe_int) (qa_nil)))) (qg_tup C.calm (qgs_cons (qg_name 9 C.nd) (qgs_cons (qg_name 10 C.nd) (qgs_nil)))))
    (qss_cons (qs_while 100000 C (qt_cmp (op_inA C) sd_in (qe_var 10) (qe_var 9) (by rfl)) (qss_one (qs_aug 10 C.nd ip_addD sd_ipadd (qe_int))))
    (qss_cons (qs_set 11 C.nd (qe_callT call_tuple_of sd_tuple G.z_tuple (by decide +kernel) (qa_cons (qe_lc [("one", 12)] C (qi_val (qe_var 9)) (blkOk_by (own := [("one", 12)]) (N := N_behind_take) (sc := defScope s_behind_take) (by decide +kernel)) (fun _ _ _ _ _ C => qx_name 12 C.nd) (fun _ _ _ _ _ C => qts_one (qt_cmp op_gt sd_cmp (qe_var 12) (qe_var 10) (nomark _))) (fun _ _ _ _ _ C => qe_bin op_sub sd_sub (qe_var 12) (qe_var 10))) (qa_nil))))
    (qss_one (qs_ret (qe_tup (qa_cons (qe_bin op_addD sd_add (qe_var 3) (qe_var 10)) (qa_cons (qe_var 11) (qa_cons (qe_call C F_all_lowered (qa_cons (qe_ix (ix_any C) sd_ix (qe_var 0) (qe_int) (fun _ _ => rfl)) (qa_cons (qe_var 5) (qa_cons (qe_var 10) (qa_nil))))) (qa_cons (qe_var 6) (qa_nil)))))))))))))))
/-! behind_hear -/
abbrev s_behind_hear : Stmt := top 23
abbrev N_behind_hear : List Str := ["window", "state", "place", "ahead", "taken", "frames", "answers", "number", "some", "by"]
theorem sc_behind_hear : FnScope N_behind_hear ["window", "state", "place"] (defScope s_behind_hear) := ⟨rfl, rfl, rfl, by decide +kernel, rfl, by decide +kernel, by decide +kernel⟩
def E_behind_hear_1 : ME := mVar 9
def T_behind_hear_1 : MT := mTst (mBin pyEq (mBin pyMod (mCall pyInt (mCons (mBin pySub (mVar 9) (mVar 7)) (mNil))) (mBin pyIx (mVar 0) (mC (.int 0)))) (mC (.int 0)))
def b_behind_hear : MS := sSeq (sAsg (mVar 1) (gT 4 (gsCons (gN 3) (gsCons (gN 4) (gsCons (gN 5) (gsCons (gN 6) (gsNil)))))))
    (sSeq (sAsg (mTup (mCons (mBin pyIx (mBin pyIx (mVar 6) (mVar 2)) (mC (.int 0))) (mCons (mCall m_come_out (mCons (mVar 6) (mCons (mVar 2) (mNil)))) (mNil)))) (gT 2 (gsCons (gN 7) (gsCons (gN 6) (gsNil)))))
    (sSeq (sAsg (mLc (mRng2 (mC (.int 1)) (mBin pyAdd (mBin pyIx (mVar 0) (mC (.int 1))) (mC (.int 1)))) (gN 9) (T_behind_hear_1) (E_behind_hear_1) [9]) (gN 8))
    (sSeq (sIf (mTst (mBin pyEq (mVar 8) (mLst (mNil)))) (sRet (mTup (mCons (mVar 3) (mCons (mVar 4) (mCons (mVar 5) (mCons (mVar 6) (mNil))))))) (sNil))
    (sSeq (sIf (mTst (mBin pyNe (mBin pyIx (mVar 8) (mC (.int 0))) (mVar 7))) (sRet (mC .non)) (sNil))
    (sRet (mTup (mCons (mBin pySub (mVar 3) (mVar 7)) (mCons (mVar 4) (mCons (mVar 5) (mCons (mCall m_all_lowered (mCons (mBin pyIx (mVar 0) (mC (.int 0))) (mCons (mVar 6) (mCons (mVar 7) (mNil))))) (mNil)))))))))))
def m_behind_hear : List D → IH → Res D := mBody 10 b_behind_hear
theorem ok_behind_hear {P : Program} {w : World} {K : PySem.W.Frag} {mg : MG} {base : Heap} {f : Addr} {fd : FuncData} (G : Gs mg K) (F : FunD K "behind_hear" "behind_hear" (defArgs s_behind_hear) (defBody s_behind_hear) (defScope s_behind_hear) [] [] f fd) (hm : mg "behind_hear" = some (.ref f))
    (F_come_out : Fn P w K mg base 1 "come_out" m_come_out 2)
    (F_all_lowered : Fn P w K mg base 2 "all_lowered" m_all_lowered 3)
    : Fn P w K mg base 3 "behind_hear" m_behind_hear 3 := mk_fn F sc_behind_hear hm (fun _ _ _ _ _ _ us hl => match us, hl with | [_, _, _], _ => rfl) fun cv A out s H E C =>
  qss_cons (qs_asg (qe_var 1) (qg_tup C.calm (qgs_cons (qg_name 3 C.nd) (qgs_cons (qg_name 4 C.nd) (qgs_cons (qg_name 5 C.nd) (qgs_cons (qg_name 6 C.nd) (qgs_nil)))))))
    (qss_cons (qs_asg (qe_tup (qa_cons (qe_ix (ix_any C) sd_ix (qe_ix (ix_any C) sd_ix (qe_var 6) (qe_var 2) (fun _ _ => rfl)) (qe_int) (fun _ _ => rfl)) (qa_cons (qe_call C F_come_out (qa_cons (qe_var 6) (qa_cons (qe_var 2) (qa_nil)))) (qa_nil)))) (qg_tup C.calm (qgs_cons (qg_name 7 C.nd) (qgs_cons (qg_name 6 C.nd) (qgs_nil)))))
    (qss_cons (qs_setLc 8 [("by", 9)] C (qi_range2 G.z_range (qe_int) (qe_bin op_addD sd_add (qe_ix (ix_any C) sd_ix (qe_var 0) (qe_int) (fun _ _ => rfl)) (qe_int))) (blkOk_by (own := [("by", 9)]) (N := N_behind_hear) (sc := defScope s_behind_hear) (by decide +kernel)) (fun _ _ _ _ _ C => qx_name 9 C.nd) (fun _ _ _ _ _ C => qts_one (qt_cmp (op_eqA (units_of C)) sd_eq (qe_bin op_mod sd_mod (qe_callT call_int1 sd_int G.z_int (by decide +kernel) (qa_cons (qe_bin op_sub sd_sub (qe_var 9) (qe_var 7)) (qa_nil))) (qe_ix (ix_any C) sd_ix (qe_var 0) (qe_int) (fun _ _ => rfl))) (qe_int) (nomark _))) (fun _ _ _ _ _ C => qe_var 9))
    (qss_cons (qs_if (qt_cmp (op_eqA (units_of C)) sd_eq (qe_var 8) (qe_lst (qa_nil)) (nomark _)) (qss_one (qs_ret (qe_tup (qa_cons (qe_var 3) (qa_cons (qe_var 4) (qa_cons (qe_var 5) (qa_cons (qe_var 6) (qa_nil)))))))) (qss_nil))
    (qss_cons (qs_if (qt_cmp (op_neA (units_of C)) sd_ne (qe_ix (ix_any C) sd_ix (qe_var 8) (qe_int) (fun _ _ => rfl)) (qe_var 7) (nomark _)) (qss_one (qs_ret (qe_non))) (qss_nil))
    (qss_one (qs_ret (qe_tup (qa_cons (qe_bin op_sub sd_sub (qe_var 3) (qe_var 7)) (qa_cons (qe_var 4) (qa_cons (qe_var 5) (qa_cons (qe_call C F_all_lowered (qa_cons (qe_ix (ix_any C) sd_ix (qe_var 0) (qe_int) (fun _ _ => rfl)) (qa_cons (qe_var 6) (qa_cons (qe_var 7) (qa_nil))))) (qa_nil))))))))))))
/-! changed_way -/
abbrev s_changed_way : Stmt := top 24
abbrev N_changed_way : List Str := ["word", "items", "place"]
theorem sc_changed_way : FnScope N_changed_way ["word", "items", "place"] (defScope s_changed_way) := ⟨rfl, rfl, rfl, by decide +kernel, rfl, by decide +kernel, by decide +kernel⟩
def b_changed_way : MS := sSeq (sIf (mTst (mBin pyIn (mVar 0) (mTup (mCons (mC (.str "lose")) (mCons (mC (.str "deaf")) (mNil)))))) (sRet (mBin pyAdd (mSl (mVar 1) (moN) (moS (mVar 2))) (mSl (mVar 1) (moS (mBin pyAdd (mVar 2) (mC (.int 1)))) (moN)))) (sNil))
    (sRet (mBin pyAdd (mSl (mVar 1) (moN) (moS (mBin pyAdd (mVar 2) (mC (.int 1))))) (mSl (mVar 1) (moS (mVar 2)) (moN))))
def m_changed_way : List D → IH → Res D := mBody 3 b_changed_way
theorem ok_changed_way {P : Program} {w : World} {K : PySem.W.Frag} {mg : MG} {base : Heap} {f : Addr} {fd : FuncData} (G : Gs mg K) (F : FunD K "changed_way" "changed_way" (defArgs s_changed_way) (defBody s_changed_way) (defScope s_changed_way) [] [] f fd) (hm : mg "changed_way" = some (.ref f))
    : Fn P w K mg base 1 "changed_way" m_changed_way 3 := mk_fn F sc_changed_way hm (fun _ _ _ _ _ _ us hl => match us, hl with | [_, _, _], _ => rfl) fun cv A out s H E C =>
  qss_cons (qs_if (qt_cmp (op_inA C) sd_in (qe_var 0) (qe_tup (qa_cons (qe_gstr G.c_LOSE) (qa_cons (qe_str) (qa_nil)))) (by rfl)) (qss_one (qs_ret (qe_bin op_addD sd_add (qe_slice (qe_var 1) (qo_none) (qo_some (qe_var 2))) (qe_slice (qe_var 1) (qo_some (qe_bin op_addD sd_add (qe_var 2) (qe_int))) (qo_none))))) (qss_nil))
    (qss_one (qs_ret (qe_bin op_addD sd_add (qe_slice (qe_var 1) (qo_none) (qo_some (qe_bin op_addD sd_add (qe_var 2) (qe_int)))) (qe_slice (qe_var 1) (qo_some (qe_var 2)) (qo_none)))))
/-! behind -/
abbrev s_behind : Stmt := top 25
abbrev N_behind : List Str := ["window", "state", "deed", "ahead", "taken", "frames", "answers"]
theorem sc_behind : FnScope N_behind ["window", "state", "deed"] (defScope s_behind) := ⟨rfl, rfl, rfl, by decide +kernel, rfl, by decide +kernel, by decide +kernel⟩
def b_behind : MS := sSeq (sAsg (mVar 1) (gT 4 (gsCons (gN 3) (gsCons (gN 4) (gsCons (gN 5) (gsCons (gN 6) (gsNil)))))))
    (sSeq (sIf (mTst (mBin pyEq (mBin pyIx (mVar 2) (mC (.int 0))) (mC (.str "send")))) (sRet (mTup (mCons (mVar 3) (mCons (mVar 4) (mCons (mBin pyAdd (mVar 5) (mTup (mCons (mTup (mCons (mCall m_lowered (mCons (mBin pyIx (mVar 0) (mC (.int 0))) (mCons (mBin pyIx (mVar 2) (mC (.int 1))) (mCons (mVar 3) (mNil))))) (mCons (mC (.int 0)) (mNil)))) (mNil)))) (mCons (mVar 6) (mNil))))))) (sNil))
    (sSeq (sIf (mTst (mBin pyEq (mBin pyIx (mVar 2) (mC (.int 0))) (mC (.str "answer")))) (sRet (mTup (mCons (mVar 3) (mCons (mVar 4) (mCons (mVar 5) (mCons (mBin pyAdd (mVar 6) (mTup (mCons (mTup (mCons (mVar 3) (mCons (mC (.int 0)) (mNil)))) (mNil)))) (mNil))))))) (sNil))
    (sSeq (sIf (mTst (mBin pyEq (mBin pyIx (mVar 2) (mC (.int 0))) (mC (.str "take")))) (sRet (mCall m_behind_take (mCons (mVar 0) (mCons (mVar 1) (mCons (mBin pyIx (mVar 2) (mC (.int 1))) (mNil)))))) (sNil))
    (sSeq (sIf (mTst (mBin pyEq (mBin pyIx (mVar 2) (mC (.int 0))) (mC (.str "hear")))) (sRet (mCall m_behind_hear (mCons (mVar 0) (mCons (mVar 1) (mCons (mBin pyIx (mVar 2) (mC (.int 1))) (mNil)))))) (sNil))
    (sSeq (sIf (mTst (mBin pyIn (mBin pyIx (mVar 2) (mC (.int 0))) (mTup (mCons (mC (.str "lose")) (mCons (mC (.str "double")) (mNil)))))) (sRet (mTup (mCons (mVar 3) (mCons (mVar 4) (mCons (mCall m_changed_way (mCons (mBin pyIx (mVar 2) (mC (.int 0))) (mCons (mVar 5) (mCons (mBin pyIx (mVar 2) (mC (.int 1))) (mNil))))) (mCons (mVar 6) (mNil))))))) (sNil))
    (sRet (mTup (mCons (mVar 3) (mCons (mVar 4) (mCons (mVar 5) (mCons (mCall m_changed_way (mCons (mBin pyIx (mVar 2) (mC (.int 0))) (mCons (mVar 6) (mCons (mBin pyIx (mVar 2) (mC (.int 1))) (mNil))))) (mNil))))))))))))
def m_behind : List D → IH → Res D := mBody 7 b_behind
theorem ok_behind {P : Program} {w : World} {K : PySem.W.Frag} {mg : MG} {base : Heap} {f : Addr} {fd : FuncData} (G : Gs mg K) (F : FunD K "behind" "behind" (defArgs s_behind) (defBody s_behind) (defScope s_behind) [] [] f fd) (hm : mg "behind" = some (.ref f))
    (F_behind_take : Fn P w K mg base 3 "behind_take" m_behind_take 3)
    (F_behind_hear : Fn P w K mg base 3 "behind_hear" m_behind_hear 3)
    (F_changed_way : Fn P w K mg base 1 "changed_way" m_changed_way 3)
    (F_lowered : Fn P w K mg base 1 "lowered" m_lowered 3)
    : Fn P w K mg base 4 "behind" m_behind 3 := mk_fn F sc_behind hm (fun _ _ _ _ _ _ us hl => match us, hl with | [_, _, _], _ => rfl) fun cv A out s H E C =>
  qss_cons (qs_asg (qe_var 1) (qg_tup C.calm (qgs_cons (qg_name 3 C.nd) (qgs_cons (qg_name 4 C.nd) (qgs_cons (qg_name 5 C.nd) (qgs_cons (qg_name 6 C.nd) (qgs_nil)))))))
    (qss_cons (qs_if (qt_cmp (op_eqA (units_of C)) sd_eq (qe_ix (ix_any C) sd_ix (qe_var 2) (qe_int) (fun _ _ => rfl)) (qe_str) (nomark _)) (qss_one (qs_ret (qe_tup (qa_cons (qe_var 3) (qa_cons (qe_var 4) (qa_cons (qe_bin op_addD sd_add (qe_var 5) (qe_tup (qa_cons (qe_tup (qa_cons (qe_call C F_lowered (qa_cons (qe_ix (ix_any C) sd_ix (qe_var 0) (qe_int) (fun _ _ => rfl)) (qa_cons (qe_ix (ix_any C) sd_ix (qe_var 2) (qe_int) (fun _ _ => rfl)) (qa_cons (qe_var 3) (qa_nil))))) (qa_cons (qe_int) (qa_nil)))) (qa_nil)))) (qa_cons (qe_var 6) (qa_nil)))))))) (qss_nil))
    (qss_cons (qs_if (qt_cmp (op_eqA (units_of C)) sd_eq (qe_ix (ix_any C) sd_ix (qe_var 2) (qe_int) (fun _ _ => rfl)) (qe_str) (nomark _)) (qss_one (qs_ret (qe_tup (qa_cons (qe_var 3) (qa_cons (qe_var 4) (qa_cons (qe_var 5) (qa_cons (qe_bin op_addD sd_add (qe_var 6) (qe_tup (qa_cons (qe_tup (qa_cons (qe_var 3) (qa_cons (qe_int) (qa_nil)))) (qa_nil)))) (qa_nil)))))))) (qss_nil))
    (qss_cons (qs_if (qt_cmp (op_eqA (units_of C)) sd_eq (qe_ix (ix_any C) sd_ix (qe_var 2) (qe_int) (fun _ _ => rfl)) (qe_str) (nomark _)) (qss_one (qs_ret (qe_call C F_behind_take (qa_cons (qe_var 0) (qa_cons (qe_var 1) (qa_cons (qe_ix (ix_any C) sd_ix (qe_var 2) (qe_int) (fun _ _ => rfl)) (qa_nil))))))) (qss_nil))
    (qss_cons (qs_if (qt_cmp (op_eqA (units_of C)) sd_eq (qe_ix (ix_any C) sd_ix (qe_var 2) (qe_int) (fun _ _ => rfl)) (qe_str) (nomark _)) (qss_one (qs_ret (qe_call C F_behind_hear (qa_cons (qe_var 0) (qa_cons (qe_var 1) (qa_cons (qe_ix (ix_any C) sd_ix (qe_var 2) (qe_int) (fun _ _ => rfl)) (qa_nil))))))) (qss_nil))
    (qss_cons (qs_if (qt_cmp (op_inA C) sd_in (qe_ix (ix_any C) sd_ix (qe_var 2) (qe_int) (fun _ _ => rfl)) (qe_tup (qa_cons (qe_gstr G.c_LOSE) (qa_cons (qe_gstr G.c_DOUBLE) (qa_nil)))) (by rfl)) (qss_one (qs_ret (qe_tup (qa_cons (qe_var 3) (qa_cons (qe_var 4) (qa_cons (qe_call C F_changed_way (qa_cons (qe_ix (ix_any C) sd_ix (qe_var 2) (qe_int) (fun _ _ => rfl)) (qa_cons (qe_var 5) (qa_cons (qe_ix (ix_any C) sd_ix (qe_var 2) (qe_int) (fun _ _ => rfl)) (qa_nil))))) (qa_cons (qe_var 6) (qa_nil)))))))) (qss_nil))
    (qss_one (qs_ret (qe_tup (qa_cons (qe_var 3) (qa_cons (qe_var 4) (qa_cons (qe_var 5) (qa_cons (qe_call C F_changed_way (qa_cons (qe_ix (ix_any C) sd_ix (qe_var 2) (qe_int) (fun _ _ => rfl)) (qa_cons (qe_var 6) (qa_cons (qe_ix (ix_any C) sd_ix (qe_var 2) (qe_int) (fun _ _ => rfl)) (qa_nil))))) (qa_nil)))))))))))))
/-! searched -/
abbrev s_searched : Stmt := top 32
abbrev N_searched : List Str := ["window", "channel", "known", "layer", "further", "state", "deed", "fresh"]
theorem sc_searched : FnScope N_searched ["window", "channel"] (defScope s_searched) := ⟨rfl, rfl, rfl, by decide +kernel, rfl, by decide +kernel, by decide +kernel⟩
def B_searched_1 : MS := sSeq (sAsg (mCall m_behind (mCons (mVar 0) (mCons (mVar 5) (mCons (mVar 6) (mNil))))) (gN 7))
    (sSeq (sIf (mTst (mBin pyIs (mVar 7) (mC .non))) (sRet (mTup (mCons (mBin pyAdd (mBin pyIx (mVar 2) (mVar 5)) (mTup (mCons (mVar 6) (mNil)))) (mCons (mVar 2) (mNil))))) (sNil))
    (sIf (mTst (mBin pyNotIn (mVar 7) (mVar 2))) (sSeq (sAsg (mBin pyAdd (mBin pyIx (mVar 2) (mVar 5)) (mTup (mCons (mVar 6) (mNil)))) (gSubM (mVar 2) (mVar 7)))
    (sExpr (mMeth "list" pyAppend (mVar 4) (mCons (mVar 7) (mNil))))) (sNil)))
def B_searched_2 : MS := sFor (mIt (mCall m_deeds_of (mCons (mVar 0) (mCons (mVar 1) (mCons (mVar 5) (mNil)))))) (gN 6) (B_searched_1)
def B_searched_3 : MS := sSeq (sIf (mTst (mBin pyGt (mCall pyLenA (mCons (mVar 2) (mNil))) (mC (.int 20000)))) ((fun _ _ => .stk)) (sNil))
    (sSeq (sAsg (mLst (mNil)) (gN 4))
    (sSeq (sFor (mIt (mVar 3)) (gN 5) (B_searched_2))
    (sAsg (mVar 4) (gN 3))))
def T_searched_3 : MT := mTst (mBin pyNe (mVar 3) (mLst (mNil)))
def b_searched : MS := sSeq (sAsg (mDic (pCons (mCall m_first_state mNil) (mTup (mNil)) (pNil))) (gN 2))
    (sSeq (sAsg (mCall pyListA (mCons (mVar 2) (mNil))) (gN 3))
    (sSeq (whileM 100000 (T_searched_3) (B_searched_3))
    (sRet (mTup (mCons (mC .non) (mCons (mVar 2) (mNil)))))))
def m_searched : List D → IH → Res D := mBody 8 b_searched
theorem ok_searched {P : Program} {w : World} {K : PySem.W.Frag} {mg : MG} {base : Heap} {f : Addr} {fd : FuncData} (G : Gs mg K) (F : FunD K "searched" "searched" (defArgs s_searched) (defBody s_searched) (defScope s_searched) [] [] f fd) (hm : mg "searched" = some (.ref f))
    (F_first_state : Fn P w K mg base 1 "first_state" m_first_state 0)
    (F_deeds_of : Fn P w K mg base 2 "deeds_of" m_deeds_of 3)
    (F_behind : Fn P w K mg base 4 "behind" m_behind 3)
    : Fn P w K mg base 5 "searched" m_searched 2 := mk_fn F sc_searched hm (fun _ _ _ _ _ _ us hl => match us, hl with | [_, _], _ => rfl) fun cv A out s H E C =>
  qss_cons (qs_set 2 C.nd (qe_dic C (qp_cons (qe_call0 C F_first_state) (qe_tup (qa_nil)) (qp_nil))))
    (qss_cons (qs_set 3 C.nd (qe_callT (cr_listA C) sd_listA G.z_list (by decide +kernel) (qa_cons (qe_var 2) (qa_nil))))
    (qss_cons (qs_while 100000 C (qt_cmp (op_neA (units_of C)) sd_ne (qe_var 3) (qe_lst (qa_nil)) (nomark _)) (qss_cons (qs_if (qt_cmp op_gt sd_cmp (qe_callB cr_lenA sd_lenA G.z_len (by decide +kernel) (qa_cons (qe_var 2) (qa_nil))) (qe_gint G.c_MOST_STATES) (nomark _)) (qss_one (qs_never)) (qss_nil))
    (qss_cons (qs_set 4 C.nd (qe_lst (qa_nil)))
    (qss_cons (qs_for C (qi_val (qe_var 3)) (qg_name 5 C.nd) (qss_one (qs_for C (qi_val (qe_call C F_deeds_of (qa_cons (qe_var 0) (qa_cons (qe_var 1) (qa_cons (qe_var 5) (qa_nil)))))) (qg_name 6 C.nd) (qss_cons (qs_set 7 C.nd (qe_call C F_behind (qa_cons (qe_var 0) (qa_cons (qe_var 5) (qa_cons (qe_var 6) (qa_nil))))))
    (qss_cons (qs_if (qt_cmp op_isN sd_is (qe_var 7) (qe_non) (nomark _)) (qss_one (qs_ret (qe_tup (qa_cons (qe_bin op_addD sd_add (qe_ix (ix_any C) sd_ix (qe_var 2) (qe_var 5) (fun _ _ => rfl)) (qe_tup (qa_cons (qe_var 6) (qa_nil)))) (qa_cons (qe_var 2) (qa_nil)))))) (qss_nil))
    (qss_one (qs_if (qt_cmp (op_notInA C) sd_notIn (qe_var 7) (qe_var 2) (by rfl)) (qss_cons (qs_asg (qe_bin op_addD sd_add (qe_ix (ix_any C) sd_ix (qe_var 2) (qe_var 5) (fun _ _ => rfl)) (qe_tup (qa_cons (qe_var 6) (qa_nil)))) (qg_sub C (qe_var 2) (qe_var 7)))
    (qss_one (qs_expr (qe_meth PySem.F.plainAttrs_list PySem.F.slot_list_append PySem.F.type_list_append mt_append sd_append (.inl rfl) (qe_var 4) (qa_cons (qe_var 7) (qa_nil)))))) (qss_nil))))))))
    (qss_one (qs_set 3 C.nd (qe_var 4)))))))
    (qss_one (qs_ret (qe_tup (qa_cons (qe_non) (qa_cons (qe_var 2) (qa_nil))))))))
/-! sound_paper -/
abbrev s_sound_paper : Stmt := top 35
abbrev N_sound_paper : List Str := ["window", "channel", "found", "known"]
theorem sc_sound_paper : FnScope N_sound_paper ["window", "channel"] (defScope s_sound_paper) := ⟨rfl, rfl, rfl, by decide +kernel, rfl, by decide +kernel, by decide +kernel⟩
def b_sound_paper : MS := sSeq (sExpr (mCall m_need_both (mCons (mVar 0) (mCons (mVar 1) (mNil)))))
    (sSeq (sAsg (mCall m_searched (mCons (mVar 0) (mCons (mVar 1) (mNil)))) (gT 2 (gsCons (gN 2) (gsCons (gN 3) (gsNil)))))
    (sRet (mIf (mTst (mBin pyIsNot (mVar 2) (mC .non))) (mTup (mCons (mC (.str "wrong")) (mCons (mVar 2) (mNil)))) (mTup (mCons (mC (.str "sound")) (mCons (mCall pyTuple (mCons (mCall pySorted (mCons (mCall pyListA (mCons (mVar 3) (mNil))) (mNil))) (mNil))) (mNil)))))))
def m_sound_paper : List D → IH → Res D := mBody 4 b_sound_paper
theorem ok_sound_paper {P : Program} {w : World} {K : PySem.W.Frag} {mg : MG} {base : Heap} {f : Addr} {fd : FuncData} (G : Gs mg K) (F : FunD K "sound_paper" "sound_paper" (defArgs s_sound_paper) (defBody s_sound_paper) (defScope s_sound_paper) [] [] f fd) (hm : mg "sound_paper" = some (.ref f))
    (F_need_both : Fn P w K mg base 3 "need_both" m_need_both 2)
    (F_searched : Fn P w K mg base 5 "searched" m_searched 2)
    : Fn P w K mg base 6 "sound_paper" m_sound_paper 2 := mk_fn F sc_sound_paper hm (fun _ _ _ _ _ _ us hl => match us, hl with | [_, _], _ => rfl) fun cv A out s H E C =>
  qss_cons (qs_expr (qe_call C F_need_both (qa_cons (qe_var 0) (qa_cons (qe_var 1) (qa_nil)))))
    (qss_cons (qs_asg (qe_call C F_searched (qa_cons (qe_var 0) (qa_cons (qe_var 1) (qa_nil)))) (qg_tup C.calm (qgs_cons (qg_name 2 C.nd) (qgs_cons (qg_name 3 C.nd) (qgs_nil)))))
    (qss_one (qs_ret (qe_if (qt_cmp op_notN sd_isNot (qe_var 2) (qe_non) (nomark _)) (qe_tup (qa_cons (qe_gstr G.c_WRONG) (qa_cons (qe_var 2) (qa_nil)))) (qe_tup (qa_cons (qe_gstr G.c_SOUND) (qa_cons (qe_callT call_tuple_of sd_tuple G.z_tuple (by decide +kernel) (qa_cons (qe_callB (cr_sorted (units_of C)) sd_sorted G.z_sorted (by decide +kernel) (qa_cons (qe_callT (cr_listA C) sd_listA G.z_list (by decide +kernel) (qa_cons (qe_var 3) (qa_nil))) (qa_nil))) (qa_nil))) (qa_nil))))))))
/-! is_possible -/
abbrev s_is_possible : Stmt := top 26
abbrev N_is_possible : List Str := ["window", "channel", "state", "deed", "one"]
theorem sc_is_possible : FnScope N_is_possible ["window", "channel", "state", "deed"] (defScope s_is_possible) := ⟨rfl, rfl, rfl, by decide +kernel, rfl, by decide +kernel, by decide +kernel⟩
def E_is_possible_1 : ME := mCall pyReprA (mCons (mVar 4) (mNil))
def b_is_possible : MS := sRet (mBin pyIn (mCall pyReprA (mCons (mVar 3) (mNil))) (mLc (mIt (mCall m_deeds_of (mCons (mVar 0) (mCons (mVar 1) (mCons (mVar 2) (mNil)))))) (gN 4) (mYes) (E_is_possible_1) [4]))
def m_is_possible : List D → IH → Res D := mBody 5 b_is_possible
theorem ok_is_possible {P : Program} {w : World} {K : PySem.W.Frag} {mg : MG} {base : Heap} {f : Addr} {fd : FuncData} (G : Gs mg K) (F : FunD K "is_possible" "is_possible" (defArgs s_is_possible) (defBody s_is_possible) (defScope s_is_possible) [] [] f fd) (hm : mg "is_possible" = some (.ref f))
    (F_deeds_of : Fn P w K mg base 2 "deeds_of" m_deeds_of 3)
    : Fn P w K mg base 3 "is_possible" m_is_possible 4 := mk_fn F sc_is_possible hm (fun _ _ _ _ _ _ us hl => match us, hl with | [_, _, _, _], _ => rfl) fun cv A out s H E C =>
  qss_one (qs_ret (qe_cmp (op_inA C) sd_in (qe_callB (cr_reprA C) sd_reprA G.z_repr (by decide +kernel) (qa_cons (qe_var 3) (qa_nil))) (qe_lc [("one", 4)] C (qi_val (qe_call C F_deeds_of (qa_cons (qe_var 0) (qa_cons (qe_var 1) (qa_cons (qe_var 2) (qa_nil)))))) (blkOk_by (own := [("one", 4)]) (N := N_is_possible) (sc := defScope s_is_possible) (by decide +kernel)) (fun _ _ _ _ _ C => qx_name 4 C.nd) (fun _ _ _ _ _ C => qts_nil) (fun _ _ _ _ _ C => qe_callB (cr_reprA C) sd_reprA G.z_repr (by decide +kernel) (qa_cons (qe_var 4) (qa_nil)))) (by rfl)))
/-! led -/
abbrev s_led : Stmt := top 36
abbrev N_led : List Str := ["window", "channel", "codes", "state", "number", "deed"]
theorem sc_led : FnScope N_led ["window", "channel", "codes"] (defScope s_led) := ⟨rfl, rfl, rfl, by decide +kernel, rfl, by decide +kernel, by decide +kernel⟩
def B_led_1 : MS := sSeq (sIf (mNot (mTru (mCall m_is_possible (mCons (mVar 0) (mCons (mVar 1) (mCons (mVar 3) (mCons (mVar 5) (mNil)))))))) (sRet (mTup (mCons (mC .non) (mCons (mC .non) (mNil))))) (sNil))
    (sSeq (sAsg (mCall m_behind (mCons (mVar 0) (mCons (mVar 3) (mCons (mVar 5) (mNil))))) (gN 3))
    (sIf (mTst (mBin pyIs (mVar 3) (mC .non))) (sRet (mTup (mCons (mC .non) (mCons (mBin pyAdd (mVar 4) (mC (.int 1))) (mNil))))) (sNil)))
def b_led : MS := sSeq (sAsg (mCall m_first_state mNil) (gN 3))
    (sSeq (sFor (mEn (mVar 2)) (gT 2 (gsCons (gN 4) (gsCons (gN 5) (gsNil)))) (B_led_1))
    (sRet (mTup (mCons (mVar 3) (mCons (mCall pyLenA (mCons (mVar 2) (mNil))) (mNil))))))
def m_led : List D → IH → Res D := mBody 6 b_led
theorem ok_led {P : Program} {w : World} {K : PySem.W.Frag} {mg : MG} {base : Heap} {f : Addr} {fd : FuncData} (G : Gs mg K) (F : FunD K "led" "led" (defArgs s_led) (defBody s_led) (defScope s_led) [] [] f fd) (hm : mg "led" = some (.ref f))
    (F_first_state : Fn P w K mg base 1 "first_state" m_first_state 0)
    (F_behind : Fn P w K mg base 4 "behind" m_behind 3)
    (F_is_possible : Fn P w K mg base 3 "is_possible" m_is_possible 4)
    : Fn P w K mg base 5 "led" m_led 3 := mk_fn F sc_led hm (fun _ _ _ _ _ _ us hl => match us, hl with | [_, _, _], _ => rfl) fun cv A out s H E C =>
  qss_cons (qs_set 3 C.nd (qe_call0 C F_first_state))
    (qss_cons (qs_for C (qi_enum G.z_enumerate (qe_var 2)) (qg_tup C.calm (qgs_cons (qg_name 4 C.nd) (qgs_cons (qg_name 5 C.nd) (qgs_nil)))) (qss_cons (qs_if (qt_not (qt_tru (qe_call C F_is_possible (qa_cons (qe_var 0) (qa_cons (qe_var 1) (qa_cons (qe_var 3) (qa_cons (qe_var 5) (qa_nil)))))))) (qss_one (qs_ret (qe_tup (qa_cons (qe_non) (qa_cons (qe_non) (qa_nil)))))) (qss_nil))
    (qss_cons (qs_set 3 C.nd (qe_call C F_behind (qa_cons (qe_var 0) (qa_cons (qe_var 3) (qa_cons (qe_var 5) (qa_nil))))))
    (qss_one (qs_if (qt_cmp op_isN sd_is (qe_var 3) (qe_non) (nomark _)) (qss_one (qs_ret (qe_tup (qa_cons (qe_non) (qa_cons (qe_bin op_addD sd_add (qe_var 4) (qe_int)) (qa_nil)))))) (qss_nil))))))
    (qss_one (qs_ret (qe_tup (qa_cons (qe_var 3) (qa_cons (qe_callB cr_lenA sd_lenA G.z_len (by decide +kernel) (qa_cons (qe_var 2) (qa_nil))) (qa_nil)))))))
/-! run -/
abbrev s_run : Stmt := top 37
abbrev N_run : List Str := ["window", "channel", "codes", "found"]
theorem sc_run : FnScope N_run ["window", "channel", "codes"] (defScope s_run) := ⟨rfl, rfl, rfl, by decide +kernel, rfl, by decide +kernel, by decide +kernel⟩
def b_run : MS := sSeq (sExpr (mCall m_need_both (mCons (mVar 0) (mCons (mVar 1) (mNil)))))
    (sSeq (sIf (mOr (mNot (mTru (mCall pyIsi (mCons (mVar 2) (mCons (mC (.op (.ty "tuple"))) (mNil)))))) (mTst (mBin pyGt (mCall pyLenA (mCons (mVar 2) (mNil))) (mC (.int 1000))))) ((fun _ _ => .stk)) (sNil))
    (sSeq (sAsg (mCall m_led (mCons (mVar 0) (mCons (mVar 1) (mCons (mVar 2) (mNil))))) (gN 3))
    (sSeq (sIf (mTst (mBin pyIs (mBin pyIx (mVar 3) (mC (.int 1))) (mC .non))) ((fun _ _ => .stk)) (sNil))
    (sRet (mVar 3)))))
def m_run : List D → IH → Res D := mBody 4 b_run
theorem ok_run {P : Program} {w : World} {K : PySem.W.Frag} {mg : MG} {base : Heap} {f : Addr} {fd : FuncData} (G : Gs mg K) (F : FunD K "run" "run" (defArgs s_run) (defBody s_run) (defScope s_run) [] [] f fd) (hm : mg "run" = some (.ref f))
    (F_need_both : Fn P w K mg base 3 "need_both" m_need_both 2)
    (F_led : Fn P w K mg base 5 "led" m_led 3)
    : Fn P w K mg base 6 "run" m_run 3 := mk_fn F sc_run hm (fun _ _ _ _ _ _ us hl => match us, hl with | [_, _, _], _ => rfl) fun cv A out s H E C =>
  qss_cons (qs_expr (qe_call C F_need_both (qa_cons (qe_var 0) (qa_cons (qe_var 1) (qa_nil)))))
    (qss_cons (qs_if (QW.qt (qw_or (qt_not (qt_tru (qe_callB call_isi sd_isi G.z_isinstance (by decide +kernel) (qa_cons (qe_var 2) (qa_cons (qe_ty G.z_tuple (by decide +kernel)) (qa_nil)))))) (qw_or1 (qt_cmp op_gt sd_cmp (qe_callB cr_lenA sd_lenA G.z_len (by decide +kernel) (qa_cons (qe_var 2) (qa_nil))) (qe_gint G.c_MOST_DEEDS) (nomark _))))) (qss_one (qs_never)) (qss_nil))
    (qss_cons (qs_set 3 C.nd (qe_call C F_led (qa_cons (qe_var 0) (qa_cons (qe_var 1) (qa_cons (qe_var 2) (qa_nil))))))
    (qss_cons (qs_if (qt_cmp op_isN sd_is (qe_ix (ix_any C) sd_ix (qe_var 3) (qe_int) (fun _ _ => rfl)) (qe_non) (nomark _)) (qss_one (qs_never)) (qss_nil))
    (qss_one (qs_ret (qe_var 3))))))
/-! _law_wrong_right -/
abbrev s_law_wrong_right : Stmt := top 42
abbrev N_law_wrong_right : List Str := ["_law_window", "_law_channel", "_law_word", "_law_some"]
theorem sc_law_wrong_right : FnScope N_law_wrong_right ["_law_window", "_law_channel"] (defScope s_law_wrong_right) := ⟨rfl, rfl, rfl, by decide +kernel, rfl, by decide +kernel, by decide +kernel⟩
def b_law_wrong_right : MS := sSeq (sAsg (mCall m_sound_paper (mCons (mVar 0) (mCons (mVar 1) (mNil)))) (gT 2 (gsCons (gN 2) (gsCons (gN 3) (gsNil)))))
    (sSeq (sIf (mOr (mTst (mBin pyNe (mVar 2) (mC (.str "wrong")))) (mTst (mBin pyNe (mCall m_run (mCons (mVar 0) (mCons (mVar 1) (mCons (mVar 3) (mNil))))) (mTup (mCons (mC .non) (mCons (mCall pyLenA (mCons (mVar 3) (mNil))) (mNil))))))) (sRet (mC (.bl false))) (sNil))
    (sRet (mAndV (mBin pyIn (mBin pyIx (mBin pyIx (mVar 3) (mUn pyNeg (mC (.int 1)))) (mC (.int 0))) (mTup (mCons (mC (.str "take")) (mCons (mC (.str "hear")) (mNil))))) (mBin pyIsNot (mBin pyIx (mCall m_run (mCons (mVar 0) (mCons (mVar 1) (mCons (mSl (mVar 3) (moN) (moS (mUn pyNeg (mC (.int 1))))) (mNil))))) (mC (.int 0))) (mC .non)))))
def m_law_wrong_right : List D → IH → Res D := mBody 4 b_law_wrong_right
theorem ok_law_wrong_right {P : Program} {w : World} {K : PySem.W.Frag} {mg : MG} {base : Heap} {f : Addr} {fd : FuncData} (G : Gs mg K) (F : FunD K "_law_wrong_right" "_law_wrong_right" (defArgs s_law_wrong_right) (defBody s_law_wrong_right) (defScope s_law_wrong_right) [] [] f fd) (hm : mg "_law_wrong_right" = some (.ref f))
    (F_sound_paper : Fn P w K mg base 6 "sound_paper" m_sound_paper 2)
    (F_run : Fn P w K mg base 6 "run" m_run 3)
    : Fn P w K mg base 7 "_law_wrong_right" m_law_wrong_right 2 := mk_fn F sc_law_wrong_right hm (fun _ _ _ _ _ _ us hl => match us, hl with | [_, _], _ => rfl) fun cv A out s H E C =>
  qss_cons (qs_asg (qe_call C F_sound_paper (qa_cons (qe_var 0) (qa_cons (qe_var 1) (qa_nil)))) (qg_tup C.calm (qgs_cons (qg_name 2 C.nd) (qgs_cons (qg_name 3 C.nd) (qgs_nil)))))
    (qss_cons (qs_if (QW.qt (qw_or (qt_cmp (op_neA (units_of C)) sd_ne (qe_var 2) (qe_str) (nomark _)) (qw_or1 (qt_cmp (op_neA (units_of C)) sd_ne (qe_call C F_run (qa_cons (qe_var 0) (qa_cons (qe_var 1) (qa_cons (qe_var 3) (qa_nil))))) (qe_tup (qa_cons (qe_non) (qa_cons (qe_callB cr_lenA sd_lenA G.z_len (by decide +kernel) (qa_cons (qe_var 3) (qa_nil))) (qa_nil)))) (nomark _))))) (qss_one (qs_ret (qe_bl))) (qss_nil))
    (qss_one (qs_ret (qe_and (qe_cmp (op_inA C) sd_in (qe_ix (ix_any C) sd_ix (qe_ix (ix_any C) sd_ix (qe_var 3) (qe_un un_neg sd_neg (qe_int)) (fun _ _ => rfl)) (qe_int) (fun _ _ => rfl)) (qe_tup (qa_cons (qe_str) (qa_cons (qe_str) (qa_nil)))) (by rfl)) (qe_one (qe_cmp op_notN sd_isNot (qe_ix (ix_any C) sd_ix (qe_call C F_run (qa_cons (qe_var 0) (qa_cons (qe_var 1) (qa_cons (qe_slice (qe_var 3) (qo_none) (qo_some (qe_un un_neg sd_neg (qe_int)))) (qa_nil))))) (qe_int) (fun _ _ => rfl)) (qe_non) (nomark _)))))))
/-! _law_next -/
abbrev s_law_next : Stmt := top 41
abbrev N_law_next : List Str := ["_law_m", "_law_total", "_law_rest", "_law_k", "_law_cell", "_law_mixed"]
theorem sc_law_next : FnScope N_law_next ["_law_m", "_law_total"] (defScope s_law_next) := ⟨rfl, rfl, rfl, by decide +kernel, rfl, by decide +kernel, by decide +kernel⟩
def B_law_next_1 : MS := sAsg (mSl (mBin pyIx (mVar 0) (mC (.str "left"))) (moS (mC (.int 1))) (moN)) (gSubM (mVar 0) (mC (.str "left")))
def T_law_next_1 : MT := mAnd (mTst (mBin pyNe (mBin pyIx (mVar 0) (mC (.str "left"))) (mLst (mNil)))) (mTst (mBin pyEq (mBin pyIx (mBin pyIx (mVar 0) (mC (.str "left"))) (mC (.int 0))) (mC (.int 0))))
def b_law_next : MS := sSeq (whileM 100000 (T_law_next_1) (B_law_next_1))
    (sSeq (sIf (mTst (mBin pyNe (mBin pyIx (mVar 0) (mC (.str "left"))) (mLst (mNil)))) (sSeq (sAsg (mCall pyInt (mCons (mBin pyIx (mBin pyIx (mVar 0) (mC (.str "left"))) (mC (.int 0))) (mNil))) (gN 2))
    (sSeq (sAsg (mBin pyDiv (mVar 2) (mVar 1)) (gSubM (mBin pyIx (mVar 0) (mC (.str "left"))) (mC (.int 0))))
    (sRet (mBin pyMod (mVar 2) (mVar 1))))) (sNil))
    (sSeq (sAsg (mBin pyAdd (mBin pyIx (mVar 0) (mC (.str "at"))) (mC (.int 1))) (gN 3))
    (sSeq (sAsg (mVar 3) (gSubM (mVar 0) (mC (.str "at"))))
    (sSeq (sAsg (mIf (mTst (mBin pyNe (mBin pyIx (mVar 0) (mC (.str "cells"))) (mLst (mNil)))) (mBin pyIx (mBin pyIx (mVar 0) (mC (.str "cells"))) (mBin pyMod (mCall pyInt (mCons (mVar 3) (mNil))) (mCall pyLenA (mCons (mBin pyIx (mVar 0) (mC (.str "cells"))) (mNil))))) (mC (.int 3))) (gN 4))
    (sSeq (sAsg (mBin pyMul (mCall pyInt (mCons (mBin pyAdd (mBin pyAdd (mBin pyMod (mCall pyInt (mCons (mVar 4) (mNil))) (mC (.int 2147483629))) (mBin pyMul (mC (.int 7919)) (mVar 3))) (mBin pyMul (mBin pyMul (mC (.int 19)) (mVar 3)) (mVar 3))) (mNil))) (mC (.int 48271))) (gN 5))
    (sSeq (sAsg (mBin pyMul (mCall pyInt (mCons (mBin pyAdd (mBin pyMod (mCall pyInt (mCons (mVar 5) (mNil))) (mC (.int 2147483647))) (mBin pyMul (mC (.int 104729)) (mVar 3))) (mNil))) (mC (.int 69621))) (gN 5))
    (sRet (mBin pyMod (mCall pyInt (mCons (mBin pyDiv (mBin pyMod (mCall pyInt (mCons (mVar 5) (mNil))) (mC (.int 2147483587))) (mC (.int 11))) (mNil))) (mVar 1)))))))))
def m_law_next : List D → IH → Res D := mBody 6 b_law_next
theorem ok_law_next {P : Program} {w : World} {K : PySem.W.Frag} {mg : MG} {base : Heap} {f : Addr} {fd : FuncData} (G : Gs mg K) (F : FunD K "_law_next" "_law_next" (defArgs s_law_next) (defBody s_law_next) (defScope s_law_next) [] [] f fd) (hm : mg "_law_next" = some (.ref f))
    : Fn P w K mg base 1 "_law_next" m_law_next 2 := mk_fn F sc_law_next hm (fun _ _ _ _ _ _ us hl => match us, hl with | [_, _], _ => rfl) fun cv A out s H E C =>
  qss_cons (qs_while 100000 C (QW.qt (qw_and (qt_cmp (op_neA (units_of C)) sd_ne (qe_ix (ix_any C) sd_ix (qe_var 0) (qe_str) (fun _ _ => rfl)) (qe_lst (qa_nil)) (nomark _)) (qw_and1 (qt_cmp (op_eqA (units_of C)) sd_eq (qe_ix (ix_any C) sd_ix (qe_ix (ix_any C) sd_ix (qe_var 0) (qe_str) (fun _ _ => rfl)) (qe_int) (fun _ _ => rfl)) (qe_int) (nomark _))))) (qss_one (qs_asg (qe_slice (qe_ix (ix_any C) sd_ix (qe_var 0) (qe_str) (fun _ _ => rfl)) (qo_some (qe_int)) (qo_none)) (qg_sub C (qe_var 0) (qe_str)))))
    (qss_cons (qs_if (qt_cmp (op_neA (units_of C)) sd_ne (qe_ix (ix_any C) sd_ix (qe_var 0) (qe_str) (fun _ _ => rfl)) (qe_lst (qa_nil)) (nomark _)) (qss_cons (qs_set 2 C.nd (qe_callT call_int1 sd_int G.z_int (by decide +kernel) (qa_cons (qe_ix (ix_any C) sd_ix (qe_ix (ix_any C) sd_ix (qe_var 0) (qe_str) (fun _ _ => rfl)) (qe_int) (fun _ _ => rfl)) (qa_nil))))
    (qss_cons (qs_asg (qe_bin op_fdivW sd_div (qe_var 2) (qe_var 1)) (qg_sub C (qe_ix (ix_any C) sd_ix (qe_var 0) (qe_str) (fun _ _ => rfl)) (qe_int)))
    (qss_one (qs_ret (qe_bin op_mod sd_mod (qe_var 2) (qe_var 1)))))) (qss_nil))
    (qss_cons (qs_set 3 C.nd (qe_bin op_addD sd_add (qe_ix (ix_any C) sd_ix (qe_var 0) (qe_str) (fun _ _ => rfl)) (qe_int)))
    (qss_cons (qs_asg (qe_var 3) (qg_sub C (qe_var 0) (qe_str)))
    (qss_cons (qs_set 4 C.nd (qe_if (qt_cmp (op_neA (units_of C)) sd_ne (qe_ix (ix_any C) sd_ix (qe_var 0) (qe_str) (fun _ _ => rfl)) (qe_lst (qa_nil)) (nomark _)) (qe_ix (ix_any C) sd_ix (qe_ix (ix_any C) sd_ix (qe_var 0) (qe_str) (fun _ _ => rfl)) (qe_bin op_mod sd_mod (qe_callT call_int1 sd_int G.z_int (by decide +kernel) (qa_cons (qe_var 3) (qa_nil))) (qe_callB cr_lenA sd_lenA G.z_len (by decide +kernel) (qa_cons (qe_ix (ix_any C) sd_ix (qe_var 0) (qe_str) (fun _ _ => rfl)) (qa_nil)))) (fun _ _ => rfl)) (qe_int)))
    (qss_cons (qs_set 5 C.nd (qe_bin op_mulD sd_mul (qe_callT call_int1 sd_int G.z_int (by decide +kernel) (qa_cons (qe_bin op_addD sd_add (qe_bin op_addD sd_add (qe_bin op_mod sd_mod (qe_callT call_int1 sd_int G.z_int (by decide +kernel) (qa_cons (qe_var 4) (qa_nil))) (qe_int)) (qe_bin op_mulD sd_mul (qe_int) (qe_var 3))) (qe_bin op_mulD sd_mul (qe_bin op_mulD sd_mul (qe_int) (qe_var 3)) (qe_var 3))) (qa_nil))) (qe_int)))
    (qss_cons (qs_set 5 C.nd (qe_bin op_mulD sd_mul (qe_callT call_int1 sd_int G.z_int (by decide +kernel) (qa_cons (qe_bin op_addD sd_add (qe_bin op_mod sd_mod (qe_callT call_int1 sd_int G.z_int (by decide +kernel) (qa_cons (qe_var 5) (qa_nil))) (qe_int)) (qe_bin op_mulD sd_mul (qe_int) (qe_var 3))) (qa_nil))) (qe_int)))
    (qss_one (qs_ret (qe_bin op_mod sd_mod (qe_callT call_int1 sd_int G.z_int (by decide +kernel) (qa_cons (qe_bin op_fdivW sd_div (qe_bin op_mod sd_mod (qe_callT call_int1 sd_int G.z_int (by decide +kernel) (qa_cons (qe_var 5) (qa_nil))) (qe_int)) (qe_int)) (qa_nil))) (qe_var 1))))))))))
/-! is_sound -/
abbrev s_is_sound : Stmt := top 34
abbrev N_is_sound : List Str := ["window", "channel"]
theorem sc_is_sound : FnScope N_is_sound ["window", "channel"] (defScope s_is_sound) := ⟨rfl, rfl, rfl, by decide +kernel, rfl, by decide +kernel, by decide +kernel⟩
def b_is_sound : MS := sSeq (sExpr (mCall m_need_both (mCons (mVar 0) (mCons (mVar 1) (mNil)))))
    (sRet (mBin pyIs (mBin pyIx (mCall m_searched (mCons (mVar 0) (mCons (mVar 1) (mNil)))) (mC (.int 0))) (mC .non)))
def m_is_sound : List D → IH → Res D := mBody 2 b_is_sound
theorem ok_is_sound {P : Program} {w : World} {K : PySem.W.Frag} {mg : MG} {base : Heap} {f : Addr} {fd : FuncData} (G : Gs mg K) (F : FunD K "is_sound" "is_sound" (defArgs s_is_sound) (defBody s_is_sound) (defScope s_is_sound) [] [] f fd) (hm : mg "is_sound" = some (.ref f))
    (F_need_both : Fn P w K mg base 3 "need_both" m_need_both 2)
    (F_searched : Fn P w K mg base 5 "searched" m_searched 2)
    : Fn P w K mg base 6 "is_sound" m_is_sound 2 := mk_fn F sc_is_sound hm (fun _ _ _ _ _ _ us hl => match us, hl with | [_, _], _ => rfl) fun cv A out s H E C =>
  qss_cons (qs_expr (qe_call C F_need_both (qa_cons (qe_var 0) (qa_cons (qe_var 1) (qa_nil)))))
    (qss_one (qs_ret (qe_cmp op_isN sd_is (qe_ix (ix_any C) sd_ix (qe_call C F_searched (qa_cons (qe_var 0) (qa_cons (qe_var 1) (qa_nil)))) (qe_int) (fun _ _ => rfl)) (qe_non) (nomark _))))
/-! least_m -/
abbrev s_least_m : Stmt := top 38
abbrev N_least_m : List Str := ["w", "v", "channel", "m"]
theorem sc_least_m : FnScope N_least_m ["w", "v", "channel"] (defScope s_least_m) := ⟨rfl, rfl, rfl, by decide +kernel, rfl, by decide +kernel, by decide +kernel⟩
def B_least_m_1 : MS := sIf (mTst (mBin pyIs (mBin pyIx (mCall m_searched (mCons (mTup (mCons (mVar 3) (mCons (mVar 0) (mCons (mVar 1) (mNil))))) (mCons (mVar 2) (mNil)))) (mC (.int 0))) (mC .non))) (sRet (mVar 3)) (sNil)
def b_least_m : MS := sSeq (sIf (mOr (mNot (mTru (mCall m_is_whole (mCons (mVar 0) (mCons (mC (.int 1)) (mCons (mC (.int 8)) (mNil))))))) (mNot (mTru (mCall m_is_whole (mCons (mVar 1) (mCons (mC (.int 1)) (mCons (mC (.int 8)) (mNil)))))))) ((fun _ _ => .stk)) (sNil))
    (sSeq (sExpr (mCall m_need_channel (mCons (mVar 2) (mNil))))
    (sSeq (sFor (mRng2 (mCall pyMaxA (mCons (mC (.int 2)) (mCons (mVar 0) (mCons (mVar 1) (mNil))))) (mBin pyAdd (mC (.int 8)) (mC (.int 1)))) (gN 3) (B_least_m_1))
    (sRet (mC .non))))
def m_least_m : List D → IH → Res D := mBody 4 b_least_m
theorem ok_least_m {P : Program} {w : World} {K : PySem.W.Frag} {mg : MG} {base : Heap} {f : Addr} {fd : FuncData} (G : Gs mg K) (F : FunD K "least_m" "least_m" (defArgs s_least_m) (defBody s_least_m) (defScope s_least_m) [] [] f fd) (hm : mg "least_m" = some (.ref f))
    (F_need_channel : Fn P w K mg base 2 "need_channel" m_need_channel 1)
    (F_is_whole : Fn P w K mg base 1 "is_whole" m_is_whole 3)
    (F_searched : Fn P w K mg base 5 "searched" m_searched 2)
    : Fn P w K mg base 6 "least_m" m_least_m 3 := mk_fn F sc_least_m hm (fun _ _ _ _ _ _ us hl => match us, hl with | [_, _, _], _ => rfl) fun cv A out s H E C =>
  qss_cons (qs_if (QW.qt (qw_or (qt_not (qt_tru (qe_call C F_is_whole (qa_cons (qe_var 0) (qa_cons (qe_int) (qa_cons (qe_gint G.c_MOST_NUMBERS) (qa_nil))))))) (qw_or1 (qt_not (qt_tru (qe_call C F_is_whole (qa_cons (qe_var 1) (qa_cons (qe_int) (qa_cons (qe_gint G.c_MOST_NUMBERS) (qa_nil)))))))))) (qss_one (qs_never)) (qss_nil))
    (qss_cons (qs_expr (qe_call C F_need_channel (qa_cons (qe_var 2) (qa_nil))))
    (qss_cons (qs_for C (qi_range2 G.z_range (qe_callB (cr_maxAA C) sd_maxA G.z_max (by decide +kernel) (qa_cons (qe_int) (qa_cons (qe_var 0) (qa_cons (qe_var 1) (qa_nil))))) (qe_bin op_addD sd_add (qe_gint G.c_MOST_NUMBERS) (qe_int))) (qg_name 3 C.nd) (qss_one (qs_if (qt_cmp op_isN sd_is (qe_ix (ix_any C) sd_ix (qe_call C F_searched (qa_cons (qe_tup (qa_cons (qe_var 3) (qa_cons (qe_var 0) (qa_cons (qe_var 1) (qa_nil))))) (qa_cons (qe_var 2) (qa_nil)))) (qe_int) (fun _ _ => rfl)) (qe_non) (nomark _)) (qss_one (qs_ret (qe_var 3))) (qss_nil))))
    (qss_one (qs_ret (qe_non)))))
/-! law -/
abbrev s_law : Stmt := top 43
abbrev N_law : List Str := ["_law_script", "_law_m", "_law_faults", "_law_v", "_law_window"]
theorem sc_law : FnScope N_law ["_law_script"] (defScope s_law) := ⟨rfl, rfl, rfl, by decide +kernel, rfl, by decide +kernel, by decide +kernel⟩
def B_law_1 : MS := sIf (mOr (mTst (mBin pyNe (mCall m_least_m (mCons (mC (.int 1)) (mCons (mVar 3) (mCons (mTup (mCons (mC (.int 0)) (mCons (mC (.int 1)) (mCons (mVar 2) (mNil))))) (mNil))))) (mBin pyAdd (mC (.int 1)) (mVar 3)))) (mNot (mTru (mCall m_is_sound (mCons (mTup (mCons (mC (.int 3)) (mCons (mC (.int 1)) (mCons (mVar 3) (mNil))))) (mCons (mTup (mCons (mC (.int 0)) (mCons (mC (.int 1)) (mCons (mVar 2) (mNil))))) (mNil))))))) (sRet (mC (.bl false))) (sNil)
def B_law_2 : MS := sIf (mNot (mTru (mCall m_law_wrong_right (mCons (mVar 4) (mCons (mTup (mCons (mC (.int 0)) (mCons (mC (.int 1)) (mCons (mVar 2) (mNil))))) (mNil)))))) (sRet (mC (.bl false))) (sNil)
def b_law : MS := sSeq (sAsg (mCall m_law_begun (mCons (mVar 0) (mNil))) (gN 1))
    (sSeq (sAsg (mBin pyIx (mLst (mCons (mC (.str "none")) (mCons (mC (.str "lose")) (mCons (mC (.str "double")) (mCons (mC (.str "both")) (mNil)))))) (mCall m_law_next (mCons (mVar 1) (mCons (mC (.int 4)) (mNil))))) (gN 2))
    (sSeq (sFor (mIt (mTup (mCons (mC (.int 1)) (mCons (mC (.int 2)) (mNil))))) (gN 3) (B_law_1))
    (sSeq (sIf (mOr (mNot (mTru (mCall m_is_sound (mCons (mTup (mCons (mC (.int 3)) (mCons (mC (.int 2)) (mCons (mC (.int 1)) (mNil))))) (mCons (mTup (mCons (mC (.int 0)) (mCons (mC (.int 1)) (mCons (mVar 2) (mNil))))) (mNil)))))) (mTru (mCall m_is_sound (mCons (mTup (mCons (mC (.int 2)) (mCons (mC (.int 2)) (mCons (mC (.int 1)) (mNil))))) (mCons (mTup (mCons (mC (.int 0)) (mCons (mC (.int 1)) (mCons (mVar 2) (mNil))))) (mNil)))))) (sRet (mC (.bl false))) (sNil))
    (sSeq (sFor (mIt (mTup (mCons (mTup (mCons (mC (.int 2)) (mCons (mC (.int 2)) (mCons (mC (.int 1)) (mNil))))) (mCons (mTup (mCons (mC (.int 2)) (mCons (mC (.int 1)) (mCons (mC (.int 2)) (mNil))))) (mCons (mTup (mCons (mC (.int 2)) (mCons (mC (.int 2)) (mCons (mC (.int 2)) (mNil))))) (mCons (mTup (mCons (mC (.int 3)) (mCons (mC (.int 3)) (mCons (mC (.int 1)) (mNil))))) (mNil))))))) (gN 4) (B_law_2))
    (sSeq (sIf (mTst (mBin pyNe (mCall m_run (mCons (mTup (mCons (mC (.int 2)) (mCons (mC (.int 1)) (mCons (mC (.int 1)) (mNil))))) (mCons (mTup (mCons (mC (.int 0)) (mCons (mC (.int 1)) (mCons (mC (.str "lose")) (mNil))))) (mCons (mBin pyMul (mTup (mCons (mTup (mCons (mC (.str "send")) (mCons (mC (.int 0)) (mNil)))) (mCons (mTup (mCons (mC (.str "lose")) (mCons (mC (.int 0)) (mNil)))) (mNil)))) (mC (.int 500))) (mNil))))) (mTup (mCons (mTup (mCons (mC (.int 0)) (mCons (mTup (mNil)) (mCons (mTup (mNil)) (mCons (mTup (mNil)) (mNil)))))) (mCons (mC (.int 1000)) (mNil)))))) (sRet (mC (.bl false))) (sNil))
    (sSeq (sIf (mOr (mTst (mBin pyIsNot (mCall m_least_m (mCons (mC (.int 8)) (mCons (mC (.int 1)) (mCons (mTup (mCons (mC (.int 0)) (mCons (mC (.int 1)) (mCons (mC (.str "none")) (mNil))))) (mNil))))) (mC .non))) (mTst (mBin pyIsNot (mCall m_least_m (mCons (mC (.int 8)) (mCons (mC (.int 8)) (mCons (mTup (mCons (mC (.int 0)) (mCons (mC (.int 1)) (mCons (mC (.str "none")) (mNil))))) (mNil))))) (mC .non)))) (sRet (mC (.bl false))) (sNil))
    (sRet (mCall m_law_wrong_right (mCons (mTup (mCons (mC (.int 2)) (mCons (mC (.int 1)) (mCons (mC (.int 1)) (mNil))))) (mCons (mTup (mCons (mC (.int 1)) (mCons (mC (.int 2)) (mCons (mC (.str "both")) (mNil))))) (mNil)))))))))))
def m_law : List D → IH → Res D := mBody 5 b_law
theorem ok_law {P : Program} {w : World} {K : PySem.W.Frag} {mg : MG} {base : Heap} {f : Addr} {fd : FuncData} (G : Gs mg K) (F : FunD K "law" "law" (defArgs s_law) (defBody s_law) (defScope s_law) [] [] f fd) (hm : mg "law" = some (.ref f))
    (F_law_begun : Fn P w K mg base 1 "_law_begun" m_law_begun 1)
    (F_law_wrong_right : Fn P w K mg base 7 "_law_wrong_right" m_law_wrong_right 2)
    (F_law_next : Fn P w K mg base 1 "_law_next" m_law_next 2)
    (F_is_sound : Fn P w K mg base 6 "is_sound" m_is_sound 2)
    (F_run : Fn P w K mg base 6 "run" m_run 3)
    (F_least_m : Fn P w K mg base 6 "least_m" m_least_m 3)
    : FnG P w K mg base 8 f fd ["_law_script"] (spM mg ⟨K, w, mg, P⟩ m_law 1) := mk_fnG F sc_law fun cv A out s H E C =>
  qss_cons (qs_set 1 C.nd (qe_call C F_law_begun (qa_cons (qe_var 0) (qa_nil))))
    (qss_cons (qs_set 2 C.nd (qe_ix (ix_any C) sd_ix (qe_lst (qa_cons (qe_str) (qa_cons (qe_str) (qa_cons (qe_str) (qa_cons (qe_str) (qa_nil)))))) (qe_call C F_law_next (qa_cons (qe_var 1) (qa_cons (qe_int) (qa_nil)))) (fun _ _ => rfl)))
    (qss_cons (qs_for C (qi_val (qe_tup (qa_cons (qe_int) (qa_cons (qe_int) (qa_nil))))) (qg_name 3 C.nd) (qss_one (qs_if (QW.qt (qw_or (qt_cmp (op_neA (units_of C)) sd_ne (qe_call C F_least_m (qa_cons (qe_int) (qa_cons (qe_var 3) (qa_cons (qe_tup (qa_cons (qe_int) (qa_cons (qe_int) (qa_cons (qe_var 2) (qa_nil))))) (qa_nil))))) (qe_bin op_addD sd_add (qe_int) (qe_var 3)) (nomark _)) (qw_or1 (qt_not (qt_tru (qe_call C F_is_sound (qa_cons (qe_tup (qa_cons (qe_int) (qa_cons (qe_int) (qa_cons (qe_var 3) (qa_nil))))) (qa_cons (qe_tup (qa_cons (qe_int) (qa_cons (qe_int) (qa_cons (qe_var 2) (qa_nil))))) (qa_nil))))))))) (qss_one (qs_ret (qe_bl))) (qss_nil))))
    (qss_cons (qs_if (QW.qt (qw_or (qt_not (qt_tru (qe_call C F_is_sound (qa_cons (qe_tup (qa_cons (qe_int) (qa_cons (qe_int) (qa_cons (qe_int) (qa_nil))))) (qa_cons (qe_tup (qa_cons (qe_int) (qa_cons (qe_int) (qa_cons (qe_var 2) (qa_nil))))) (qa_nil)))))) (qw_or1 (qt_tru (qe_call C F_is_sound (qa_cons (qe_tup (qa_cons (qe_int) (qa_cons (qe_int) (qa_cons (qe_int) (qa_nil))))) (qa_cons (qe_tup (qa_cons (qe_int) (qa_cons (qe_int) (qa_cons (qe_var 2) (qa_nil))))) (qa_nil)))))))) (qss_one (qs_ret (qe_bl))) (qss_nil))
    (qss_cons (qs_for C (qi_val (qe_tup (qa_cons (qe_tup (qa_cons (qe_int) (qa_cons (qe_int) (qa_cons (qe_int) (qa_nil))))) (qa_cons (qe_tup (qa_cons (qe_int) (qa_cons (qe_int) (qa_cons (qe_int) (qa_nil))))) (qa_cons (qe_tup (qa_cons (qe_int) (qa_cons (qe_int) (qa_cons (qe_int) (qa_nil))))) (qa_cons (qe_tup (qa_cons (qe_int) (qa_cons (qe_int) (qa_cons (qe_int) (qa_nil))))) (qa_nil))))))) (qg_name 4 C.nd) (qss_one (qs_if (qt_not (qt_tru (qe_call C F_law_wrong_right (qa_cons (qe_var 4) (qa_cons (qe_tup (qa_cons (qe_int) (qa_cons (qe_int) (qa_cons (qe_var 2) (qa_nil))))) (qa_nil)))))) (qss_one (qs_ret (qe_bl))) (qss_nil))))
    (qss_cons (qs_if (qt_cmp (op_neA (units_of C)) sd_ne (qe_call C F_run (qa_cons (qe_tup (qa_cons (qe_int) (qa_cons (qe_int) (qa_cons (qe_int) (qa_nil))))) (qa_cons (qe_tup (qa_cons (qe_int) (qa_cons (qe_int) (qa_cons (qe_str) (qa_nil))))) (qa_cons (qe_bin op_mulD sd_mul (qe_tup (qa_cons (qe_tup (qa_cons (qe_str) (qa_cons (qe_int) (qa_nil)))) (qa_cons (qe_tup (qa_cons (qe_str) (qa_cons (qe_int) (qa_nil)))) (qa_nil)))) (qe_int)) (qa_nil))))) (qe_tup (qa_cons (qe_tup (qa_cons (qe_int) (qa_cons (qe_tup (qa_nil)) (qa_cons (qe_tup (qa_nil)) (qa_cons (qe_tup (qa_nil)) (qa_nil)))))) (qa_cons (qe_int) (qa_nil)))) (nomark _)) (qss_one (qs_ret (qe_bl))) (qss_nil))
    (qss_cons (qs_if (QW.qt (qw_or (qt_cmp op_notN sd_isNot (qe_call C F_least_m (qa_cons (qe_int) (qa_cons (qe_int) (qa_cons (qe_tup (qa_cons (qe_int) (qa_cons (qe_int) (qa_cons (qe_str) (qa_nil))))) (qa_nil))))) (qe_non) (nomark _)) (qw_or1 (qt_cmp op_notN sd_isNot (qe_call C F_least_m (qa_cons (qe_int) (qa_cons (qe_int) (qa_cons (qe_tup (qa_cons (qe_int) (qa_cons (qe_int) (qa_cons (qe_str) (qa_nil))))) (qa_nil))))) (qe_non) (nomark _))))) (qss_one (qs_ret (qe_bl))) (qss_nil))
    (qss_one (qs_ret (qe_call C F_law_wrong_right (qa_cons (qe_tup (qa_cons (qe_int) (qa_cons (qe_int) (qa_cons (qe_int) (qa_nil))))) (qa_cons (qe_tup (qa_cons (qe_int) (qa_cons (qe_int) (qa_cons (qe_str) (qa_nil))))) (qa_nil))))))))))))
end LW
set_option Elab.async false
set_option linter.all false
set_option maxRecDepth 100000
set_option maxHeartbeats 4000000
namespace LW
open PySem L2 DD VV
/-! _law_begun(_law_script, _law_cell) : fr2 -/
def X_law_begun_1 : VE := vVar 1
def C_law_begun_1 : VT := vTst (vBin uGe (vVar 1) (vBin uPow (vC (.int 10)) (vC (.int 18))))
def w_law_begun : VS := vRet (vDic (vpCons (vC (.str "cells")) (vOp uListA (vCons (vVar 0) (vNil))) (vpCons (vC (.str "left")) (vLc (vIt (vVar 0)) (tN 1) (C_law_begun_1) (X_law_begun_1) [1]) (vpCons (vC (.str "at")) (vC (.int 0)) (vpNil)))))
def v_law_begun : VF := vBody 2 0 w_law_begun
theorem sim_law_begun : SF [] (.fr 2) m_law_begun v_law_begun := sf_ofL 2 [0, 0] 2 rfl (dp' := dpOf [0, 0]) (show SS [] (.fr 2) (dpOf []) (dpOf [0, 0]) (dpOf [0, 0]) b_law_begun w_law_begun from ss_ret (io := []) (pd_of (by decide)) (se_dic (k := 1) (sp_cons ((se_str).fl_fz) (se_callO oo_listA (sa_cons (se_var 0 rfl) (sa_nil))) (sp_cons ((se_str).fl_fz) (se_lc (k := 0) (si_val (se_var 0 rfl)) (sg_name 1 rfl) (sb_tst ((se_binL od_cmp fl_cmp ((se_var 1 rfl).fz_bor) ((se_binL od_pow fl_pow ((se_int).fl_bor) ((se_int).fl_bor)).fl_bor)).fl_bor)) ((se_var 1 rfl).fz_fr0) (by decide) (by decide)) (sp_cons ((se_str).fl_fz) ((se_int).fl_fr 1) (sp_nil))))) nofun) (pd_of (by decide)) nofun
/-! is_whole(thing, least, most) : fz -/
def w_is_whole : VS := vSeq (vIfS (vOr (vNot (vTru (vOp uIsi (vCons (vVar 0) (vCons (vC (.op (.ty "int"))) (vNil)))))) (vOr (vTru (vOp uIsi (vCons (vVar 0) (vCons (vC (.op (.ty "bool"))) (vNil))))) (vTst (vBin uLt (vVar 0) (vVar 1))))) (vRet (vC (.bl false))) (vSkip))
    (vRet (vOrV (vBin uIs (vVar 2) (vC .non)) (vBin uLe (vVar 0) (vVar 2))))
def v_is_whole : VF := vBody 3 0 w_is_whole
theorem sim_is_whole : SF [] .fz m_is_whole v_is_whole := sf_ofL 3 [0, 0, 0] 3 rfl (dp' := dpOf [0, 0, 0]) (show SS [] .fz (dpOf []) (dpOf [0, 0, 0]) (dpOf [0, 0, 0]) b_is_whole w_is_whole from ss_seq (ss_if (io := []) (pd_of (by decide)) (sb_or (sb_not (sb_tru ((se_callL od_isi fl_isi (sa_cons ((se_var 0 rfl).fz_bor) (sa_cons ((se_op).fl_bor) (sa_nil)))).fl_bor))) (sb_or (sb_tru ((se_callL od_isi fl_isi (sa_cons ((se_var 0 rfl).fz_bor) (sa_cons ((se_op).fl_bor) (sa_nil)))).fl_bor)) (sb_tst ((se_binL od_cmp fl_cmp ((se_var 0 rfl).fz_bor) ((se_var 1 rfl).fz_bor)).fl_bor)))) (ss_ret (io := []) (pd_of (by decide)) ((se_bl).fl_fz) nofun) (ss_skip))
    (ss_ret (io := []) (pd_of (by decide)) (se_or ((se_binL od_is fl_is ((se_var 2 rfl).fz_bor) ((se_non).fl_bor)).fl_fz) ((se_binL od_cmp fl_cmp ((se_var 0 rfl).fz_bor) ((se_var 2 rfl).fz_bor)).fl_fz)) nofun)) (pd_of (by decide)) nofun
/-! need_window(thing) : fz -/
def w_need_window : VS := vSeq (vIfS (vOr (vNot (vTru (vOp uIsi (vCons (vVar 0) (vCons (vC (.op (.ty "tuple"))) (vNil)))))) (vTst (vBin uNe (vOp uLenA (vCons (vVar 0) (vNil))) (vC (.int 3))))) (vNever) (vSkip))
    (vSeq (vIfS (vNot (vTru (vCall0 v_is_whole (vCons (vBin uIx (vVar 0) (vC (.int 0))) (vCons (vC (.int 2)) (vCons (vC (.int 8)) (vNil))))))) (vNever) (vSkip))
    (vSeq (vIfS (vNot (vTru (vCall0 v_is_whole (vCons (vBin uIx (vVar 0) (vC (.int 1))) (vCons (vC (.int 1)) (vCons (vBin uIx (vVar 0) (vC (.int 0))) (vNil))))))) (vNever) (vSkip))
    (vSeq (vIfS (vNot (vTru (vCall0 v_is_whole (vCons (vBin uIx (vVar 0) (vC (.int 2))) (vCons (vC (.int 1)) (vCons (vBin uIx (vVar 0) (vC (.int 0))) (vNil))))))) (vNever) (vSkip))
    (vRet (vVar 0)))))
def v_need_window : VF := vBody 1 0 w_need_window
theorem sim_need_window : SF [] .fz m_need_window v_need_window := sf_ofL 1 [0] 1 rfl (dp' := dpOf [0]) (show SS [] .fz (dpOf []) (dpOf [0]) (dpOf [0]) b_need_window w_need_window from ss_seq (ss_if (io := []) (pd_of (by decide)) (sb_or (sb_not (sb_tru ((se_callL od_isi fl_isi (sa_cons ((se_var 0 rfl).fz_bor) (sa_cons ((se_op).fl_bor) (sa_nil)))).fl_bor))) (sb_tst ((se_binL od_ne fl_ne ((se_callL od_lenA fl_lenA (sa_cons ((se_var 0 rfl).fz_bor) (sa_nil))).fl_bor) ((se_int).fl_bor)).fl_bor))) (ss_never) (ss_skip))
    (ss_seq (ss_if (io := []) (pd_of (by decide)) (sb_not (sb_tru ((se_call0 sim_is_whole nofun (sa_cons (se_bin od_ix (se_var 0 rfl) ((se_int).fl_fz)) (sa_cons ((se_int).fl_fz) (sa_cons ((se_int).fl_fz) (sa_nil))))).fz_bor))) (ss_never) (ss_skip))
    (ss_seq (ss_if (io := []) (pd_of (by decide)) (sb_not (sb_tru ((se_call0 sim_is_whole nofun (sa_cons (se_bin od_ix (se_var 0 rfl) ((se_int).fl_fz)) (sa_cons ((se_int).fl_fz) (sa_cons (se_bin od_ix (se_var 0 rfl) ((se_int).fl_fz)) (sa_nil))))).fz_bor))) (ss_never) (ss_skip))
    (ss_seq (ss_if (io := []) (pd_of (by decide)) (sb_not (sb_tru ((se_call0 sim_is_whole nofun (sa_cons (se_bin od_ix (se_var 0 rfl) ((se_int).fl_fz)) (sa_cons ((se_int).fl_fz) (sa_cons (se_bin od_ix (se_var 0 rfl) ((se_int).fl_fz)) (sa_nil))))).fz_bor))) (ss_never) (ss_skip))
    (ss_ret (io := []) (pd_of (by decide)) (se_var 0 rfl) nofun))))) (pd_of (by decide)) nofun
/-! need_channel(thing) : fz -/
def w_need_channel : VS := vSeq (vIfS (vOr (vNot (vTru (vOp uIsi (vCons (vVar 0) (vCons (vC (.op (.ty "tuple"))) (vNil)))))) (vTst (vBin uNe (vOp uLenA (vCons (vVar 0) (vNil))) (vC (.int 3))))) (vNever) (vSkip))
    (vSeq (vIfS (vNot (vTru (vCall0 v_is_whole (vCons (vBin uIx (vVar 0) (vC (.int 0))) (vCons (vC (.int 0)) (vCons (vC (.int 3)) (vNil))))))) (vNever) (vSkip))
    (vSeq (vIfS (vNot (vTru (vCall0 v_is_whole (vCons (vBin uIx (vVar 0) (vC (.int 1))) (vCons (vC (.int 1)) (vCons (vC (.int 3)) (vNil))))))) (vNever) (vSkip))
    (vSeq (vIfS (vOr (vNot (vTru (vOp uIsi (vCons (vBin uIx (vVar 0) (vC (.int 2))) (vCons (vC (.op (.ty "str"))) (vNil)))))) (vTst (vBin uNotIn (vBin uIx (vVar 0) (vC (.int 2))) (vC (.tup [.str "none", .str "lose", .str "double", .str "both"]))))) (vNever) (vSkip))
    (vRet (vVar 0)))))
def v_need_channel : VF := vBody 1 0 w_need_channel
theorem sim_need_channel : SF [] .fz m_need_channel v_need_channel := sf_ofL 1 [0] 1 rfl (dp' := dpOf [0]) (show SS [] .fz (dpOf []) (dpOf [0]) (dpOf [0]) b_need_channel w_need_channel from ss_seq (ss_if (io := []) (pd_of (by decide)) (sb_or (sb_not (sb_tru ((se_callL od_isi fl_isi (sa_cons ((se_var 0 rfl).fz_bor) (sa_cons ((se_op).fl_bor) (sa_nil)))).fl_bor))) (sb_tst ((se_binL od_ne fl_ne ((se_callL od_lenA fl_lenA (sa_cons ((se_var 0 rfl).fz_bor) (sa_nil))).fl_bor) ((se_int).fl_bor)).fl_bor))) (ss_never) (ss_skip))
    (ss_seq (ss_if (io := []) (pd_of (by decide)) (sb_not (sb_tru ((se_call0 sim_is_whole nofun (sa_cons (se_bin od_ix (se_var 0 rfl) ((se_int).fl_fz)) (sa_cons ((se_int).fl_fz) (sa_cons ((se_int).fl_fz) (sa_nil))))).fz_bor))) (ss_never) (ss_skip))
    (ss_seq (ss_if (io := []) (pd_of (by decide)) (sb_not (sb_tru ((se_call0 sim_is_whole nofun (sa_cons (se_bin od_ix (se_var 0 rfl) ((se_int).fl_fz)) (sa_cons ((se_int).fl_fz) (sa_cons ((se_int).fl_fz) (sa_nil))))).fz_bor))) (ss_never) (ss_skip))
    (ss_seq (ss_if (io := []) (pd_of (by decide)) (sb_or (sb_not (sb_tru ((se_callL od_isi fl_isi (sa_cons (se_binB od_ix ((se_var 0 rfl).fz_bor) ((se_int).fl_bor)) (sa_cons ((se_op).fl_bor) (sa_nil)))).fl_bor))) (sb_tst ((se_binL od_notIn fl_notIn (se_binB od_ix ((se_var 0 rfl).fz_bor) ((se_int).fl_bor)) ((se_C rfl fun _ _ => .tup (.cons (.str _) (.cons (.str _) (.cons (.str _) (.cons (.str _) (.nil)))))).fl_bor)).fl_bor))) (ss_never) (ss_skip))
    (ss_ret (io := []) (pd_of (by decide)) (se_var 0 rfl) nofun))))) (pd_of (by decide)) nofun
/-! need_both(window, channel) : fz -/
def w_need_both : VS := vSeq (vExpr (vCall0 v_need_window (vCons (vVar 0) (vNil))))
    (vExpr (vCall0 v_need_channel (vCons (vVar 1) (vNil))))
def v_need_both : VF := vBody 2 0 w_need_both
theorem sim_need_both : SF [] .fz m_need_both v_need_both := sf_ofL 2 [0, 0] 2 rfl (dp' := dpOf [0, 0]) (show SS [] .fz (dpOf []) (dpOf [0, 0]) (dpOf [0, 0]) b_need_both w_need_both from ss_seq (ss_expr (io := []) (pd_of (by decide)) (se_call0 sim_need_window nofun (sa_cons (se_var 0 rfl) (sa_nil))))
    (ss_expr (io := []) (pd_of (by decide)) (se_call0 sim_need_channel nofun (sa_cons (se_var 1 rfl) (sa_nil))))) (pd_of (by decide)) nofun
/-! first_state() : fz -/
def w_first_state : VS := vRet (vTup (vCons (vC (.int 0)) (vCons (vTup (vNil)) (vCons (vTup (vNil)) (vCons (vTup (vNil)) (vNil))))))
def v_first_state : VF := vBody 0 0 w_first_state
theorem sim_first_state : SF [] .fz m_first_state v_first_state := sf_ofL 0 [] 0 rfl (dp' := dpOf []) (show SS [] .fz (dpOf []) (dpOf []) (dpOf []) b_first_state w_first_state from ss_ret (io := []) (pd_of (by decide)) (se_tup (md := .fz) (sa_cons ((se_int).fl_fz) (sa_cons (se_tup (md := .fz) (sa_nil) nofun) (sa_cons (se_tup (md := .fz) (sa_nil) nofun) (sa_cons (se_tup (md := .fz) (sa_nil) nofun) (sa_nil))))) nofun) nofun) (pd_of (by decide)) nofun
/-! may_come_out(channel, items, found, place, number, late) : fz -/
def X_may_come_out_1 : VE := vBin uLt (vVar 5) (vBin uIx (vVar 0) (vC (.int 0)))
def L_may_come_out_2 : VS := vIfS (vTru (vOp uAll (vCons (vLc (vIt (vSl (vVar 1) (voN) (voS (vVar 3)))) (tT 2 (tsCons (tN 4) (tsCons (tN 5) (tsNil)))) (vYes) (X_may_come_out_1) [4, 5]) (vNil)))) (vExpr (vMut "list" 2 (vHere 2) uAppend (vCons (vVar 3) (vNil)))) (vSkip)
def w_may_come_out : VS := vSeq (vAsg (vLst (vNil)) 2)
    (vSeq (vFor (vRng1 (vOp uLenA (vCons (vVar 1) (vNil)))) (tN 3) (L_may_come_out_2))
    (vRet (vVar 2)))
def v_may_come_out : VF := vBody 6 0 w_may_come_out
theorem sim_may_come_out : SF [] .fz m_may_come_out v_may_come_out := sf_ofL 6 [0, 0, 0, 0, 0, 0] 6 rfl (dp' := dpOf [0, 0, 0, 0, 0, 0]) (show SS [] .fz (dpOf []) (dpOf [0, 0, 0, 0, 0, 0]) (dpOf [0, 0, 0, 0, 0, 0]) b_may_come_out w_may_come_out from ss_seq (ss_asgD (l := [0, 0, 0, 0, 0, 0]) (io := []) 2 1 (pd_of (by decide)) (by decide) (se_lstO (k := 0) (sa_nil)) (by decide))
    (ss_seq (ss_for (io := []) (pd_of (by decide)) (si_range1 ((se_callL od_lenA fl_lenA (sa_cons ((se_var 1 rfl).fz_bor) (sa_nil))).fl_bor)) (sg_name 3 rfl) (ss_if (io := []) (pd_of (by decide)) (sb_tru ((se_callL od_all fl_all (sa_cons ((se_lc (k := 0) (si_val (se_slice (se_var 1 rfl) (so_none) (so_some ((se_var 3 rfl).fz_bor)))) (sg_tup (sgs_cons (sg_name 4 rfl) (sgs_cons (sg_name 5 rfl) (sgs_nil)))) (sb_yes) ((se_binL od_cmp fl_cmp ((se_var 5 rfl).fz_bor) (se_binB od_ix ((se_var 0 rfl).fz_bor) ((se_int).fl_bor))).fl_fr 0) (by decide) (by decide)).fr_bor) (sa_nil))).fl_bor)) (ss_expr (pd_of (by decide)) (se_mut (io := []) (n := 0) (mo_append 0) (by decide) rfl (op_here) (sa_cons ((se_var 3 rfl).fz_fr0) (sa_nil)))) (ss_skip)) (by decide))
    (SS.pre (wk_of (a := [0, 0, 0, 0, 0, 0]) (b := [0, 0, 1, 0, 0, 0]) (by decide)) (ss_ret (io := []) (pd_of (by decide)) (se_var 2 rfl) nofun)))) (pd_of (by decide)) nofun
/-! deeds_of(window, channel, state, found, lag, room, faults, items, out, loss, twice, number, place) : fz -/
def X_deeds_of_1 : VE := vTup (vCons (vC (.str "send")) (vCons (vVar 11) (vNil)))
def X_deeds_of_2 : VE := vTup (vCons (vVar 8) (vCons (vVar 12) (vNil)))
def X_deeds_of_3 : VE := vTup (vCons (vVar 9) (vCons (vVar 12) (vNil)))
def X_deeds_of_4 : VE := vTup (vCons (vVar 10) (vCons (vVar 12) (vNil)))
def L_deeds_of_5 : VS := vSeq (vExpr (vMut "list" 3 (vHere 3) uExtend (vCons (vLc (vIt (vCall0 v_may_come_out (vCons (vVar 1) (vCons (vVar 7) (vNil))))) (tN 12) (vYes) (X_deeds_of_2) [12]) (vNil))))
    (vSeq (vIfS (vTst (vBin uIn (vVar 6) (vTup (vCons (vC (.str "lose")) (vCons (vC (.str "both")) (vNil)))))) (vExpr (vMut "list" 3 (vHere 3) uExtend (vCons (vLc (vRng1 (vOp uLenA (vCons (vVar 7) (vNil)))) (tN 12) (vYes) (X_deeds_of_3) [12]) (vNil)))) (vSkip))
    (vIfS (vAnd (vTst (vBin uIn (vVar 6) (vTup (vCons (vC (.str "double")) (vCons (vC (.str "both")) (vNil)))))) (vTst (vBin uLt (vOp uLenA (vCons (vVar 7) (vNil))) (vVar 5)))) (vExpr (vMut "list" 3 (vHere 3) uExtend (vCons (vLc (vRng1 (vOp uLenA (vCons (vVar 7) (vNil)))) (tN 12) (vYes) (X_deeds_of_4) [12]) (vNil)))) (vSkip)))
def w_deeds_of : VS := vSeq (vParT (vCons (vLst (vNil)) (vCons (vVar 1) (vNil))) (tsCons (tN 3) (tsCons (tT 3 (tsCons (tN 4) (tsCons (tN 5) (tsCons (tN 6) (tsNil))))) (tsNil))))
    (vSeq (vIfS (vTst (vBin uLt (vOp uLenA (vCons (vBin uIx (vVar 2) (vC (.int 2))) (vNil))) (vVar 5))) (vExpr (vMut "list" 3 (vHere 3) uExtend (vCons (vLc (vRng1 (vBin uIx (vVar 0) (vC (.int 1)))) (tN 11) (vYes) (X_deeds_of_1) [11]) (vNil)))) (vSkip))
    (vSeq (vIfS (vTst (vBin uLt (vOp uLenA (vCons (vBin uIx (vVar 2) (vC (.int 3))) (vNil))) (vVar 5))) (vExpr (vMut "list" 3 (vHere 3) uAppend (vCons (vTup (vCons (vC (.str "answer")) (vNil))) (vNil)))) (vSkip))
    (vSeq (vFor (vIt (vTup (vCons (vTup (vCons (vBin uIx (vVar 2) (vC (.int 2))) (vCons (vC (.str "take")) (vCons (vC (.str "lose")) (vCons (vC (.str "double")) (vNil)))))) (vCons (vTup (vCons (vBin uIx (vVar 2) (vC (.int 3))) (vCons (vC (.str "hear")) (vCons (vC (.str "deaf")) (vCons (vC (.str "echo")) (vNil)))))) (vNil))))) (tT 4 (tsCons (tN 7) (tsCons (tN 8) (tsCons (tN 9) (tsCons (tN 10) (tsNil)))))) (L_deeds_of_5))
    (vRet (vOpF uSorted (vCons (vVar 3) (vNil)))))))
def v_deeds_of : VF := vBody 13 0 w_deeds_of
theorem sim_deeds_of : SF [] .fz m_deeds_of v_deeds_of := sf_ofL 13 [0, 0, 0, 0, 0, 0, 0, 0, 0, 0, 0, 0, 0] 13 rfl (dp' := dpOf [0, 0, 0, 0, 0, 0, 0, 0, 0, 0, 0, 0, 0]) (show SS [] .fz (dpOf []) (dpOf [0, 0, 0, 0, 0, 0, 0, 0, 0, 0, 0, 0, 0]) (dpOf [0, 0, 0, 0, 0, 0, 0, 0, 0, 0, 0, 0, 0]) b_deeds_of w_deeds_of from ss_seq (ss_parG (io := []) (ks := [1, 0]) 2 (pd_of (by decide)) (sl_cons (se_lstO (k := 0) (sa_nil)) (sl_cons ((se_var 1 rfl).fz_fr0) (sl_nil))) rfl (by decide) (tgs_cons (tg_name (l := [0, 0, 0, 0, 0, 0, 0, 0, 0, 0, 0, 0, 0]) 3 1 (by decide) (by decide)) (tgs_cons (tg_pat (dp := dpOf [0, 0, 0, 1, 0, 0, 0, 0, 0, 0, 0, 0, 0]) (sg_tup (sgs_cons (sg_name 4 rfl) (sgs_cons (sg_name 5 rfl) (sgs_cons (sg_name 6 rfl) (sgs_nil))))) (by decide)) (tgs_nil))))
    (ss_seq (ss_if (io := []) (pd_of (by decide)) (sb_tst ((se_binL od_cmp fl_cmp ((se_callL od_lenA fl_lenA (sa_cons (se_binB od_ix ((se_var 2 rfl).fz_bor) ((se_int).fl_bor)) (sa_nil))).fl_bor) ((se_var 5 rfl).fz_bor)).fl_bor)) (ss_expr (pd_of (by decide)) (se_mut (io := []) (n := 0) (mo_extend) (by decide) rfl (op_here) (sa_cons (((se_lc (k := 0) (si_range1 (se_binB od_ix ((se_var 0 rfl).fz_bor) ((se_int).fl_bor))) (sg_name 11 rfl) (sb_yes) ((se_tup (md := .fz) (sa_cons ((se_str).fl_fz) (sa_cons (se_var 11 rfl) (sa_nil))) nofun).fz_fr0) (by decide) (by decide)).fr_fz).fz_fr0) (sa_nil)))) (ss_skip))
    (ss_seq (ss_if (io := []) (pd_of (by decide)) (sb_tst ((se_binL od_cmp fl_cmp ((se_callL od_lenA fl_lenA (sa_cons (se_binB od_ix ((se_var 2 rfl).fz_bor) ((se_int).fl_bor)) (sa_nil))).fl_bor) ((se_var 5 rfl).fz_bor)).fl_bor)) (ss_expr (pd_of (by decide)) (se_mut (io := []) (n := 0) (mo_append 0) (by decide) rfl (op_here) (sa_cons ((se_tup (md := .fz) (sa_cons ((se_str).fl_fz) (sa_nil)) nofun).fz_fr0) (sa_nil)))) (ss_skip))
    (ss_seq (ss_for (io := []) (pd_of (by decide)) (si_val (se_tup (md := .fz) (sa_cons (se_tup (md := .fz) (sa_cons (se_bin od_ix (se_var 2 rfl) ((se_int).fl_fz)) (sa_cons ((se_str).fl_fz) (sa_cons ((se_str).fl_fz) (sa_cons ((se_str).fl_fz) (sa_nil))))) nofun) (sa_cons (se_tup (md := .fz) (sa_cons (se_bin od_ix (se_var 2 rfl) ((se_int).fl_fz)) (sa_cons ((se_str).fl_fz) (sa_cons ((se_str).fl_fz) (sa_cons ((se_str).fl_fz) (sa_nil))))) nofun) (sa_nil))) nofun)) (sg_tup (sgs_cons (sg_name 7 rfl) (sgs_cons (sg_name 8 rfl) (sgs_cons (sg_name 9 rfl) (sgs_cons (sg_name 10 rfl) (sgs_nil)))))) (ss_seq (ss_expr (pd_of (by decide)) (se_mut (io := []) (n := 0) (mo_extend) (by decide) rfl (op_here) (sa_cons (((se_lc (k := 0) (si_val (se_call0 sim_may_come_out nofun (sa_cons (se_var 1 rfl) (sa_cons (se_var 7 rfl) (sa_nil))))) (sg_name 12 rfl) (sb_yes) ((se_tup (md := .fz) (sa_cons (se_var 8 rfl) (sa_cons (se_var 12 rfl) (sa_nil))) nofun).fz_fr0) (by decide) (by decide)).fr_fz).fz_fr0) (sa_nil))))
    (ss_seq (ss_if (io := []) (pd_of (by decide)) (sb_tst ((se_binL od_in fl_in ((se_var 6 rfl).fz_bor) (se_tup (md := .bor) (sa_cons ((se_str).fl_bor) (sa_cons ((se_str).fl_bor) (sa_nil))) nofun)).fl_bor)) (ss_expr (pd_of (by decide)) (se_mut (io := []) (n := 0) (mo_extend) (by decide) rfl (op_here) (sa_cons (((se_lc (k := 0) (si_range1 ((se_callL od_lenA fl_lenA (sa_cons ((se_var 7 rfl).fz_bor) (sa_nil))).fl_bor)) (sg_name 12 rfl) (sb_yes) ((se_tup (md := .fz) (sa_cons (se_var 9 rfl) (sa_cons (se_var 12 rfl) (sa_nil))) nofun).fz_fr0) (by decide) (by decide)).fr_fz).fz_fr0) (sa_nil)))) (ss_skip))
    (ss_if (io := []) (pd_of (by decide)) (sb_and (sb_tst ((se_binL od_in fl_in ((se_var 6 rfl).fz_bor) (se_tup (md := .bor) (sa_cons ((se_str).fl_bor) (sa_cons ((se_str).fl_bor) (sa_nil))) nofun)).fl_bor)) (sb_tst ((se_binL od_cmp fl_cmp ((se_callL od_lenA fl_lenA (sa_cons ((se_var 7 rfl).fz_bor) (sa_nil))).fl_bor) ((se_var 5 rfl).fz_bor)).fl_bor))) (ss_expr (pd_of (by decide)) (se_mut (io := []) (n := 0) (mo_extend) (by decide) rfl (op_here) (sa_cons (((se_lc (k := 0) (si_range1 ((se_callL od_lenA fl_lenA (sa_cons ((se_var 7 rfl).fz_bor) (sa_nil))).fl_bor)) (sg_name 12 rfl) (sb_yes) ((se_tup (md := .fz) (sa_cons (se_var 10 rfl) (sa_cons (se_var 12 rfl) (sa_nil))) nofun).fz_fr0) (by decide) (by decide)).fr_fz).fz_fr0) (sa_nil)))) (ss_skip)))) (by decide))
    (ss_ret (io := []) (pd_of (by decide)) ((se_callF 0 oo_sorted (sa_cons (se_own 3 (by decide)) (sa_nil))).fr_fz) nofun))))) (pd_of (by decide)) nofun
/-! taken_frame(window, state, number, m, w, v, frame) : fz -/
def w_taken_frame : VS := vSeq (vAsgT (vVar 0) (tT 3 (tsCons (tN 3) (tsCons (tN 4) (tsCons (tN 5) (tsNil))))))
    (vSeq (vAsg (vBin uMod (vOp uInt (vCons (vVar 2) (vNil))) (vVar 3)) 6)
    (vRet (vIf (vAnd (vTst (vBin uLt (vVar 6) (vVar 5))) (vTst (vBin uNotIn (vVar 6) (vBin uIx (vVar 1) (vC (.int 1)))))) (vVar 6) (vC .non))))
def v_taken_frame : VF := vBody 7 0 w_taken_frame
theorem sim_taken_frame : SF [] .fz m_taken_frame v_taken_frame := sf_ofL 7 [0, 0, 0, 0, 0, 0, 0] 7 rfl (dp' := dpOf [0, 0, 0, 0, 0, 0, 0]) (show SS [] .fz (dpOf []) (dpOf [0, 0, 0, 0, 0, 0, 0]) (dpOf [0, 0, 0, 0, 0, 0, 0]) b_taken_frame w_taken_frame from ss_seq (ss_asgT (io := []) (pd_of (by decide)) (se_var 0 rfl) (sg_tup (sgs_cons (sg_name 3 rfl) (sgs_cons (sg_name 4 rfl) (sgs_cons (sg_name 5 rfl) (sgs_nil))))) (by decide))
    (ss_seq (ss_asgD (l := [0, 0, 0, 0, 0, 0, 0]) (io := []) 6 0 (pd_of (by decide)) (by decide) ((se_binL od_mod fl_mod ((se_callL od_int fl_int (sa_cons ((se_var 2 rfl).fz_bor) (sa_nil))).fl_bor) ((se_var 3 rfl).fz_bor)).fl_fr 0) (by decide))
    (ss_ret (io := []) (pd_of (by decide)) (se_if (sb_and (sb_tst ((se_binL od_cmp fl_cmp ((se_var 6 rfl).fz_bor) ((se_var 5 rfl).fz_bor)).fl_bor)) (sb_tst ((se_binL od_notIn fl_notIn ((se_var 6 rfl).fz_bor) (se_binB od_ix ((se_var 1 rfl).fz_bor) ((se_int).fl_bor))).fl_bor))) (se_var 6 rfl) ((se_non).fl_fz)) nofun))) (pd_of (by decide)) nofun
/-! come_out(items, place, number, late) : fz -/
def X_come_out_1 : VE := vTup (vCons (vVar 2) (vCons (vBin uAdd (vVar 3) (vC (.int 1))) (vNil)))
def w_come_out : VS := vRet (vBin uAdd (vOp uTuple (vCons (vLc (vIt (vSl (vVar 0) (voN) (voS (vVar 1)))) (tT 2 (tsCons (tN 2) (tsCons (tN 3) (tsNil)))) (vYes) (X_come_out_1) [2, 3]) (vNil))) (vSl (vVar 0) (voS (vBin uAdd (vVar 1) (vC (.int 1)))) (voN)))
def v_come_out : VF := vBody 4 0 w_come_out
theorem sim_come_out : SF [] .fz m_come_out v_come_out := sf_ofL 4 [0, 0, 0, 0] 4 rfl (dp' := dpOf [0, 0, 0, 0]) (show SS [] .fz (dpOf []) (dpOf [0, 0, 0, 0]) (dpOf [0, 0, 0, 0]) b_come_out w_come_out from ss_ret (io := []) (pd_of (by decide)) (se_bin od_add (se_call od_tuple (sa_cons ((se_lc (k := 0) (si_val (se_slice (se_var 0 rfl) (so_none) (so_some ((se_var 1 rfl).fz_bor)))) (sg_tup (sgs_cons (sg_name 2 rfl) (sgs_cons (sg_name 3 rfl) (sgs_nil)))) (sb_yes) ((se_tup (md := .fz) (sa_cons (se_var 2 rfl) (sa_cons (se_bin od_add (se_var 3 rfl) ((se_int).fl_fz)) (sa_nil))) nofun).fz_fr0) (by decide) (by decide)).fr_fz) (sa_nil))) (se_slice (se_var 0 rfl) (so_some (se_binB od_add ((se_var 1 rfl).fz_bor) ((se_int).fl_bor))) (so_none))) nofun) (pd_of (by decide)) nofun
/-! lowered(m, number, by, found) : fz -/
def w_lowered : VS := vSeq (vAsg (vBin uSub (vVar 1) (vVar 2)) 3)
    (vRet (vIf (vAnd (vTst (vBin uGe (vVar 3) (vC (.int 0)))) (vTst (vBin uGe (vVar 1) (vC (.int 0))))) (vVar 3) (vBin uSub (vBin uMod (vOp uInt (vCons (vVar 3) (vNil))) (vVar 0)) (vVar 0))))
def v_lowered : VF := vBody 4 0 w_lowered
theorem sim_lowered : SF [] .fz m_lowered v_lowered := sf_ofL 4 [0, 0, 0, 0] 4 rfl (dp' := dpOf [0, 0, 0, 0]) (show SS [] .fz (dpOf []) (dpOf [0, 0, 0, 0]) (dpOf [0, 0, 0, 0]) b_lowered w_lowered from ss_seq (ss_asgD (l := [0, 0, 0, 0]) (io := []) 3 0 (pd_of (by decide)) (by decide) ((se_binL od_sub fl_sub ((se_var 1 rfl).fz_bor) ((se_var 2 rfl).fz_bor)).fl_fr 0) (by decide))
    (ss_ret (io := []) (pd_of (by decide)) (se_if (sb_and (sb_tst ((se_binL od_cmp fl_cmp ((se_var 3 rfl).fz_bor) ((se_int).fl_bor)).fl_bor)) (sb_tst ((se_binL od_cmp fl_cmp ((se_var 1 rfl).fz_bor) ((se_int).fl_bor)).fl_bor))) (se_var 3 rfl) ((se_binL od_sub fl_sub ((se_binL od_mod fl_mod ((se_callL od_int fl_int (sa_cons ((se_var 3 rfl).fz_bor) (sa_nil))).fl_bor) ((se_var 0 rfl).fz_bor)).fl_bor) ((se_var 0 rfl).fz_bor)).fl_fz)) nofun)) (pd_of (by decide)) nofun
/-! all_lowered(m, items, by, number, late) : fz -/
def X_all_lowered_1 : VE := vTup (vCons (vCall0 v_lowered (vCons (vVar 0) (vCons (vVar 3) (vCons (vVar 2) (vNil))))) (vCons (vVar 4) (vNil)))
def w_all_lowered : VS := vRet (vOp uTuple (vCons (vLc (vIt (vVar 1)) (tT 2 (tsCons (tN 3) (tsCons (tN 4) (tsNil)))) (vYes) (X_all_lowered_1) [3, 4]) (vNil)))
def v_all_lowered : VF := vBody 5 0 w_all_lowered
theorem sim_all_lowered : SF [] .fz m_all_lowered v_all_lowered := sf_ofL 5 [0, 0, 0, 0, 0] 5 rfl (dp' := dpOf [0, 0, 0, 0, 0]) (show SS [] .fz (dpOf []) (dpOf [0, 0, 0, 0, 0]) (dpOf [0, 0, 0, 0, 0]) b_all_lowered w_all_lowered from ss_ret (io := []) (pd_of (by decide)) (se_call od_tuple (sa_cons ((se_lc (k := 0) (si_val (se_var 1 rfl)) (sg_tup (sgs_cons (sg_name 3 rfl) (sgs_cons (sg_name 4 rfl) (sgs_nil)))) (sb_yes) ((se_tup (md := .fz) (sa_cons (se_call0 sim_lowered nofun (sa_cons (se_var 0 rfl) (sa_cons (se_var 3 rfl) (sa_cons (se_var 2 rfl) (sa_nil))))) (sa_cons (se_var 4 rfl) (sa_nil))) nofun).fz_fr0) (by decide) (by decide)).fr_fz) (sa_nil))) nofun) (pd_of (by decide)) nofun
/-! behind_take(window, state, place, ahead, taken, frames, answers, number, frame, some, by, left, one) : fz -/
def L_behind_take_1 : VS := vAug 10 uIAdd (vC (.int 1))
def W_behind_take_1 : VT := vTst (vBin uIn (vVar 10) (vVar 9))
def X_behind_take_2 : VE := vBin uSub (vVar 12) (vVar 10)
def C_behind_take_2 : VT := vTst (vBin uGt (vVar 12) (vVar 10))
def w_behind_take : VS := vSeq (vAsgT (vVar 1) (tT 4 (tsCons (tN 3) (tsCons (tN 4) (tsCons (tN 5) (tsCons (tN 6) (tsNil)))))))
    (vSeq (vParN [7, 5] (vCons (vBin uIx (vBin uIx (vVar 5) (vVar 2)) (vC (.int 0))) (vCons (vCall0 v_come_out (vCons (vVar 5) (vCons (vVar 2) (vNil)))) (vNil))))
    (vSeq (vAsg (vCall0 v_taken_frame (vCons (vVar 0) (vCons (vVar 1) (vCons (vVar 7) (vNil))))) 8)
    (vSeq (vIfS (vTst (vBin uIs (vVar 8) (vC .non))) (vRet (vTup (vCons (vVar 3) (vCons (vVar 4) (vCons (vVar 5) (vCons (vVar 6) (vNil))))))) (vSkip))
    (vSeq (vIfS (vTst (vBin uNe (vVar 8) (vVar 7))) (vRet (vC .non)) (vSkip))
    (vSeq (vParN [9, 10] (vCons (vOp uSorted (vCons (vBin uAdd (vVar 4) (vTup (vCons (vVar 8) (vNil)))) (vNil))) (vCons (vC (.int 0)) (vNil))))
    (vSeq (vWhile 100000 (W_behind_take_1) (L_behind_take_1))
    (vSeq (vAsg (vOp uTuple (vCons (vLc (vIt (vVar 9)) (tN 12) (C_behind_take_2) (X_behind_take_2) [12]) (vNil))) 11)
    (vRet (vTup (vCons (vBin uAdd (vVar 3) (vVar 10)) (vCons (vVar 11) (vCons (vCall0 v_all_lowered (vCons (vBin uIx (vVar 0) (vC (.int 0))) (vCons (vVar 5) (vCons (vVar 10) (vNil))))) (vCons (vVar 6) (vNil))))))))))))))
def v_behind_take : VF := vBody 13 0 w_behind_take
theorem sim_behind_take : SF [] .fz m_behind_take v_behind_take := sf_ofL 13 [0, 0, 0, 0, 0, 0, 0, 0, 0, 0, 0, 0, 0] 13 rfl (dp' := dpOf [0, 0, 0, 0, 0, 0, 0, 0, 0, 0, 0, 0, 0]) (show SS [] .fz (dpOf []) (dpOf [0, 0, 0, 0, 0, 0, 0, 0, 0, 0, 0, 0, 0]) (dpOf [0, 0, 0, 0, 0, 0, 0, 0, 0, 0, 0, 0, 0]) b_behind_take w_behind_take from ss_seq (ss_asgT (io := []) (pd_of (by decide)) (se_var 1 rfl) (sg_tup (sgs_cons (sg_name 3 rfl) (sgs_cons (sg_name 4 rfl) (sgs_cons (sg_name 5 rfl) (sgs_cons (sg_name 6 rfl) (sgs_nil)))))) (by decide))
    (ss_seq (ss_parD (l := [0, 0, 0, 0, 0, 0, 0, 0, 0, 0, 0, 0, 0]) (io := []) 7 5 0 0 (pd_of (by decide)) (sl_cons ((se_bin od_ix (se_bin od_ix (se_var 5 rfl) (se_var 2 rfl)) ((se_int).fl_fz)).fz_fr0) (sl_cons ((se_call0 sim_come_out nofun (sa_cons (se_var 5 rfl) (sa_cons (se_var 2 rfl) (sa_nil)))).fz_fr0) (sl_nil))) (by decide))
    (ss_seq (ss_asgD (l := [0, 0, 0, 0, 0, 0, 0, 0, 0, 0, 0, 0, 0]) (io := []) 8 0 (pd_of (by decide)) (by decide) ((se_call0 sim_taken_frame nofun (sa_cons (se_var 0 rfl) (sa_cons (se_var 1 rfl) (sa_cons (se_var 7 rfl) (sa_nil))))).fz_fr0) (by decide))
    (ss_seq (ss_if (io := []) (pd_of (by decide)) (sb_tst ((se_binL od_is fl_is ((se_var 8 rfl).fz_bor) ((se_non).fl_bor)).fl_bor)) (ss_ret (io := []) (pd_of (by decide)) (se_tup (md := .fz) (sa_cons (se_var 3 rfl) (sa_cons (se_var 4 rfl) (sa_cons (se_var 5 rfl) (sa_cons (se_var 6 rfl) (sa_nil))))) nofun) nofun) (ss_skip))
    (ss_seq (ss_if (io := []) (pd_of (by decide)) (sb_tst ((se_binL od_ne fl_ne ((se_var 8 rfl).fz_bor) ((se_var 7 rfl).fz_bor)).fl_bor)) (ss_ret (io := []) (pd_of (by decide)) ((se_non).fl_fz) nofun) (ss_skip))
    (ss_seq (ss_parTD (l := [0, 0, 0, 0, 0, 0, 0, 0, 0, 0, 0, 0, 0]) (io := []) [9, 10] [0, 0] 2 (pd_of (by decide)) (sl_cons ((se_call od_sorted (sa_cons (se_bin od_add (se_var 4 rfl) (se_tup (md := .fz) (sa_cons (se_var 8 rfl) (sa_nil)) nofun)) (sa_nil))).fz_fr0) (sl_cons ((se_int).fl_fr 0) (sl_nil))) rfl rfl (by decide) (by decide))
    (ss_seq (ss_while 100000 (io := []) (pd_of (by decide)) (sb_tst ((se_binL od_in fl_in ((se_var 10 rfl).fz_bor) ((se_var 9 rfl).fz_bor)).fl_bor)) (ss_aug (io := []) (pd_of (by decide)) 10 od_iadd fl_iadd rfl ((se_int).fl_bor) (by decide)))
    (ss_seq (ss_asgD (l := [0, 0, 0, 0, 0, 0, 0, 0, 0, 0, 0, 0, 0]) (io := []) 11 0 (pd_of (by decide)) (by decide) ((se_call od_tuple (sa_cons ((se_lc (k := 0) (si_val (se_var 9 rfl)) (sg_name 12 rfl) (sb_tst ((se_binL od_cmp fl_cmp ((se_var 12 rfl).fz_bor) ((se_var 10 rfl).fz_bor)).fl_bor)) ((se_binL od_sub fl_sub ((se_var 12 rfl).fz_bor) ((se_var 10 rfl).fz_bor)).fl_fr 0) (by decide) (by decide)).fr_fz) (sa_nil))).fz_fr0) (by decide))
    (ss_ret (io := []) (pd_of (by decide)) (se_tup (md := .fz) (sa_cons (se_bin od_add (se_var 3 rfl) (se_var 10 rfl)) (sa_cons (se_var 11 rfl) (sa_cons (se_call0 sim_all_lowered nofun (sa_cons (se_bin od_ix (se_var 0 rfl) ((se_int).fl_fz)) (sa_cons (se_var 5 rfl) (sa_cons (se_var 10 rfl) (sa_nil))))) (sa_cons (se_var 6 rfl) (sa_nil))))) nofun) nofun))))))))) (pd_of (by decide)) nofun
/-! behind_hear(window, state, place, ahead, taken, frames, answers, number, some, by) : fz -/
def X_behind_hear_1 : VE := vVar 9
def C_behind_hear_1 : VT := vTst (vBin uEq (vBin uMod (vOp uInt (vCons (vBin uSub (vVar 9) (vVar 7)) (vNil))) (vBin uIx (vVar 0) (vC (.int 0)))) (vC (.int 0)))
def w_behind_hear : VS := vSeq (vAsgT (vVar 1) (tT 4 (tsCons (tN 3) (tsCons (tN 4) (tsCons (tN 5) (tsCons (tN 6) (tsNil)))))))
    (vSeq (vParN [7, 6] (vCons (vBin uIx (vBin uIx (vVar 6) (vVar 2)) (vC (.int 0))) (vCons (vCall0 v_come_out (vCons (vVar 6) (vCons (vVar 2) (vNil)))) (vNil))))
    (vSeq (vAsg (vLc (vRng2 (vC (.int 1)) (vBin uAdd (vBin uIx (vVar 0) (vC (.int 1))) (vC (.int 1)))) (tN 9) (C_behind_hear_1) (X_behind_hear_1) [9]) 8)
    (vSeq (vIfS (vTst (vBin uEq (vVar 8) (vLst (vNil)))) (vRet (vTup (vCons (vVar 3) (vCons (vVar 4) (vCons (vVar 5) (vCons (vVar 6) (vNil))))))) (vSkip))
    (vSeq (vIfS (vTst (vBin uNe (vBin uIx (vVar 8) (vC (.int 0))) (vVar 7))) (vRet (vC .non)) (vSkip))
    (vRet (vTup (vCons (vBin uSub (vVar 3) (vVar 7)) (vCons (vVar 4) (vCons (vVar 5) (vCons (vCall0 v_all_lowered (vCons (vBin uIx (vVar 0) (vC (.int 0))) (vCons (vVar 6) (vCons (vVar 7) (vNil))))) (vNil)))))))))))
def v_behind_hear : VF := vBody 10 0 w_behind_hear
theorem sim_behind_hear : SF [] .fz m_behind_hear v_behind_hear := sf_ofL 10 [0, 0, 0, 0, 0, 0, 0, 0, 0, 0] 10 rfl (dp' := dpOf [0, 0, 0, 0, 0, 0, 0, 0, 0, 0]) (show SS [] .fz (dpOf []) (dpOf [0, 0, 0, 0, 0, 0, 0, 0, 0, 0]) (dpOf [0, 0, 0, 0, 0, 0, 0, 0, 0, 0]) b_behind_hear w_behind_hear from ss_seq (ss_asgT (io := []) (pd_of (by decide)) (se_var 1 rfl) (sg_tup (sgs_cons (sg_name 3 rfl) (sgs_cons (sg_name 4 rfl) (sgs_cons (sg_name 5 rfl) (sgs_cons (sg_name 6 rfl) (sgs_nil)))))) (by decide))
    (ss_seq (ss_parTD (l := [0, 0, 0, 0, 0, 0, 0, 0, 0, 0]) (io := []) [7, 6] [0, 0] 2 (pd_of (by decide)) (sl_cons ((se_bin od_ix (se_bin od_ix (se_var 6 rfl) (se_var 2 rfl)) ((se_int).fl_fz)).fz_fr0) (sl_cons ((se_call0 sim_come_out nofun (sa_cons (se_var 6 rfl) (sa_cons (se_var 2 rfl) (sa_nil)))).fz_fr0) (sl_nil))) rfl rfl (by decide) (by decide))
    (ss_seq (ss_asgD (l := [0, 0, 0, 0, 0, 0, 0, 0, 0, 0]) (io := []) 8 0 (pd_of (by decide)) (by decide) (((se_lc (k := 0) (si_range2 ((se_int).fl_bor) (se_binB od_add (se_binB od_ix ((se_var 0 rfl).fz_bor) ((se_int).fl_bor)) ((se_int).fl_bor))) (sg_name 9 rfl) (sb_tst ((se_binL od_eq fl_eq ((se_binL od_mod fl_mod ((se_callL od_int fl_int (sa_cons ((se_binL od_sub fl_sub ((se_var 9 rfl).fz_bor) ((se_var 7 rfl).fz_bor)).fl_bor) (sa_nil))).fl_bor) (se_binB od_ix ((se_var 0 rfl).fz_bor) ((se_int).fl_bor))).fl_bor) ((se_int).fl_bor)).fl_bor)) ((se_var 9 rfl).fz_fr0) (by decide) (by decide)).fr_fz).fz_fr0) (by decide))
    (ss_seq (ss_if (io := []) (pd_of (by decide)) (sb_tst ((se_binL od_eq fl_eq ((se_var 8 rfl).fz_bor) (se_lstB (sa_nil))).fl_bor)) (ss_ret (io := []) (pd_of (by decide)) (se_tup (md := .fz) (sa_cons (se_var 3 rfl) (sa_cons (se_var 4 rfl) (sa_cons (se_var 5 rfl) (sa_cons (se_var 6 rfl) (sa_nil))))) nofun) nofun) (ss_skip))
    (ss_seq (ss_if (io := []) (pd_of (by decide)) (sb_tst ((se_binL od_ne fl_ne (se_binB od_ix ((se_var 8 rfl).fz_bor) ((se_int).fl_bor)) ((se_var 7 rfl).fz_bor)).fl_bor)) (ss_ret (io := []) (pd_of (by decide)) ((se_non).fl_fz) nofun) (ss_skip))
    (ss_ret (io := []) (pd_of (by decide)) (se_tup (md := .fz) (sa_cons ((se_binL od_sub fl_sub ((se_var 3 rfl).fz_bor) ((se_var 7 rfl).fz_bor)).fl_fz) (sa_cons (se_var 4 rfl) (sa_cons (se_var 5 rfl) (sa_cons (se_call0 sim_all_lowered nofun (sa_cons (se_bin od_ix (se_var 0 rfl) ((se_int).fl_fz)) (sa_cons (se_var 6 rfl) (sa_cons (se_var 7 rfl) (sa_nil))))) (sa_nil))))) nofun) nofun)))))) (pd_of (by decide)) nofun
/-! changed_way(word, items, place) : fz -/
def w_changed_way : VS := vSeq (vIfS (vTst (vBin uIn (vVar 0) (vTup (vCons (vC (.str "lose")) (vCons (vC (.str "deaf")) (vNil)))))) (vRet (vBin uAdd (vSl (vVar 1) (voN) (voS (vVar 2))) (vSl (vVar 1) (voS (vBin uAdd (vVar 2) (vC (.int 1)))) (voN)))) (vSkip))
    (vRet (vBin uAdd (vSl (vVar 1) (voN) (voS (vBin uAdd (vVar 2) (vC (.int 1))))) (vSl (vVar 1) (voS (vVar 2)) (voN))))
def v_changed_way : VF := vBody 3 0 w_changed_way
theorem sim_changed_way : SF [] .fz m_changed_way v_changed_way := sf_ofL 3 [0, 0, 0] 3 rfl (dp' := dpOf [0, 0, 0]) (show SS [] .fz (dpOf []) (dpOf [0, 0, 0]) (dpOf [0, 0, 0]) b_changed_way w_changed_way from ss_seq (ss_if (io := []) (pd_of (by decide)) (sb_tst ((se_binL od_in fl_in ((se_var 0 rfl).fz_bor) (se_tup (md := .bor) (sa_cons ((se_str).fl_bor) (sa_cons ((se_str).fl_bor) (sa_nil))) nofun)).fl_bor)) (ss_ret (io := []) (pd_of (by decide)) (se_bin od_add (se_slice (se_var 1 rfl) (so_none) (so_some ((se_var 2 rfl).fz_bor))) (se_slice (se_var 1 rfl) (so_some (se_binB od_add ((se_var 2 rfl).fz_bor) ((se_int).fl_bor))) (so_none))) nofun) (ss_skip))
    (ss_ret (io := []) (pd_of (by decide)) (se_bin od_add (se_slice (se_var 1 rfl) (so_none) (so_some (se_binB od_add ((se_var 2 rfl).fz_bor) ((se_int).fl_bor)))) (se_slice (se_var 1 rfl) (so_some ((se_var 2 rfl).fz_bor)) (so_none))) nofun)) (pd_of (by decide)) nofun
/-! behind(window, state, deed, ahead, taken, frames, answers) : fz -/
def w_behind : VS := vSeq (vAsgT (vVar 1) (tT 4 (tsCons (tN 3) (tsCons (tN 4) (tsCons (tN 5) (tsCons (tN 6) (tsNil)))))))
    (vSeq (vIfS (vTst (vBin uEq (vBin uIx (vVar 2) (vC (.int 0))) (vC (.str "send")))) (vRet (vTup (vCons (vVar 3) (vCons (vVar 4) (vCons (vBin uAdd (vVar 5) (vTup (vCons (vTup (vCons (vCall0 v_lowered (vCons (vBin uIx (vVar 0) (vC (.int 0))) (vCons (vBin uIx (vVar 2) (vC (.int 1))) (vCons (vVar 3) (vNil))))) (vCons (vC (.int 0)) (vNil)))) (vNil)))) (vCons (vVar 6) (vNil))))))) (vSkip))
    (vSeq (vIfS (vTst (vBin uEq (vBin uIx (vVar 2) (vC (.int 0))) (vC (.str "answer")))) (vRet (vTup (vCons (vVar 3) (vCons (vVar 4) (vCons (vVar 5) (vCons (vBin uAdd (vVar 6) (vTup (vCons (vTup (vCons (vVar 3) (vCons (vC (.int 0)) (vNil)))) (vNil)))) (vNil))))))) (vSkip))
    (vSeq (vIfS (vTst (vBin uEq (vBin uIx (vVar 2) (vC (.int 0))) (vC (.str "take")))) (vRet (vCall0 v_behind_take (vCons (vVar 0) (vCons (vVar 1) (vCons (vBin uIx (vVar 2) (vC (.int 1))) (vNil)))))) (vSkip))
    (vSeq (vIfS (vTst (vBin uEq (vBin uIx (vVar 2) (vC (.int 0))) (vC (.str "hear")))) (vRet (vCall0 v_behind_hear (vCons (vVar 0) (vCons (vVar 1) (vCons (vBin uIx (vVar 2) (vC (.int 1))) (vNil)))))) (vSkip))
    (vSeq (vIfS (vTst (vBin uIn (vBin uIx (vVar 2) (vC (.int 0))) (vTup (vCons (vC (.str "lose")) (vCons (vC (.str "double")) (vNil)))))) (vRet (vTup (vCons (vVar 3) (vCons (vVar 4) (vCons (vCall0 v_changed_way (vCons (vBin uIx (vVar 2) (vC (.int 0))) (vCons (vVar 5) (vCons (vBin uIx (vVar 2) (vC (.int 1))) (vNil))))) (vCons (vVar 6) (vNil))))))) (vSkip))
    (vRet (vTup (vCons (vVar 3) (vCons (vVar 4) (vCons (vVar 5) (vCons (vCall0 v_changed_way (vCons (vBin uIx (vVar 2) (vC (.int 0))) (vCons (vVar 6) (vCons (vBin uIx (vVar 2) (vC (.int 1))) (vNil))))) (vNil))))))))))))
def v_behind : VF := vBody 7 0 w_behind
theorem sim_behind : SF [] .fz m_behind v_behind := sf_ofL 7 [0, 0, 0, 0, 0, 0, 0] 7 rfl (dp' := dpOf [0, 0, 0, 0, 0, 0, 0]) (show SS [] .fz (dpOf []) (dpOf [0, 0, 0, 0, 0, 0, 0]) (dpOf [0, 0, 0, 0, 0, 0, 0]) b_behind w_behind from ss_seq (ss_asgT (io := []) (pd_of (by decide)) (se_var 1 rfl) (sg_tup (sgs_cons (sg_name 3 rfl) (sgs_cons (sg_name 4 rfl) (sgs_cons (sg_name 5 rfl) (sgs_cons (sg_name 6 rfl) (sgs_nil)))))) (by decide))
    (ss_seq (ss_if (io := []) (pd_of (by decide)) (sb_tst ((se_binL od_eq fl_eq (se_binB od_ix ((se_var 2 rfl).fz_bor) ((se_int).fl_bor)) ((se_str).fl_bor)).fl_bor)) (ss_ret (io := []) (pd_of (by decide)) (se_tup (md := .fz) (sa_cons (se_var 3 rfl) (sa_cons (se_var 4 rfl) (sa_cons (se_bin od_add (se_var 5 rfl) (se_tup (md := .fz) (sa_cons (se_tup (md := .fz) (sa_cons (se_call0 sim_lowered nofun (sa_cons (se_bin od_ix (se_var 0 rfl) ((se_int).fl_fz)) (sa_cons (se_bin od_ix (se_var 2 rfl) ((se_int).fl_fz)) (sa_cons (se_var 3 rfl) (sa_nil))))) (sa_cons ((se_int).fl_fz) (sa_nil))) nofun) (sa_nil)) nofun)) (sa_cons (se_var 6 rfl) (sa_nil))))) nofun) nofun) (ss_skip))
    (ss_seq (ss_if (io := []) (pd_of (by decide)) (sb_tst ((se_binL od_eq fl_eq (se_binB od_ix ((se_var 2 rfl).fz_bor) ((se_int).fl_bor)) ((se_str).fl_bor)).fl_bor)) (ss_ret (io := []) (pd_of (by decide)) (se_tup (md := .fz) (sa_cons (se_var 3 rfl) (sa_cons (se_var 4 rfl) (sa_cons (se_var 5 rfl) (sa_cons (se_bin od_add (se_var 6 rfl) (se_tup (md := .fz) (sa_cons (se_tup (md := .fz) (sa_cons (se_var 3 rfl) (sa_cons ((se_int).fl_fz) (sa_nil))) nofun) (sa_nil)) nofun)) (sa_nil))))) nofun) nofun) (ss_skip))
    (ss_seq (ss_if (io := []) (pd_of (by decide)) (sb_tst ((se_binL od_eq fl_eq (se_binB od_ix ((se_var 2 rfl).fz_bor) ((se_int).fl_bor)) ((se_str).fl_bor)).fl_bor)) (ss_ret (io := []) (pd_of (by decide)) (se_call0 sim_behind_take nofun (sa_cons (se_var 0 rfl) (sa_cons (se_var 1 rfl) (sa_cons (se_bin od_ix (se_var 2 rfl) ((se_int).fl_fz)) (sa_nil))))) nofun) (ss_skip))
    (ss_seq (ss_if (io := []) (pd_of (by decide)) (sb_tst ((se_binL od_eq fl_eq (se_binB od_ix ((se_var 2 rfl).fz_bor) ((se_int).fl_bor)) ((se_str).fl_bor)).fl_bor)) (ss_ret (io := []) (pd_of (by decide)) (se_call0 sim_behind_hear nofun (sa_cons (se_var 0 rfl) (sa_cons (se_var 1 rfl) (sa_cons (se_bin od_ix (se_var 2 rfl) ((se_int).fl_fz)) (sa_nil))))) nofun) (ss_skip))
    (ss_seq (ss_if (io := []) (pd_of (by decide)) (sb_tst ((se_binL od_in fl_in (se_binB od_ix ((se_var 2 rfl).fz_bor) ((se_int).fl_bor)) (se_tup (md := .bor) (sa_cons ((se_str).fl_bor) (sa_cons ((se_str).fl_bor) (sa_nil))) nofun)).fl_bor)) (ss_ret (io := []) (pd_of (by decide)) (se_tup (md := .fz) (sa_cons (se_var 3 rfl) (sa_cons (se_var 4 rfl) (sa_cons (se_call0 sim_changed_way nofun (sa_cons (se_bin od_ix (se_var 2 rfl) ((se_int).fl_fz)) (sa_cons (se_var 5 rfl) (sa_cons (se_bin od_ix (se_var 2 rfl) ((se_int).fl_fz)) (sa_nil))))) (sa_cons (se_var 6 rfl) (sa_nil))))) nofun) nofun) (ss_skip))
    (ss_ret (io := []) (pd_of (by decide)) (se_tup (md := .fz) (sa_cons (se_var 3 rfl) (sa_cons (se_var 4 rfl) (sa_cons (se_var 5 rfl) (sa_cons (se_call0 sim_changed_way nofun (sa_cons (se_bin od_ix (se_var 2 rfl) ((se_int).fl_fz)) (sa_cons (se_var 6 rfl) (sa_cons (se_bin od_ix (se_var 2 rfl) ((se_int).fl_fz)) (sa_nil))))) (sa_nil))))) nofun) nofun))))))) (pd_of (by decide)) nofun
/-! searched(window, channel, known, layer, further, state, deed, fresh) : fz -/
def L_searched_1 : VS := vSeq (vAsg (vCall0 v_behind (vCons (vVar 0) (vCons (vVar 5) (vCons (vVar 6) (vNil))))) 7)
    (vSeq (vIfS (vTst (vBin uIs (vVar 7) (vC .non))) (vRet (vTup (vCons (vBin uAdd (vBin uIx (vVar 2) (vVar 5)) (vTup (vCons (vVar 6) (vNil)))) (vCons (vVar 2) (vNil))))) (vSkip))
    (vIfS (vTst (vBin uNotIn (vVar 7) (vVar 2))) (vSeq (vSetI 2 (vHere 2) (vVar 7) (vBin uAdd (vSolid (vBin uIx (vVar 2) (vVar 5))) (vTup (vCons (vVar 6) (vNil)))))
    (vExpr (vMut "list" 4 (vHere 4) uAppend (vCons (vVar 7) (vNil))))) (vSkip)))
def L_searched_2 : VS := vFor (vIt (vCall0 v_deeds_of (vCons (vVar 0) (vCons (vVar 1) (vCons (vVar 5) (vNil)))))) (tN 6) (L_searched_1)
def L_searched_3 : VS := vSeq (vIfS (vTst (vBin uGt (vOp uLenA (vCons (vVar 2) (vNil))) (vC (.int 20000)))) (vNever) (vSkip))
    (vSeq (vAsg (vLst (vNil)) 4)
    (vSeq (vFor (vIt (vVar 3)) (tN 5) (L_searched_2))
    (vAsg (vVar 4) 3)))
def W_searched_3 : VT := vTst (vBin uNe (vVar 3) (vLst (vNil)))
def w_searched : VS := vSeq (vAsg (vDic (vpCons (vCall0 v_first_state (vNil)) (vTup (vNil)) (vpNil))) 2)
    (vSeq (vAsg (vOpF uListA (vCons (vVar 2) (vNil))) 3)
    (vSeq (vWhile 100000 (W_searched_3) (L_searched_3))
    (vRet (vTup (vCons (vC .non) (vCons (vVar 2) (vNil)))))))
def v_searched : VF := vBody 8 0 w_searched
theorem sim_searched : SF [] .fz m_searched v_searched := sf_ofL 8 [0, 0, 0, 0, 0, 0, 0, 0] 8 rfl (dp' := dpOf [0, 0, 0, 0, 0, 0, 0, 0]) (show SS [] .fz (dpOf []) (dpOf [0, 0, 0, 0, 0, 0, 0, 0]) (dpOf [0, 0, 0, 0, 0, 0, 0, 0]) b_searched w_searched from ss_seq (ss_asgD (l := [0, 0, 0, 0, 0, 0, 0, 0]) (io := []) 2 1 (pd_of (by decide)) (by decide) (se_dic (k := 0) (sp_cons (se_call0 sim_first_state nofun (sa_nil)) ((se_tup (md := .fz) (sa_nil) nofun).fz_fr0) (sp_nil))) (by decide))
    (ss_seq (ss_asgD (l := [0, 0, 1, 0, 0, 0, 0, 0]) (io := []) 3 0 (pd_of (by decide)) (by decide) (((se_callF 0 oo_listA (sa_cons (se_own 2 (by decide)) (sa_nil))).fr_fz).fz_fr0) (by decide))
    (ss_seq (ss_while 100000 (io := []) (pd_of (by decide)) (sb_tst ((se_binL od_ne fl_ne ((se_var 3 rfl).fz_bor) (se_lstB (sa_nil))).fl_bor)) (ss_seq (ss_if (io := []) (pd_of (by decide)) (sb_tst ((se_binL od_cmp fl_cmp ((se_callL od_lenA fl_lenA (sa_cons (se_own 2 (by decide)) (sa_nil))).fl_bor) ((se_int).fl_bor)).fl_bor)) (ss_never) (ss_skip))
    (ss_seq (ss_asgD (l := [0, 0, 1, 0, 0, 0, 0, 0]) (io := []) 4 1 (pd_of (by decide)) (by decide) (se_lstO (k := 0) (sa_nil)) (by decide))
    (ss_seq (ss_for (io := []) (pd_of (by decide)) (si_val (se_var 3 rfl)) (sg_name 5 rfl) (ss_for (io := []) (pd_of (by decide)) (si_val (se_call0 sim_deeds_of nofun (sa_cons (se_var 0 rfl) (sa_cons (se_var 1 rfl) (sa_cons (se_var 5 rfl) (sa_nil)))))) (sg_name 6 rfl) (ss_seq (ss_asgD (l := [0, 0, 1, 0, 1, 0, 0, 0]) (io := []) 7 0 (pd_of (by decide)) (by decide) ((se_call0 sim_behind nofun (sa_cons (se_var 0 rfl) (sa_cons (se_var 5 rfl) (sa_cons (se_var 6 rfl) (sa_nil))))).fz_fr0) (by decide))
    (ss_seq (ss_if (io := []) (pd_of (by decide)) (sb_tst ((se_binL od_is fl_is ((se_var 7 rfl).fz_bor) ((se_non).fl_bor)).fl_bor)) (SS.pre (wk_of (a := [0, 0, 0, 0, 1, 0, 0, 0]) (b := [0, 0, 1, 0, 1, 0, 0, 0]) (by decide)) (ss_ret (io := []) (pd_of (by decide)) (se_tup (md := .fz) (sa_cons (se_bin od_add (se_bin od_ix (se_var 2 rfl) (se_var 5 rfl)) (se_tup (md := .fz) (sa_cons (se_var 6 rfl) (sa_nil)) nofun)) (sa_cons (se_var 2 rfl) (sa_nil))) nofun) nofun)) (ss_skip))
    (ss_if (io := []) (pd_of (by decide)) (sb_tst ((se_binL od_notIn fl_notIn ((se_var 7 rfl).fz_bor) (se_own 2 (by decide))).fl_bor)) (ss_seq (ss_setI (io := []) (n := 0) (j := 0) (pd_of (by decide)) (by decide) rfl (op_here) (se_var 7 rfl) ((se_bin od_add ((se_binB od_ix (se_own 2 (by decide)) ((se_var 5 rfl).fz_bor)).solid.fl_fz) (se_tup (md := .fz) (sa_cons (se_var 6 rfl) (sa_nil)) nofun)).fz_fr0))
    (ss_expr (pd_of (by decide)) (se_mut (io := []) (n := 0) (mo_append 0) (by decide) rfl (op_here) (sa_cons ((se_var 7 rfl).fz_fr0) (sa_nil))))) (ss_skip)))) (by decide)) (by decide))
    (SS.pre (wk_of (a := [0, 0, 1, 0, 0, 0, 0, 0]) (b := [0, 0, 1, 0, 1, 0, 0, 0]) (by decide)) (ss_asgD (l := [0, 0, 1, 0, 0, 0, 0, 0]) (io := []) 3 0 (pd_of (by decide)) (by decide) ((se_var 4 rfl).fz_fr0) (by decide)))))))
    (SS.pre (wk_of (a := [0, 0, 0, 0, 0, 0, 0, 0]) (b := [0, 0, 1, 0, 0, 0, 0, 0]) (by decide)) (ss_ret (io := []) (pd_of (by decide)) (se_tup (md := .fz) (sa_cons ((se_non).fl_fz) (sa_cons (se_var 2 rfl) (sa_nil))) nofun) nofun))))) (pd_of (by decide)) nofun
/-! sound_paper(window, channel, found, known) : fz -/
def w_sound_paper : VS := vSeq (vExpr (vCall0 v_need_both (vCons (vVar 0) (vCons (vVar 1) (vNil)))))
    (vSeq (vAsgT (vCall0 v_searched (vCons (vVar 0) (vCons (vVar 1) (vNil)))) (tT 2 (tsCons (tN 2) (tsCons (tN 3) (tsNil)))))
    (vRet (vIf (vTst (vBin uIsNot (vVar 2) (vC .non))) (vTup (vCons (vC (.str "wrong")) (vCons (vVar 2) (vNil)))) (vTup (vCons (vC (.str "sound")) (vCons (vOp uTuple (vCons (vOp uSorted (vCons (vOp uListA (vCons (vVar 3) (vNil))) (vNil))) (vNil))) (vNil)))))))
def v_sound_paper : VF := vBody 4 0 w_sound_paper
theorem sim_sound_paper : SF [] .fz m_sound_paper v_sound_paper := sf_ofL 4 [0, 0, 0, 0] 4 rfl (dp' := dpOf [0, 0, 0, 0]) (show SS [] .fz (dpOf []) (dpOf [0, 0, 0, 0]) (dpOf [0, 0, 0, 0]) b_sound_paper w_sound_paper from ss_seq (ss_expr (io := []) (pd_of (by decide)) (se_call0 sim_need_both nofun (sa_cons (se_var 0 rfl) (sa_cons (se_var 1 rfl) (sa_nil)))))
    (ss_seq (ss_asgT (io := []) (pd_of (by decide)) (se_call0 sim_searched nofun (sa_cons (se_var 0 rfl) (sa_cons (se_var 1 rfl) (sa_nil)))) (sg_tup (sgs_cons (sg_name 2 rfl) (sgs_cons (sg_name 3 rfl) (sgs_nil)))) (by decide))
    (ss_ret (io := []) (pd_of (by decide)) (se_if (sb_tst ((se_binL od_isNot fl_isNot ((se_var 2 rfl).fz_bor) ((se_non).fl_bor)).fl_bor)) (se_tup (md := .fz) (sa_cons ((se_str).fl_fz) (sa_cons (se_var 2 rfl) (sa_nil))) nofun) (se_tup (md := .fz) (sa_cons ((se_str).fl_fz) (sa_cons (se_call od_tuple (sa_cons (se_call od_sorted (sa_cons (se_call od_listA (sa_cons (se_var 3 rfl) (sa_nil))) (sa_nil))) (sa_nil))) (sa_nil))) nofun)) nofun))) (pd_of (by decide)) nofun
/-! is_possible(window, channel, state, deed, one) : fz -/
def X_is_possible_1 : VE := vOp uReprA (vCons (vVar 4) (vNil))
def w_is_possible : VS := vRet (vBin uIn (vOp uReprA (vCons (vVar 3) (vNil))) (vLc (vIt (vCall0 v_deeds_of (vCons (vVar 0) (vCons (vVar 1) (vCons (vVar 2) (vNil)))))) (tN 4) (vYes) (X_is_possible_1) [4]))
def v_is_possible : VF := vBody 5 0 w_is_possible
theorem sim_is_possible : SF [] .fz m_is_possible v_is_possible := sf_ofL 5 [0, 0, 0, 0, 0] 5 rfl (dp' := dpOf [0, 0, 0, 0, 0]) (show SS [] .fz (dpOf []) (dpOf [0, 0, 0, 0, 0]) (dpOf [0, 0, 0, 0, 0]) b_is_possible w_is_possible from ss_ret (io := []) (pd_of (by decide)) ((se_binL od_in fl_in ((se_callL od_reprA fl_reprA (sa_cons ((se_var 3 rfl).fz_bor) (sa_nil))).fl_bor) ((se_lc (k := 0) (si_val (se_call0 sim_deeds_of nofun (sa_cons (se_var 0 rfl) (sa_cons (se_var 1 rfl) (sa_cons (se_var 2 rfl) (sa_nil)))))) (sg_name 4 rfl) (sb_yes) ((se_callL od_reprA fl_reprA (sa_cons ((se_var 4 rfl).fz_bor) (sa_nil))).fl_fr 0) (by decide) (by decide)).fr_bor)).fl_fz) nofun) (pd_of (by decide)) nofun
/-! led(window, channel, codes, state, number, deed) : fz -/
def L_led_1 : VS := vSeq (vIfS (vNot (vTru (vCall0 v_is_possible (vCons (vVar 0) (vCons (vVar 1) (vCons (vVar 3) (vCons (vVar 5) (vNil)))))))) (vRet (vTup (vCons (vC .non) (vCons (vC .non) (vNil))))) (vSkip))
    (vSeq (vAsg (vCall0 v_behind (vCons (vVar 0) (vCons (vVar 3) (vCons (vVar 5) (vNil))))) 3)
    (vIfS (vTst (vBin uIs (vVar 3) (vC .non))) (vRet (vTup (vCons (vC .non) (vCons (vBin uAdd (vVar 4) (vC (.int 1))) (vNil))))) (vSkip)))
def w_led : VS := vSeq (vAsg (vCall0 v_first_state (vNil)) 3)
    (vSeq (vFor (vEn (vVar 2)) (tT 2 (tsCons (tN 4) (tsCons (tN 5) (tsNil)))) (L_led_1))
    (vRet (vTup (vCons (vVar 3) (vCons (vOp uLenA (vCons (vVar 2) (vNil))) (vNil))))))
def v_led : VF := vBody 6 0 w_led
theorem sim_led : SF [] .fz m_led v_led := sf_ofL 6 [0, 0, 0, 0, 0, 0] 6 rfl (dp' := dpOf [0, 0, 0, 0, 0, 0]) (show SS [] .fz (dpOf []) (dpOf [0, 0, 0, 0, 0, 0]) (dpOf [0, 0, 0, 0, 0, 0]) b_led w_led from ss_seq (ss_asgD (l := [0, 0, 0, 0, 0, 0]) (io := []) 3 0 (pd_of (by decide)) (by decide) ((se_call0 sim_first_state nofun (sa_nil)).fz_fr0) (by decide))
    (ss_seq (ss_for (io := []) (pd_of (by decide)) (si_enum (se_var 2 rfl)) (sg_tup (sgs_cons (sg_name 4 rfl) (sgs_cons (sg_name 5 rfl) (sgs_nil)))) (ss_seq (ss_if (io := []) (pd_of (by decide)) (sb_not (sb_tru ((se_call0 sim_is_possible nofun (sa_cons (se_var 0 rfl) (sa_cons (se_var 1 rfl) (sa_cons (se_var 3 rfl) (sa_cons (se_var 5 rfl) (sa_nil)))))).fz_bor))) (ss_ret (io := []) (pd_of (by decide)) (se_tup (md := .fz) (sa_cons ((se_non).fl_fz) (sa_cons ((se_non).fl_fz) (sa_nil))) nofun) nofun) (ss_skip))
    (ss_seq (ss_asgD (l := [0, 0, 0, 0, 0, 0]) (io := []) 3 0 (pd_of (by decide)) (by decide) ((se_call0 sim_behind nofun (sa_cons (se_var 0 rfl) (sa_cons (se_var 3 rfl) (sa_cons (se_var 5 rfl) (sa_nil))))).fz_fr0) (by decide))
    (ss_if (io := []) (pd_of (by decide)) (sb_tst ((se_binL od_is fl_is ((se_var 3 rfl).fz_bor) ((se_non).fl_bor)).fl_bor)) (ss_ret (io := []) (pd_of (by decide)) (se_tup (md := .fz) (sa_cons ((se_non).fl_fz) (sa_cons (se_bin od_add (se_var 4 rfl) ((se_int).fl_fz)) (sa_nil))) nofun) nofun) (ss_skip)))) (by decide))
    (ss_ret (io := []) (pd_of (by decide)) (se_tup (md := .fz) (sa_cons (se_var 3 rfl) (sa_cons ((se_callL od_lenA fl_lenA (sa_cons ((se_var 2 rfl).fz_bor) (sa_nil))).fl_fz) (sa_nil))) nofun) nofun))) (pd_of (by decide)) nofun
/-! run(window, channel, codes, found) : fz -/
def w_run : VS := vSeq (vExpr (vCall0 v_need_both (vCons (vVar 0) (vCons (vVar 1) (vNil)))))
    (vSeq (vIfS (vOr (vNot (vTru (vOp uIsi (vCons (vVar 2) (vCons (vC (.op (.ty "tuple"))) (vNil)))))) (vTst (vBin uGt (vOp uLenA (vCons (vVar 2) (vNil))) (vC (.int 1000))))) (vNever) (vSkip))
    (vSeq (vAsg (vCall0 v_led (vCons (vVar 0) (vCons (vVar 1) (vCons (vVar 2) (vNil))))) 3)
    (vSeq (vIfS (vTst (vBin uIs (vBin uIx (vVar 3) (vC (.int 1))) (vC .non))) (vNever) (vSkip))
    (vRet (vVar 3)))))
def v_run : VF := vBody 4 0 w_run
theorem sim_run : SF [] .fz m_run v_run := sf_ofL 4 [0, 0, 0, 0] 4 rfl (dp' := dpOf [0, 0, 0, 0]) (show SS [] .fz (dpOf []) (dpOf [0, 0, 0, 0]) (dpOf [0, 0, 0, 0]) b_run w_run from ss_seq (ss_expr (io := []) (pd_of (by decide)) (se_call0 sim_need_both nofun (sa_cons (se_var 0 rfl) (sa_cons (se_var 1 rfl) (sa_nil)))))
    (ss_seq (ss_if (io := []) (pd_of (by decide)) (sb_or (sb_not (sb_tru ((se_callL od_isi fl_isi (sa_cons ((se_var 2 rfl).fz_bor) (sa_cons ((se_op).fl_bor) (sa_nil)))).fl_bor))) (sb_tst ((se_binL od_cmp fl_cmp ((se_callL od_lenA fl_lenA (sa_cons ((se_var 2 rfl).fz_bor) (sa_nil))).fl_bor) ((se_int).fl_bor)).fl_bor))) (ss_never) (ss_skip))
    (ss_seq (ss_asgD (l := [0, 0, 0, 0]) (io := []) 3 0 (pd_of (by decide)) (by decide) ((se_call0 sim_led nofun (sa_cons (se_var 0 rfl) (sa_cons (se_var 1 rfl) (sa_cons (se_var 2 rfl) (sa_nil))))).fz_fr0) (by decide))
    (ss_seq (ss_if (io := []) (pd_of (by decide)) (sb_tst ((se_binL od_is fl_is (se_binB od_ix ((se_var 3 rfl).fz_bor) ((se_int).fl_bor)) ((se_non).fl_bor)).fl_bor)) (ss_never) (ss_skip))
    (ss_ret (io := []) (pd_of (by decide)) (se_var 3 rfl) nofun))))) (pd_of (by decide)) nofun
/-! _law_wrong_right(_law_window, _law_channel, _law_word, _law_some) : fz -/
def w_law_wrong_right : VS := vSeq (vAsgT (vCall0 v_sound_paper (vCons (vVar 0) (vCons (vVar 1) (vNil)))) (tT 2 (tsCons (tN 2) (tsCons (tN 3) (tsNil)))))
    (vSeq (vIfS (vOr (vTst (vBin uNe (vVar 2) (vC (.str "wrong")))) (vTst (vBin uNe (vCall0 v_run (vCons (vVar 0) (vCons (vVar 1) (vCons (vVar 3) (vNil))))) (vTup (vCons (vC .non) (vCons (vOp uLenA (vCons (vVar 3) (vNil))) (vNil))))))) (vRet (vC (.bl false))) (vSkip))
    (vRet (vAndV (vBin uIn (vBin uIx (vBin uIx (vVar 3) (vUn uNeg (vC (.int 1)))) (vC (.int 0))) (vTup (vCons (vC (.str "take")) (vCons (vC (.str "hear")) (vNil))))) (vBin uIsNot (vBin uIx (vCall0 v_run (vCons (vVar 0) (vCons (vVar 1) (vCons (vSl (vVar 3) (voN) (voS (vUn uNeg (vC (.int 1))))) (vNil))))) (vC (.int 0))) (vC .non)))))
def v_law_wrong_right : VF := vBody 4 0 w_law_wrong_right
theorem sim_law_wrong_right : SF [] .fz m_law_wrong_right v_law_wrong_right := sf_ofL 4 [0, 0, 0, 0] 4 rfl (dp' := dpOf [0, 0, 0, 0]) (show SS [] .fz (dpOf []) (dpOf [0, 0, 0, 0]) (dpOf [0, 0, 0, 0]) b_law_wrong_right w_law_wrong_right from ss_seq (ss_asgT (io := []) (pd_of (by decide)) (se_call0 sim_sound_paper nofun (sa_cons (se_var 0 rfl) (sa_cons (se_var 1 rfl) (sa_nil)))) (sg_tup (sgs_cons (sg_name 2 rfl) (sgs_cons (sg_name 3 rfl) (sgs_nil)))) (by decide))
    (ss_seq (ss_if (io := []) (pd_of (by decide)) (sb_or (sb_tst ((se_binL od_ne fl_ne ((se_var 2 rfl).fz_bor) ((se_str).fl_bor)).fl_bor)) (sb_tst ((se_binL od_ne fl_ne ((se_call0 sim_run nofun (sa_cons (se_var 0 rfl) (sa_cons (se_var 1 rfl) (sa_cons (se_var 3 rfl) (sa_nil))))).fz_bor) (se_tup (md := .bor) (sa_cons ((se_non).fl_bor) (sa_cons ((se_callL od_lenA fl_lenA (sa_cons ((se_var 3 rfl).fz_bor) (sa_nil))).fl_bor) (sa_nil))) nofun)).fl_bor))) (ss_ret (io := []) (pd_of (by decide)) ((se_bl).fl_fz) nofun) (ss_skip))
    (ss_ret (io := []) (pd_of (by decide)) (se_and ((se_binL od_in fl_in (se_binB od_ix (se_binB od_ix ((se_var 3 rfl).fz_bor) ((se_un_fl od_neg fl_neg ((se_int).fl_bor)).fl_bor)) ((se_int).fl_bor)) (se_tup (md := .bor) (sa_cons ((se_str).fl_bor) (sa_cons ((se_str).fl_bor) (sa_nil))) nofun)).fl_fz) ((se_binL od_isNot fl_isNot (se_binB od_ix ((se_call0 sim_run nofun (sa_cons (se_var 0 rfl) (sa_cons (se_var 1 rfl) (sa_cons (se_slice (se_var 3 rfl) (so_none) (so_some ((se_un_fl od_neg fl_neg ((se_int).fl_bor)).fl_bor))) (sa_nil))))).fz_bor) ((se_int).fl_bor)) ((se_non).fl_bor)).fl_fz)) nofun))) (pd_of (by decide)) nofun
/-! _law_next(_law_m, _law_total, _law_rest, _law_k, _law_cell, _law_mixed) : fz -/
def L_law_next_1 : VS := vSetI 0 (vHere 0) (vC (.str "left")) (vSlF (vBin uIx (vVar 0) (vC (.str "left"))) (voS (vC (.int 1))) (voN))
def W_law_next_1 : VT := vAnd (vTst (vBin uNe (vBin uIx (vVar 0) (vC (.str "left"))) (vLst (vNil)))) (vTst (vBin uEq (vBin uIx (vBin uIx (vVar 0) (vC (.str "left"))) (vC (.int 0))) (vC (.int 0))))
def w_law_next : VS := vSeq (vWhile 100000 (W_law_next_1) (L_law_next_1))
    (vSeq (vIfS (vTst (vBin uNe (vBin uIx (vVar 0) (vC (.str "left"))) (vLst (vNil)))) (vSeq (vAsg (vOp uInt (vCons (vBin uIx (vBin uIx (vVar 0) (vC (.str "left"))) (vC (.int 0))) (vNil))) 2)
    (vSeq (vSetI 0 (vStep 0 (vHere 0) (vC (.str "left"))) (vC (.int 0)) (vBin uDiv (vVar 2) (vVar 1)))
    (vRet (vBin uMod (vVar 2) (vVar 1))))) (vSkip))
    (vSeq (vAsg (vBin uAdd (vSolid (vBin uIx (vVar 0) (vC (.str "at")))) (vC (.int 1))) 3)
    (vSeq (vSetI 0 (vHere 0) (vC (.str "at")) (vSolid (vVar 3)))
    (vSeq (vAsg (vIf (vTst (vBin uNe (vBin uIx (vVar 0) (vC (.str "cells"))) (vLst (vNil)))) (vSolid (vBin uIx (vBin uIx (vVar 0) (vC (.str "cells"))) (vBin uMod (vOp uInt (vCons (vVar 3) (vNil))) (vOp uLenA (vCons (vBin uIx (vVar 0) (vC (.str "cells"))) (vNil)))))) (vC (.int 3))) 4)
    (vSeq (vAsg (vBin uMul (vOp uInt (vCons (vBin uAdd (vBin uAdd (vBin uMod (vOp uInt (vCons (vVar 4) (vNil))) (vC (.int 2147483629))) (vBin uMul (vC (.int 7919)) (vVar 3))) (vBin uMul (vBin uMul (vC (.int 19)) (vVar 3)) (vVar 3))) (vNil))) (vC (.int 48271))) 5)
    (vSeq (vAsg (vBin uMul (vOp uInt (vCons (vBin uAdd (vBin uMod (vOp uInt (vCons (vVar 5) (vNil))) (vC (.int 2147483647))) (vBin uMul (vC (.int 104729)) (vVar 3))) (vNil))) (vC (.int 69621))) 5)
    (vRet (vBin uMod (vOp uInt (vCons (vBin uDiv (vBin uMod (vOp uInt (vCons (vVar 5) (vNil))) (vC (.int 2147483587))) (vC (.int 11))) (vNil))) (vVar 1)))))))))
def v_law_next : VF := vBody 6 1 w_law_next
theorem sim_law_next : SF [2] .fz m_law_next v_law_next := sf_ofL 6 [2, 0, 0, 0, 0, 0] 5 rfl (dp' := dpOf [2, 0, 0, 0, 0, 0]) (show SS [2] .fz (dpOf []) (dpOf [2, 0, 0, 0, 0, 0]) (dpOf [2, 0, 0, 0, 0, 0]) b_law_next w_law_next from ss_seq (ss_while 100000 (io := []) (pd_of (by decide)) (sb_and (sb_tst ((se_binL od_ne fl_ne (se_binB od_ix (se_own 0 (by decide)) ((se_str).fl_bor)) (se_lstB (sa_nil))).fl_bor)) (sb_tst ((se_binL od_eq fl_eq (se_binB od_ix (se_binB od_ix (se_own 0 (by decide)) ((se_str).fl_bor)) ((se_int).fl_bor)) ((se_int).fl_bor)).fl_bor))) (ss_setI (io := []) (n := 0) (j := 1) (pd_of (by decide)) (by decide) rfl (op_here) ((se_str).fl_fz) (se_sliceF 0 (se_binB od_ix (se_own 0 (by decide)) ((se_str).fl_bor)) (so_some ((se_int).fl_bor)) (so_none))))
    (ss_seq (ss_if (io := []) (pd_of (by decide)) (sb_tst ((se_binL od_ne fl_ne (se_binB od_ix (se_own 0 (by decide)) ((se_str).fl_bor)) (se_lstB (sa_nil))).fl_bor)) (ss_seq (ss_asgD (l := [2, 0, 0, 0, 0, 0]) (io := []) 2 0 (pd_of (by decide)) (by decide) ((se_callL od_int fl_int (sa_cons (se_binB od_ix (se_binB od_ix (se_own 0 (by decide)) ((se_str).fl_bor)) ((se_int).fl_bor)) (sa_nil))).fl_fr 0) (by decide))
    (ss_seq (ss_setI (io := []) (n := 1) (j := 0) (pd_of (by decide)) (by decide) rfl (op_step (by decide) (by decide) (op_here) ((se_str).fl_fz)) ((se_int).fl_fz) ((se_binL od_div fl_div ((se_var 2 rfl).fz_bor) ((se_var 1 rfl).fz_bor)).fl_fr 0))
    (ss_ret (io := []) (pd_of (by decide)) ((se_binL od_mod fl_mod ((se_var 2 rfl).fz_bor) ((se_var 1 rfl).fz_bor)).fl_fz) nofun))) (ss_skip))
    (ss_seq (ss_asgD (l := [2, 0, 0, 0, 0, 0]) (io := []) 3 0 (pd_of (by decide)) (by decide) ((se_bin od_add ((se_binB od_ix (se_own 0 (by decide)) ((se_str).fl_bor)).solid.fl_fz) ((se_int).fl_fz)).fz_fr0) (by decide))
    (ss_seq (ss_setI (io := []) (n := 0) (j := 1) (pd_of (by decide)) (by decide) rfl (op_here) ((se_str).fl_fz) ((((se_var 3 rfl).fz_bor).solid).fl_fr 1))
    (ss_seq (ss_asgD (l := [2, 0, 0, 0, 0, 0]) (io := []) 4 0 (pd_of (by decide)) (by decide) (se_if (sb_tst ((se_binL od_ne fl_ne (se_binB od_ix (se_own 0 (by decide)) ((se_str).fl_bor)) (se_lstB (sa_nil))).fl_bor)) (((se_binB od_ix (se_binB od_ix (se_own 0 (by decide)) ((se_str).fl_bor)) ((se_binL od_mod fl_mod ((se_callL od_int fl_int (sa_cons ((se_var 3 rfl).fz_bor) (sa_nil))).fl_bor) ((se_callL od_lenA fl_lenA (sa_cons (se_binB od_ix (se_own 0 (by decide)) ((se_str).fl_bor)) (sa_nil))).fl_bor)).fl_bor)).solid.fl_fz).fz_fr0) ((se_int).fl_fr 0)) (by decide))
    (ss_seq (ss_asgD (l := [2, 0, 0, 0, 0, 0]) (io := []) 5 0 (pd_of (by decide)) (by decide) ((se_bin od_mul ((se_callL od_int fl_int (sa_cons (se_binB od_add (se_binB od_add ((se_binL od_mod fl_mod ((se_callL od_int fl_int (sa_cons ((se_var 4 rfl).fz_bor) (sa_nil))).fl_bor) ((se_int).fl_bor)).fl_bor) (se_binB od_mul ((se_int).fl_bor) ((se_var 3 rfl).fz_bor))) (se_binB od_mul (se_binB od_mul ((se_int).fl_bor) ((se_var 3 rfl).fz_bor)) ((se_var 3 rfl).fz_bor))) (sa_nil))).fl_fz) ((se_int).fl_fz)).fz_fr0) (by decide))
    (ss_seq (ss_asgD (l := [2, 0, 0, 0, 0, 0]) (io := []) 5 0 (pd_of (by decide)) (by decide) ((se_bin od_mul ((se_callL od_int fl_int (sa_cons (se_binB od_add ((se_binL od_mod fl_mod ((se_callL od_int fl_int (sa_cons ((se_var 5 rfl).fz_bor) (sa_nil))).fl_bor) ((se_int).fl_bor)).fl_bor) (se_binB od_mul ((se_int).fl_bor) ((se_var 3 rfl).fz_bor))) (sa_nil))).fl_fz) ((se_int).fl_fz)).fz_fr0) (by decide))
    (ss_ret (io := []) (pd_of (by decide)) ((se_binL od_mod fl_mod ((se_callL od_int fl_int (sa_cons ((se_binL od_div fl_div ((se_binL od_mod fl_mod ((se_callL od_int fl_int (sa_cons ((se_var 5 rfl).fz_bor) (sa_nil))).fl_bor) ((se_int).fl_bor)).fl_bor) ((se_int).fl_bor)).fl_bor) (sa_nil))).fl_bor) ((se_var 1 rfl).fz_bor)).fl_fz) nofun)))))))) (pd_of (by decide)) nofun
/-! is_sound(window, channel) : fz -/
def w_is_sound : VS := vSeq (vExpr (vCall0 v_need_both (vCons (vVar 0) (vCons (vVar 1) (vNil)))))
    (vRet (vBin uIs (vBin uIx (vCall0 v_searched (vCons (vVar 0) (vCons (vVar 1) (vNil)))) (vC (.int 0))) (vC .non)))
def v_is_sound : VF := vBody 2 0 w_is_sound
theorem sim_is_sound : SF [] .fz m_is_sound v_is_sound := sf_ofL 2 [0, 0] 2 rfl (dp' := dpOf [0, 0]) (show SS [] .fz (dpOf []) (dpOf [0, 0]) (dpOf [0, 0]) b_is_sound w_is_sound from ss_seq (ss_expr (io := []) (pd_of (by decide)) (se_call0 sim_need_both nofun (sa_cons (se_var 0 rfl) (sa_cons (se_var 1 rfl) (sa_nil)))))
    (ss_ret (io := []) (pd_of (by decide)) ((se_binL od_is fl_is (se_binB od_ix ((se_call0 sim_searched nofun (sa_cons (se_var 0 rfl) (sa_cons (se_var 1 rfl) (sa_nil)))).fz_bor) ((se_int).fl_bor)) ((se_non).fl_bor)).fl_fz) nofun)) (pd_of (by decide)) nofun
/-! least_m(w, v, channel, m) : fz -/
def L_least_m_1 : VS := vIfS (vTst (vBin uIs (vBin uIx (vCall0 v_searched (vCons (vTup (vCons (vVar 3) (vCons (vVar 0) (vCons (vVar 1) (vNil))))) (vCons (vVar 2) (vNil)))) (vC (.int 0))) (vC .non))) (vRet (vVar 3)) (vSkip)
def w_least_m : VS := vSeq (vIfS (vOr (vNot (vTru (vCall0 v_is_whole (vCons (vVar 0) (vCons (vC (.int 1)) (vCons (vC (.int 8)) (vNil))))))) (vNot (vTru (vCall0 v_is_whole (vCons (vVar 1) (vCons (vC (.int 1)) (vCons (vC (.int 8)) (vNil)))))))) (vNever) (vSkip))
    (vSeq (vExpr (vCall0 v_need_channel (vCons (vVar 2) (vNil))))
    (vSeq (vFor (vRng2 (vOp uMaxA (vCons (vC (.int 2)) (vCons (vVar 0) (vCons (vVar 1) (vNil))))) (vBin uAdd (vC (.int 8)) (vC (.int 1)))) (tN 3) (L_least_m_1))
    (vRet (vC .non))))
def v_least_m : VF := vBody 4 0 w_least_m
theorem sim_least_m : SF [] .fz m_least_m v_least_m := sf_ofL 4 [0, 0, 0, 0] 4 rfl (dp' := dpOf [0, 0, 0, 0]) (show SS [] .fz (dpOf []) (dpOf [0, 0, 0, 0]) (dpOf [0, 0, 0, 0]) b_least_m w_least_m from ss_seq (ss_if (io := []) (pd_of (by decide)) (sb_or (sb_not (sb_tru ((se_call0 sim_is_whole nofun (sa_cons (se_var 0 rfl) (sa_cons ((se_int).fl_fz) (sa_cons ((se_int).fl_fz) (sa_nil))))).fz_bor))) (sb_not (sb_tru ((se_call0 sim_is_whole nofun (sa_cons (se_var 1 rfl) (sa_cons ((se_int).fl_fz) (sa_cons ((se_int).fl_fz) (sa_nil))))).fz_bor)))) (ss_never) (ss_skip))
    (ss_seq (ss_expr (io := []) (pd_of (by decide)) (se_call0 sim_need_channel nofun (sa_cons (se_var 2 rfl) (sa_nil))))
    (ss_seq (ss_for (io := []) (pd_of (by decide)) (si_range2 ((se_callL od_maxA fl_maxA (sa_cons ((se_int).fl_bor) (sa_cons ((se_var 0 rfl).fz_bor) (sa_cons ((se_var 1 rfl).fz_bor) (sa_nil))))).fl_bor) (se_binB od_add ((se_int).fl_bor) ((se_int).fl_bor))) (sg_name 3 rfl) (ss_if (io := []) (pd_of (by decide)) (sb_tst ((se_binL od_is fl_is (se_binB od_ix ((se_call0 sim_searched nofun (sa_cons (se_tup (md := .fz) (sa_cons (se_var 3 rfl) (sa_cons (se_var 0 rfl) (sa_cons (se_var 1 rfl) (sa_nil)))) nofun) (sa_cons (se_var 2 rfl) (sa_nil)))).fz_bor) ((se_int).fl_bor)) ((se_non).fl_bor)).fl_bor)) (ss_ret (io := []) (pd_of (by decide)) (se_var 3 rfl) nofun) (ss_skip)) (by decide))
    (ss_ret (io := []) (pd_of (by decide)) ((se_non).fl_fz) nofun)))) (pd_of (by decide)) nofun
/-! law(_law_script, _law_m, _law_faults, _law_v, _law_window) : fz -/
def S_law_0 : VS := vAsg (vCall0 v_law_begun (vCons (vVar 0) (vNil))) 1
def S_law_1 : VS := vAsg (vBin uIx (vLst (vCons (vC (.str "none")) (vCons (vC (.str "lose")) (vCons (vC (.str "double")) (vCons (vC (.str "both")) (vNil)))))) (vCallN v_law_next [1] (vCons (vC (.int 4)) (vNil)))) 2
def L_law_1 : VS := vIfS (vOr (vTst (vBin uNe (vCall0 v_least_m (vCons (vC (.int 1)) (vCons (vVar 3) (vCons (vTup (vCons (vC (.int 0)) (vCons (vC (.int 1)) (vCons (vVar 2) (vNil))))) (vNil))))) (vBin uAdd (vC (.int 1)) (vVar 3)))) (vNot (vTru (vCall0 v_is_sound (vCons (vTup (vCons (vC (.int 3)) (vCons (vC (.int 1)) (vCons (vVar 3) (vNil))))) (vCons (vTup (vCons (vC (.int 0)) (vCons (vC (.int 1)) (vCons (vVar 2) (vNil))))) (vNil))))))) (vRet (vC (.bl false))) (vSkip)
def S_law_2 : VS := vFor (vIt (vTup (vCons (vC (.int 1)) (vCons (vC (.int 2)) (vNil))))) (tN 3) (L_law_1)
def S_law_3 : VS := vIfS (vOr (vNot (vTru (vCall0 v_is_sound (vCons (vTup (vCons (vC (.int 3)) (vCons (vC (.int 2)) (vCons (vC (.int 1)) (vNil))))) (vCons (vTup (vCons (vC (.int 0)) (vCons (vC (.int 1)) (vCons (vVar 2) (vNil))))) (vNil)))))) (vTru (vCall0 v_is_sound (vCons (vTup (vCons (vC (.int 2)) (vCons (vC (.int 2)) (vCons (vC (.int 1)) (vNil))))) (vCons (vTup (vCons (vC (.int 0)) (vCons (vC (.int 1)) (vCons (vVar 2) (vNil))))) (vNil)))))) (vRet (vC (.bl false))) (vSkip)
def L_law_2 : VS := vIfS (vNot (vTru (vCall0 v_law_wrong_right (vCons (vVar 4) (vCons (vTup (vCons (vC (.int 0)) (vCons (vC (.int 1)) (vCons (vVar 2) (vNil))))) (vNil)))))) (vRet (vC (.bl false))) (vSkip)
def S_law_4 : VS := vFor (vIt (vTup (vCons (vTup (vCons (vC (.int 2)) (vCons (vC (.int 2)) (vCons (vC (.int 1)) (vNil))))) (vCons (vTup (vCons (vC (.int 2)) (vCons (vC (.int 1)) (vCons (vC (.int 2)) (vNil))))) (vCons (vTup (vCons (vC (.int 2)) (vCons (vC (.int 2)) (vCons (vC (.int 2)) (vNil))))) (vCons (vTup (vCons (vC (.int 3)) (vCons (vC (.int 3)) (vCons (vC (.int 1)) (vNil))))) (vNil))))))) (tN 4) (L_law_2)
def S_law_5 : VS := vIfS (vTst (vBin uNe (vCall0 v_run (vCons (vTup (vCons (vC (.int 2)) (vCons (vC (.int 1)) (vCons (vC (.int 1)) (vNil))))) (vCons (vTup (vCons (vC (.int 0)) (vCons (vC (.int 1)) (vCons (vC (.str "lose")) (vNil))))) (vCons (vBin uMul (vTup (vCons (vTup (vCons (vC (.str "send")) (vCons (vC (.int 0)) (vNil)))) (vCons (vTup (vCons (vC (.str "lose")) (vCons (vC (.int 0)) (vNil)))) (vNil)))) (vC (.int 500))) (vNil))))) (vTup (vCons (vTup (vCons (vC (.int 0)) (vCons (vTup (vNil)) (vCons (vTup (vNil)) (vCons (vTup (vNil)) (vNil)))))) (vCons (vC (.int 1000)) (vNil)))))) (vRet (vC (.bl false))) (vSkip)
def S_law_6 : VS := vIfS (vOr (vTst (vBin uIsNot (vCall0 v_least_m (vCons (vC (.int 8)) (vCons (vC (.int 1)) (vCons (vTup (vCons (vC (.int 0)) (vCons (vC (.int 1)) (vCons (vC (.str "none")) (vNil))))) (vNil))))) (vC .non))) (vTst (vBin uIsNot (vCall0 v_least_m (vCons (vC (.int 8)) (vCons (vC (.int 8)) (vCons (vTup (vCons (vC (.int 0)) (vCons (vC (.int 1)) (vCons (vC (.str "none")) (vNil))))) (vNil))))) (vC .non)))) (vRet (vC (.bl false))) (vSkip)
def S_law_7 : VS := vRet (vCall0 v_law_wrong_right (vCons (vTup (vCons (vC (.int 2)) (vCons (vC (.int 1)) (vCons (vC (.int 1)) (vNil))))) (vCons (vTup (vCons (vC (.int 1)) (vCons (vC (.int 2)) (vCons (vC (.str "both")) (vNil))))) (vNil))))
def w_law : VS := vSeq (S_law_0)
    (vSeq (S_law_1)
    (vSeq (S_law_2)
    (vSeq (S_law_3)
    (vSeq (S_law_4)
    (vSeq (S_law_5)
    (vSeq (S_law_6)
    (S_law_7)))))))
def v_law : VF := vBody 5 0 w_law
theorem sim_law : SF [] .fz m_law v_law := sf_ofL 5 [0, 0, 0, 0, 0] 5 rfl (dp' := dpOf [0, 0, 0, 0, 0]) (show SS [] .fz (dpOf []) (dpOf [0, 0, 0, 0, 0]) (dpOf [0, 0, 0, 0, 0]) b_law w_law from ss_seq (ss_asgD (l := [0, 0, 0, 0, 0]) (io := []) 1 2 (pd_of (by decide)) (by decide) (se_call0 sim_law_begun nofun (sa_cons (se_var 0 rfl) (sa_nil))) (by decide))
    (ss_seq (ss_asgD (l := [0, 2, 0, 0, 0]) (io := [1]) 2 0 (pd_of (by decide)) (by decide) ((se_bin od_ix ((se_lstO (k := 0) (sa_cons ((se_str).fl_fr 0) (sa_cons ((se_str).fl_fr 0) (sa_cons ((se_str).fl_fr 0) (sa_cons ((se_str).fl_fr 0) (sa_nil)))))).fr_fz) (se_callN [2] [1] sim_law_next nofun (by decide) rfl (hdp_of (by decide)) (by decide) (sa_cons ((se_int).fl_fz) (sa_nil)))).fz_fr0) (by decide))
    (ss_seq (ss_for (io := []) (pd_of (by decide)) (si_val (se_tup (md := .fz) (sa_cons ((se_int).fl_fz) (sa_cons ((se_int).fl_fz) (sa_nil))) nofun)) (sg_name 3 rfl) (ss_if (io := []) (pd_of (by decide)) (sb_or (sb_tst ((se_binL od_ne fl_ne ((se_call0 sim_least_m nofun (sa_cons ((se_int).fl_fz) (sa_cons (se_var 3 rfl) (sa_cons (se_tup (md := .fz) (sa_cons ((se_int).fl_fz) (sa_cons ((se_int).fl_fz) (sa_cons (se_var 2 rfl) (sa_nil)))) nofun) (sa_nil))))).fz_bor) (se_binB od_add ((se_int).fl_bor) ((se_var 3 rfl).fz_bor))).fl_bor)) (sb_not (sb_tru ((se_call0 sim_is_sound nofun (sa_cons (se_tup (md := .fz) (sa_cons ((se_int).fl_fz) (sa_cons ((se_int).fl_fz) (sa_cons (se_var 3 rfl) (sa_nil)))) nofun) (sa_cons (se_tup (md := .fz) (sa_cons ((se_int).fl_fz) (sa_cons ((se_int).fl_fz) (sa_cons (se_var 2 rfl) (sa_nil)))) nofun) (sa_nil)))).fz_bor)))) (ss_ret (io := []) (pd_of (by decide)) ((se_bl).fl_fz) nofun) (ss_skip)) (by decide))
    (ss_seq (ss_if (io := []) (pd_of (by decide)) (sb_or (sb_not (sb_tru ((se_call0 sim_is_sound nofun (sa_cons (se_tup (md := .fz) (sa_cons ((se_int).fl_fz) (sa_cons ((se_int).fl_fz) (sa_cons ((se_int).fl_fz) (sa_nil)))) nofun) (sa_cons (se_tup (md := .fz) (sa_cons ((se_int).fl_fz) (sa_cons ((se_int).fl_fz) (sa_cons (se_var 2 rfl) (sa_nil)))) nofun) (sa_nil)))).fz_bor))) (sb_tru ((se_call0 sim_is_sound nofun (sa_cons (se_tup (md := .fz) (sa_cons ((se_int).fl_fz) (sa_cons ((se_int).fl_fz) (sa_cons ((se_int).fl_fz) (sa_nil)))) nofun) (sa_cons (se_tup (md := .fz) (sa_cons ((se_int).fl_fz) (sa_cons ((se_int).fl_fz) (sa_cons (se_var 2 rfl) (sa_nil)))) nofun) (sa_nil)))).fz_bor))) (ss_ret (io := []) (pd_of (by decide)) ((se_bl).fl_fz) nofun) (ss_skip))
    (ss_seq (ss_for (io := []) (pd_of (by decide)) (si_val (se_tup (md := .fz) (sa_cons (se_tup (md := .fz) (sa_cons ((se_int).fl_fz) (sa_cons ((se_int).fl_fz) (sa_cons ((se_int).fl_fz) (sa_nil)))) nofun) (sa_cons (se_tup (md := .fz) (sa_cons ((se_int).fl_fz) (sa_cons ((se_int).fl_fz) (sa_cons ((se_int).fl_fz) (sa_nil)))) nofun) (sa_cons (se_tup (md := .fz) (sa_cons ((se_int).fl_fz) (sa_cons ((se_int).fl_fz) (sa_cons ((se_int).fl_fz) (sa_nil)))) nofun) (sa_cons (se_tup (md := .fz) (sa_cons ((se_int).fl_fz) (sa_cons ((se_int).fl_fz) (sa_cons ((se_int).fl_fz) (sa_nil)))) nofun) (sa_nil))))) nofun)) (sg_name 4 rfl) (ss_if (io := []) (pd_of (by decide)) (sb_not (sb_tru ((se_call0 sim_law_wrong_right nofun (sa_cons (se_var 4 rfl) (sa_cons (se_tup (md := .fz) (sa_cons ((se_int).fl_fz) (sa_cons ((se_int).fl_fz) (sa_cons (se_var 2 rfl) (sa_nil)))) nofun) (sa_nil)))).fz_bor))) (ss_ret (io := []) (pd_of (by decide)) ((se_bl).fl_fz) nofun) (ss_skip)) (by decide))
    (ss_seq (ss_if (io := []) (pd_of (by decide)) (sb_tst ((se_binL od_ne fl_ne ((se_call0 sim_run nofun (sa_cons (se_tup (md := .fz) (sa_cons ((se_int).fl_fz) (sa_cons ((se_int).fl_fz) (sa_cons ((se_int).fl_fz) (sa_nil)))) nofun) (sa_cons (se_tup (md := .fz) (sa_cons ((se_int).fl_fz) (sa_cons ((se_int).fl_fz) (sa_cons ((se_str).fl_fz) (sa_nil)))) nofun) (sa_cons (se_bin od_mul (se_tup (md := .fz) (sa_cons (se_tup (md := .fz) (sa_cons ((se_str).fl_fz) (sa_cons ((se_int).fl_fz) (sa_nil))) nofun) (sa_cons (se_tup (md := .fz) (sa_cons ((se_str).fl_fz) (sa_cons ((se_int).fl_fz) (sa_nil))) nofun) (sa_nil))) nofun) ((se_int).fl_fz)) (sa_nil))))).fz_bor) (se_tup (md := .bor) (sa_cons (se_tup (md := .bor) (sa_cons ((se_int).fl_bor) (sa_cons (se_tup (md := .bor) (sa_nil) nofun) (sa_cons (se_tup (md := .bor) (sa_nil) nofun) (sa_cons (se_tup (md := .bor) (sa_nil) nofun) (sa_nil))))) nofun) (sa_cons ((se_int).fl_bor) (sa_nil))) nofun)).fl_bor)) (ss_ret (io := []) (pd_of (by decide)) ((se_bl).fl_fz) nofun) (ss_skip))
    (ss_seq (ss_if (io := []) (pd_of (by decide)) (sb_or (sb_tst ((se_binL od_isNot fl_isNot ((se_call0 sim_least_m nofun (sa_cons ((se_int).fl_fz) (sa_cons ((se_int).fl_fz) (sa_cons (se_tup (md := .fz) (sa_cons ((se_int).fl_fz) (sa_cons ((se_int).fl_fz) (sa_cons ((se_str).fl_fz) (sa_nil)))) nofun) (sa_nil))))).fz_bor) ((se_non).fl_bor)).fl_bor)) (sb_tst ((se_binL od_isNot fl_isNot ((se_call0 sim_least_m nofun (sa_cons ((se_int).fl_fz) (sa_cons ((se_int).fl_fz) (sa_cons (se_tup (md := .fz) (sa_cons ((se_int).fl_fz) (sa_cons ((se_int).fl_fz) (sa_cons ((se_str).fl_fz) (sa_nil)))) nofun) (sa_nil))))).fz_bor) ((se_non).fl_bor)).fl_bor))) (ss_ret (io := []) (pd_of (by decide)) ((se_bl).fl_fz) nofun) (ss_skip))
    (ss_ret (io := []) (pd_of (by decide)) (se_call0 sim_law_wrong_right nofun (sa_cons (se_tup (md := .fz) (sa_cons ((se_int).fl_fz) (sa_cons ((se_int).fl_fz) (sa_cons ((se_int).fl_fz) (sa_nil)))) nofun) (sa_cons (se_tup (md := .fz) (sa_cons ((se_int).fl_fz) (sa_cons ((se_int).fl_fz) (sa_cons ((se_str).fl_fz) (sa_nil)))) nofun) (sa_nil)))) nofun)))))))) (pd_of (by decide)) nofun
end LW
set_option Elab.async false
set_option linter.all false
set_option maxRecDepth 100000
set_option maxHeartbeats 4000000
namespace LW
open PySem L2 DD VV
local macro_rules | `(tactic| walk_at "vv") => `(tactic| simp only [vBody, vRetD, vSkip, vSeq, vIfS, vRet, vRetN, vRetT, vAsg, vAsgT, vExpr, vParN, setAll, vAug, vSetI, vHere, vStep, vMut, slot, getP, setP, uPut, uAppend, toUO, tN, tT, tsCons, tsNil, vOr, vAnd, vNot, vTru, vTst, vBin, vUn, vOp, vCall0, vCallN, putO, mapO, vCons, vNil, vVar, vC, vTup, vLst, vIf, vChain, vOrV, vAndV, vNotV, vSl, vSlL, vSlF, voN, voS, vDic, vpCons, vpNil, keysU, keyU, vFor, vEn, vIt, vRng1, vRng2, itU, vLc, vYes, vSolid, flat, flats, ofO, ER.bind, ER.bindS, UO.then, uIsi, tyU, knownT, isiB, uCmp, uIs, uIsNot, isNonU, truU, uAdd, uSub, uMul, uDiv, uMod, uPow, uNeg, uIAdd, uCat, uRep, uLenA, lenUA, uListA, uMaxA, uMinA, vParT, tItm, vOpF, uLen, lenU, uInt, uSlice, uSliceL, uSum, uAll, uAny, uTuple, uMin, uMax, uList, uIx, seqTU, seqU, uEq_int, uNe_int, uEq_str, uNe_str, wipeU, backU, List.getD_cons_zero, List.getD_cons_succ, vNever, List.map_cons, List.map_nil, List.length_cons, List.length_nil, List.length_map, List.length_range, List.replicate, List.append_nil, List.nil_append, List.cons_append, List.set_cons_zero, List.set_cons_succ, List.set_nil, List.getElem?_cons_zero, List.getElem?_cons_succ, List.getElem?_nil, List.take_succ_cons, List.take_zero, Option.map_some, Option.map_none, Option.isSome_some, Option.bind_some, Nat.reduceAdd, Nat.reduceSub, Nat.zero_add, if_true, if_false, Bool.false_eq_true, Bool.not_true, Bool.not_false, decide_true, decide_false, reduceIte, String.reduceBEq, Bool.or_true, Bool.true_or, Bool.or_false, Bool.false_or, Bool.and_true, Bool.and_false, Bool.true_and, Bool.false_and, Bool.and_self, String.reduceBNe, decide_eq_true_eq, reduceCtorEq, and_self, Int.reducePow, Int.reduceNeg, Int.reduceSub, Int.reduceAdd, Int.reduceMul, Int.reduceLT, Int.reduceLE, Int.reduceToNat, Nat.reducePow, Nat.reduceLT, Nat.reduceLeDiff, true_and, and_true, or_true, true_or, false_or, or_false, ne_eq, not_true_eq_false, not_false_eq_true, na10, na2, okU, kk, isT, getU, dicB, eqK_str, eqK_int, eqK_si, eqK_is, tyMU, List.all_cons, List.all_nil, ofS_inj, String.reduceEq, szl, Nat.zero_le, *])
/-! ### the drawing machine -/
abbrev kC : KD := .str "cells"
abbrev kL : KD := .str "left"
abbrev kS : KD := .str "at"
abbrev dM (cs ls : List Int) (s : Int) : U := .dic [(kC, .lst (cs.map U.int)), (kL, .lst (ls.map U.int)), (kS, .int s)]
theorem nCS : eqK kC kS = false := by decide +kernel
theorem nLS : eqK kL kS = false := by decide +kernel
theorem nCL : eqK kC kL = false := by decide +kernel
theorem nSC : eqK kS kC = false := by decide +kernel
theorem nSL : eqK kS kL = false := by decide +kernel
theorem nLC : eqK kL kC = false := by decide +kernel
theorem eCC : eqK kC kC = true := eqK_self _
theorem eLL : eqK kL kL = true := eqK_self _
theorem eSS : eqK kS kS = true := eqK_self _
structure Dw (B : Int) (m : U) : Prop where
  ex : ∃ cs ls s, m = dM cs ls s ∧ 0 ≤ s ∧ s ≤ B ∧ ls.length ≤ 1000
theorem Dw.mono {B B' : Int} {m : U} (d : Dw B m) (h : B ≤ B') : Dw B' m := by
  obtain ⟨cs, ls, s, e, h0, h1, h2⟩ := d.ex
  exact ⟨cs, ls, s, e, h0, by omega, h2⟩
theorem vlC (cs ls : List Int) (s : Int) : valU [(kC, .lst (cs.map U.int)), (kL, .lst (ls.map U.int)), (kS, .int s)] kC = some (.lst (cs.map U.int)) := by simp only [valU, eCC, if_true]
theorem vlL (cs ls : List Int) (s : Int) : valU [(kC, .lst (cs.map U.int)), (kL, .lst (ls.map U.int)), (kS, .int s)] kL = some (.lst (ls.map U.int)) := by simp only [valU, if_true, nCL, eLL, Bool.false_eq_true, if_false]
theorem vlS (cs ls : List Int) (s : Int) : valU [(kC, .lst (cs.map U.int)), (kL, .lst (ls.map U.int)), (kS, .int s)] kS = some (.int s) := by simp only [valU, if_true, nCS, nLS, eSS, Bool.false_eq_true, if_false]
theorem puL (cs ls ls' : List Int) (s : Int) : putU [(kC, .lst (cs.map U.int)), (kL, .lst (ls.map U.int)), (kS, .int s)] kL (.lst (ls'.map U.int)) = [(kC, .lst (cs.map U.int)), (kL, .lst (ls'.map U.int)), (kS, .int s)] := by simp only [putU, vlL, Option.isSome_some, if_true, setU, nCL, nSL, eLL, Bool.false_eq_true, if_false]
theorem stL (cs ls ls' : List Int) (s : Int) : setU [(kC, .lst (cs.map U.int)), (kL, .lst (ls.map U.int)), (kS, .int s)] kL (.lst (ls'.map U.int)) = [(kC, .lst (cs.map U.int)), (kL, .lst (ls'.map U.int)), (kS, .int s)] := by simp only [if_true, setU, nCL, nSL, eLL, Bool.false_eq_true, if_false]
theorem puS (cs ls : List Int) (s t : Int) : putU [(kC, .lst (cs.map U.int)), (kL, .lst (ls.map U.int)), (kS, .int s)] kS (.int t) = [(kC, .lst (cs.map U.int)), (kL, .lst (ls.map U.int)), (kS, .int t)] := by simp only [putU, vlS, Option.isSome_some, if_true, setU, nCS, nLS, eSS, Bool.false_eq_true, if_false]
theorem neNil (ls : List Int) : uNe (.lst (ls.map U.int)) (.lst []) = some (.bl !ls.isEmpty) := by
  rw [uNe_ok (by rw [VV.plain]; exact plain_ints _ _) rfl, eqB, eqBs_nil, isEmpty_map]
theorem cut1 (x : Int) (ls : List Int) : cutA ((x :: ls).map U.int) (some 1) none = ls.map U.int := by
  rw [cut_drop _ _ (by decide)]
  rfl
theorem drop_ok (lim : Int) (cs : List Int) (s : Int) : ∀ (ls : List Int) (fuel : Nat), ls.length < fuel →
    ∃ ls', vWhile fuel W_law_next_1 L_law_next_1 [some (dM cs ls s), some (.int lim), none, none, none, none] = .nx [some (dM cs ls' s), some (.int lim), none, none, none, none] ∧ ls'.length ≤ ls.length
  | [], fuel + 1, hf => by
    refine ⟨[], ?_, Nat.le_refl _⟩
    have f1 := neNil []
    have f2 := vlL cs [] s
    unfold vWhile W_law_next_1
    clear hf
    simp only [List.map_nil, List.isEmpty_nil, Bool.not_true] at f1 f2
    walk_at "vv"
  | x :: ls, fuel + 1, hf => by
    have f1 := neNil (x :: ls)
    have f2 := vlL cs (x :: ls) s
    have f3 := at0 U.int x ls
    have f5 : (x :: ls).isEmpty = false := rfl
    rw [f5, Bool.not_false] at f1
    by_cases hx : x = 0
    · obtain ⟨ls', z, hl⟩ := drop_ok lim cs s ls fuel (by rw [List.length_cons] at hf; omega)
      refine ⟨ls', ?_, by rw [List.length_cons]; omega⟩
      have f4 := cut1 x ls
      have f6 := puL cs (x :: ls) ls s
      have f7 := flats_ints ls
      have f9 : decide (x = 0) = true := decide_eq_true hx
      unfold vWhile W_law_next_1 L_law_next_1
      clear hf hx hl
      generalize hX : (x :: ls).map U.int = X at f1 f2 f3 f4 f6
      have f10 : dM cs (x :: ls) s = .dic [(kC, .lst (cs.map U.int)), (kL, .lst X), (kS, .int s)] := by rw [← hX]
      rw [f10]
      clear hX f10
      unfold W_law_next_1 L_law_next_1 at z
      walk_at "vv"
    · refine ⟨x :: ls, ?_, Nat.le_refl _⟩
      have f9 : decide (x = 0) = false := decide_eq_false hx
      unfold vWhile W_law_next_1
      clear hf hx
      generalize hX : (x :: ls).map U.int = X at f1 f2 f3
      have f10 : dM cs (x :: ls) s = .dic [(kC, .lst (cs.map U.int)), (kL, .lst X), (kS, .int s)] := by rw [← hX]
      rw [f10]
      clear hX f10
      walk_at "vv"
/-- THE DRAW -/
theorem next_ok {B : Int} {m : U} (D : Dw B m) (hB : B ≤ 4000000000000000000) {n : Int} (h0 : 0 < n) (h1 : n < 10 ^ 40) : ∃ k m', v_law_next [m, .int n] = .val (.int k) [some m'] ∧ 0 ≤ k ∧ k < n ∧ Dw (B + 1) m' := by
  obtain ⟨cs, ls, s, rfl, s0, s1, hl⟩ := D.ex
  obtain ⟨ls', z, hl'⟩ := drop_ok n cs s ls 100000 (by omega)
  have hlog : n.natAbs.log2 < 9000 := by
    have hz : n.natAbs ≠ 0 := by omega
    refine (Nat.log2_lt hz).mpr ?_
    have : n.natAbs < 10 ^ 40 := by omega
    exact Nat.lt_of_lt_of_le this (by decide +kernel)
  have hdiv : 0 < n ∧ (n < 1073741824 ∨ n.natAbs.log2 < 9000) := ⟨h0, .inr hlog⟩
  cases ls' with
  | cons x ls' =>
    refine ⟨x % n, dM cs (x / n :: ls') s, ?_, Int.emod_nonneg _ (by omega), Int.emod_lt_of_pos _ h0, ⟨cs, _, s, rfl, s0, by omega, by rw [List.length_cons] at hl' ⊢; omega⟩⟩
    have f1 := neNil (x :: ls')
    have f5 : (x :: ls').isEmpty = false := rfl
    rw [f5, Bool.not_false] at f1
    have f2 := vlL cs (x :: ls') s
    have f3 := at0 U.int x ls'
    have f6 : setU [(kC, .lst (cs.map U.int)), (kL, .lst ((x :: ls').map U.int)), (kS, .int s)] kL (.lst (.int (x / n) :: ls'.map U.int)) = [(kC, .lst (cs.map U.int)), (kL, .lst ((x / n :: ls').map U.int)), (kS, .int s)] := stL cs (x :: ls') (x / n :: ls') s
    have f7 : ixN ((x :: ls').map U.int).length 0 = some 0 := by
      unfold ixN
      rw [if_pos (by decide), List.length_map, List.length_cons, if_pos (by omega)]
      rfl
    have f8 : ((x :: ls').map U.int).set 0 (.int (x / n)) = (x / n :: ls').map U.int := rfl
    unfold v_law_next w_law_next
    clear hl hl' s0 s1 hB hlog h1 f5
    generalize hX : (x :: ls').map U.int = X at f1 f2 f3 f6 f7 f8
    have f10 : dM cs (x :: ls') s = .dic [(kC, .lst (cs.map U.int)), (kL, .lst X), (kS, .int s)] := by rw [← hX]
    rw [f10] at z
    clear hX f10
    walk_at "vv"
    rfl
  | nil =>
    have hk : -18446744073709551616 < s + 1 ∧ s + 1 < 18446744073709551616 := by omega
    have f1 := neNil []
    rw [show ([] : List Int).isEmpty = true from rfl, Bool.not_true] at f1
    simp only [List.map_nil] at f1
    have f2 := vlL cs [] s
    have f3 := vlS cs [] s
    have f4 := puS cs [] s (s + 1)
    have f5 := vlC cs [] (s + 1)
    have f6 := neNil cs
    simp only [List.map_nil] at f2 f3 f4 f5
    have hdr : ∀ c : Int, Dw (B + 1) (dM cs [] (s + 1)) := fun c => ⟨cs, [], s + 1, rfl, by omega, by omega, Nat.zero_le _⟩
    cases hcs : cs with
    | nil =>
      have key : ∃ k, v_law_next [dM [] ls s, .int n] = .val (.int (k % n)) [some (dM [] [] (s + 1))] := by
        subst hcs
        simp only [List.isEmpty_nil, Bool.not_true, List.map_nil] at f6 f2 f3 f4 f5
        unfold v_law_next w_law_next
        clear hl hl' s0 s1 hB hlog h1 hdr hdiv f6
        refine ⟨?k, ?g⟩
        case g =>
          walk_at "vv"
          rfl
      obtain ⟨k, key⟩ := key
      exact ⟨k % n, dM [] [] (s + 1), key, Int.emod_nonneg _ (by omega), Int.emod_lt_of_pos _ h0, ⟨[], [], s + 1, rfl, by omega, by omega, Nat.zero_le _⟩⟩
    | cons c0 cs0 =>
      have hne : cs.isEmpty = false := by rw [hcs]; rfl
      rw [hne, Bool.not_false] at f6
      have hlen : (0 : Int) < (cs.length : Int) := by rw [hcs, List.length_cons]; omega
      have hm0 := Int.emod_nonneg (s + 1) (Int.ne_of_gt hlen)
      have hm1 := Int.emod_lt_of_pos (s + 1) hlen
      obtain ⟨c, hc⟩ : ∃ c, atI (cs.map U.int) ((s + 1) % (cs.length : Int)) = some (.int c) := by
        rw [atI_map]
        obtain ⟨j, hj⟩ : ∃ j : Nat, (s + 1) % (cs.length : Int) = (j : Int) := ⟨((s + 1) % (cs.length : Int)).toNat, by omega⟩
        rw [hj, VV.atI_nat, List.getElem?_eq_getElem (by omega)]
        exact ⟨_, rfl⟩
      rw [← hcs]
      have key : ∃ k, v_law_next [dM cs ls s, .int n] = .val (.int (k % n)) [some (dM cs [] (s + 1))] := by
        unfold v_law_next w_law_next
        clear hl hl' s0 s1 hB hlog h1 hdr hdiv hm0 hm1 hne hcs
        refine ⟨?k2, ?g2⟩
        case g2 =>
          walk_at "vv"
          rfl
      obtain ⟨k, key⟩ := key
      exact ⟨k % n, dM cs [] (s + 1), key, Int.emod_nonneg _ (by omega), Int.emod_lt_of_pos _ h0, hdr 0⟩
/-! the beginning -/
theorem big_lc (ns : List Int) (e0 : UE) (j : Nat) (he : wipeU e0 [j] = e0) (hj : ∀ u, (e0.set j (some u))[j]? = some (some u)) (hw : ∀ u, wipeU (e0.set j (some u)) [j] = e0) (hl : ns.length ≤ 1000) :
    lcV (tN j) (vTst (vBin uGe (vVar j) (vBin uPow (vC (.int 10)) (vC (.int 18))))) (vVar j) [j] (ns.map U.int) [] e0 = .val ((ns.filter fun x => decide ((10 : Int) ^ 18 ≤ x)).map U.int) e0 := by
  have := lcV_filter (t := tN j) (c := vTst (vBin uGe (vVar j) (vBin uPow (vC (.int 10)) (vC (.int 18))))) (x := vVar j) (own := [j]) (e0 := e0) U.int (fun x => decide ((10 : Int) ^ 18 ≤ x)) U.int ns []
    (fun a _ => by
      have h1 := hj (.int a)
      have h2 := hw (.int a)
      refine ⟨e0.set j (some (.int a)), e0.set j (some (.int a)), rfl, ?_, fun _ => ⟨e0.set j (some (.int a)), ?_, h2⟩, fun _ => h2⟩
      · have hp : (0 : Int) ≤ 18 ∧ (18 : Int) ≤ 1000000 ∧ (10 : Int).natAbs < 2 ^ 64 := by decide
        simp only [vTst, vBin, vVar, h1, vC, ER.bind, uPow, if_pos hp, ofO, uCmp]
        rfl
      · simp only [vVar, h1]) (by rw [List.length_nil, szl]; omega)
  rw [List.nil_append] at this
  exact this
theorem begun_ok (ns : List Int) (hl : ns.length ≤ 63) : ∃ m, v_law_begun [.fl (ns.map U.int)] = .val m [] ∧ Dw 0 m := by
  refine ⟨dM ns (ns.filter fun x => decide ((10 : Int) ^ 18 ≤ x)) 0, ?_, ⟨ns, _, 0, rfl, by omega, by omega, Nat.le_trans (List.length_filter_le _ _) (by omega)⟩⟩
  have hnd : ([nk kC, nk kL, nk kS] : List NestedKey).Nodup := by decide
  have h15 : (3 : Nat) ≤ 15 := by decide
  unfold v_law_begun w_law_begun
  have f1 := big_lc ns [some (.fl (ns.map U.int)), none] 1 rfl (fun _ => rfl) (fun _ => rfl) (by omega)
  unfold X_law_begun_1 C_law_begun_1
  clear hl
  walk_at "vv"
end LW
set_option Elab.async false
set_option linter.all false
set_option maxRecDepth 1000000
set_option maxHeartbeats 4000000
namespace LW
open PySem L2 DD VV
abbrev zS : U := .tup [.str "send", .int 0]
abbrev zL : U := .tup [.str "lose", .int 0]
abbrev zW : U := .tup [.int 2, .int 1, .int 1]
abbrev zC : U := .tup [.int 0, .int 1, .str "lose"]
abbrev z1 : U := .tup [.int 0, .tup [], .tup [.tup [.int 0, .int 0]], .tup []]
abbrev z0 : U := .tup [.int 0, .tup [], .tup [], .tup []]
def pairs : Nat → List U
  | 0 => []
  | n + 1 => zS :: zL :: pairs n
theorem forV_nx {t : VTg} {b : VS} {u : U} {us : List U} {e e1 e2 : UE} (h1 : t u e = some e1) (h2 : b e1 = .nx e2) : forV t b (u :: us) e = forV t b us e2 := by
  simp only [forV, h1, h2]
abbrev zT : VTg := tT 2 (tsCons (tN 4) (tsCons (tN 5) (tsNil)))
theorem t_ok (w c cs s a b : Option U) (k d : U) : zT (.tup [k, d]) [w, c, cs, s, a, b] = some [w, c, cs, s, some k, some d] := rfl
section
variable (a : Option U) (k : U)
theorem l1 : L_led_1 [some zW, some zC, a, some z0, some k, some zS] = .nx [some zW, some zC, a, some z1, some k, some zS] := by kernel_rfl
theorem l2 : L_led_1 [some zW, some zC, a, some z1, some k, some zL] = .nx [some zW, some zC, a, some z0, some k, some zL] := by kernel_rfl
end
theorem loop_ok (cs : Option U) : ∀ n i (a b : Option U), ∃ a' b', forV zT L_led_1 (enumU i (pairs n)) [some zW, some zC, cs, some z0, a, b] = .nx [some zW, some zC, cs, some z0, a', b']
  | 0, i, a, b => ⟨a, b, rfl⟩
  | n + 1, i, a, b => by
    obtain ⟨a', b', h⟩ := loop_ok cs n (i + 1 + 1) (some (.int ((i + 1 : Nat) : Int))) (some zL)
    refine ⟨a', b', ?_⟩
    simp only [pairs, enumU]
    rw [forV_nx (t_ok _ _ _ _ _ _ _ _) (l1 _ _), forV_nx (t_ok _ _ _ _ _ _ _ _) (l2 _ _), h]
theorem for_ok (t : VTg) (b : VS) (l : List U) (w c s x y : Option U) : vFor (vEn (vVar 2)) t b [w, c, some (.tup l), s, x, y] = forV t b (enumU 0 l) [w, c, some (.tup l), s, x, y] := rfl
theorem seq3 {s0 s1 s2 : VS} {us : List U} {n : Nat} {e0 e1 e2 e3 : UE} {u : U} (h : us.map some ++ List.replicate (n - us.length) none = e0) (g0 : s0 e0 = .nx e1) (g1 : s1 e1 = .nx e2) (g2 : s2 e2 = .rt u e3) : vBody n 0 (vSeq s0 (vSeq s1 s2)) us = .val u [] := by
  simp only [vBody, vSeq, h, g0, g1, g2, UO.then, List.take_zero]
theorem seq5 {s0 s1 s2 s3 s4 : VS} {us : List U} {n : Nat} {e0 e1 e2 e3 e4 e5 : UE} {u : U} (h : us.map some ++ List.replicate (n - us.length) none = e0) (g0 : s0 e0 = .nx e1) (g1 : s1 e1 = .nx e2) (g2 : s2 e2 = .nx e3) (g3 : s3 e3 = .nx e4) (g4 : s4 e4 = .rt u e5) : vBody n 0 (vSeq s0 (vSeq s1 (vSeq s2 (vSeq s3 s4)))) us = .val u [] := by
  simp only [vBody, vSeq, h, g0, g1, g2, g3, g4, UO.then, List.take_zero]
theorem call_ok {f : VF} {r : VA} {e : UE} {us : List U} {u : U} {o : UE} (h1 : r e = .val us e) (h2 : f us = .val u o) : vCall0 f r e = .val u e := by
  simp only [vCall0, h1, h2, ER.bind]
theorem asg_ok {v : VE} {e : UE} {u : U} {i : Nat} (h : v e = .val u e) : vAsg v i e = .nx (e.set i (some u)) := by
  simp only [vAsg, h, ER.bindS]
theorem ifs_ok {f : U → U → Option U} {a b : VE} {x y : VS} {e : UE} {u u' : U} {k : Bool} (h1 : a e = .val u e) (h2 : b e = .val u' e) (h3 : f u u' = some (.bl k)) : vIfS (vTst (vBin f a b)) x y e = if k then x e else y e := by
  simp only [vIfS, vTst, vBin, h1, h2, h3, ER.bind, ER.bindS, ofO]
abbrev zR : U := .tup [z0, .int 1000]
theorem led_ok : v_led [zW, zC, .tup (pairs 500)] = .val zR [] := by
  obtain ⟨a', b', h⟩ := loop_ok (some (.tup (pairs 500))) 500 0 none none
  have g2 : ∀ a' b', vRet (vTup (vCons (vVar 3) (vCons (vOp uLenA (vCons (vVar 2) (vNil))) (vNil)))) [some zW, some zC, some (.tup (pairs 500)), some z0, a', b'] = .rt zR [some zW, some zC, some (.tup (pairs 500)), some z0, a', b'] := by
    intro a' b'
    kernel_rfl
  unfold v_led w_led
  generalize pairs 500 = l at h g2 ⊢
  refine seq3 (e0 := [some zW, some zC, some (.tup l), none, none, none]) (e1 := [some zW, some zC, some (.tup l), some z0, none, none]) rfl ?_ ((for_ok _ _ _ _ _ _ _ _).trans h) (g2 _ _)
  kernel_rfl
theorem run_ok : v_run [zW, zC, .tup (pairs 500)] = .val zR [] := by
  have h := led_ok
  have g1 : vIfS (vOr (vNot (vTru (vOp uIsi (vCons (vVar 2) (vCons (vC (.op (.ty "tuple"))) (vNil)))))) (vTst (vBin uGt (vOp uLenA (vCons (vVar 2) (vNil))) (vC (.int 1000))))) (vNever) (vSkip) [some zW, some zC, some (.tup (pairs 500)), none] = .nx [some zW, some zC, some (.tup (pairs 500)), none] := by kernel_rfl
  unfold v_run w_run
  generalize pairs 500 = l at h g1 ⊢
  refine seq5 (e0 := [some zW, some zC, some (.tup l), none]) (e1 := [some zW, some zC, some (.tup l), none]) (e4 := [some zW, some zC, some (.tup l), some zR]) (e5 := [some zW, some zC, some (.tup l), some zR]) rfl ?_ g1 (asg_ok (call_ok (us := [zW, zC, .tup l]) rfl h)) ?_ rfl
  · kernel_rfl
  · kernel_rfl
theorem s5 (a b c d e : Option U) : S_law_5 [a, b, c, d, e] = .nx [a, b, c, d, e] := by
  have h := run_ok
  have hm : uMul (.tup [zS, zL]) (.int 500) = some (.tup (pairs 500)) := by kernel_rfl
  unfold S_law_5
  generalize pairs 500 = l at h hm
  refine (ifs_ok (k := false) (u := zR) (u' := zR) (call_ok (us := [zW, zC, .tup l]) ?_ h) rfl ?_).trans rfl
  · have hn : vBin uMul (vTup (vCons (vTup (vCons (vC (.str "send")) (vCons (vC (.int 0)) (vNil)))) (vCons (vTup (vCons (vC (.str "lose")) (vCons (vC (.int 0)) (vNil)))) (vNil)))) (vC (.int 500)) [a, b, c, d, e] = .val (.tup l) [a, b, c, d, e] := by
      show ofO (uMul (.tup [zS, zL]) (.int 500)) _ = _
      rw [hm]; rfl
    have hc : ∀ (p q r : VE), p [a, b, c, d, e] = .val zW [a, b, c, d, e] → q [a, b, c, d, e] = .val zC [a, b, c, d, e] → r [a, b, c, d, e] = .val (.tup l) [a, b, c, d, e] → vCons p (vCons q (vCons r vNil)) [a, b, c, d, e] = .val [zW, zC, .tup l] [a, b, c, d, e] := by
      intro p q r h1 h2 h3
      simp only [vCons, vNil, h1, h2, h3, ER.bind]
    exact hc _ _ _ rfl rfl hn
  · kernel_rfl
end LW
set_option Elab.async false
set_option linter.all false
set_option maxRecDepth 1000000
set_option maxHeartbeats 4000000
namespace LW
open PySem L2 DD VV
local macro_rules | `(tactic| walk_at "vv") => `(tactic| simp only [vBody, vRetD, vSkip, vSeq, vIfS, vRet, vRetN, vRetT, vAsg, vAsgT, vExpr, vParN, setAll, vAug, vSetI, vHere, vStep, vMut, slot, getP, setP, uPut, uAppend, toUO, tN, tT, tsCons, tsNil, vOr, vAnd, vNot, vTru, vTst, vBin, vUn, vOp, vCall0, vCallN, putO, mapO, vCons, vNil, vVar, vC, vTup, vLst, vIf, vChain, vOrV, vAndV, vNotV, vSl, vSlL, vSlF, voN, voS, vDic, vpCons, vpNil, keysU, keyU, vFor, vEn, vIt, vRng1, vRng2, itU, vLc, vYes, vSolid, flat, flats, ofO, ER.bind, ER.bindS, UO.then, uIsi, tyU, knownT, isiB, uCmp, uIs, uIsNot, isNonU, truU, uAdd, uSub, uMul, uDiv, uMod, uPow, uNeg, uIAdd, uCat, uRep, uLenA, lenUA, uListA, uMaxA, uMinA, vParT, tItm, vOpF, uLen, lenU, uInt, uSlice, uSliceL, uSum, uAll, uAny, uTuple, uMin, uMax, uList, uIx, seqTU, seqU, uEq_int, uNe_int, uEq_str, uNe_str, wipeU, backU, List.getD_cons_zero, List.getD_cons_succ, vNever, List.map_cons, List.map_nil, List.length_cons, List.length_nil, List.length_map, List.length_range, List.replicate, List.append_nil, List.nil_append, List.cons_append, List.set_cons_zero, List.set_cons_succ, List.set_nil, List.getElem?_cons_zero, List.getElem?_cons_succ, List.getElem?_nil, List.take_succ_cons, List.take_zero, Option.map_some, Option.map_none, Option.isSome_some, Option.bind_some, Nat.reduceAdd, Nat.reduceSub, Nat.zero_add, if_true, if_false, Bool.false_eq_true, Bool.not_true, Bool.not_false, decide_true, decide_false, reduceIte, String.reduceBEq, Bool.or_true, Bool.true_or, Bool.or_false, Bool.false_or, Bool.and_true, Bool.and_false, Bool.true_and, Bool.false_and, Bool.and_self, String.reduceBNe, decide_eq_true_eq, reduceCtorEq, and_self, Int.reducePow, Int.reduceNeg, Int.reduceSub, Int.reduceAdd, Int.reduceMul, Int.reduceLT, Int.reduceLE, Int.reduceToNat, Nat.reducePow, Nat.reduceLT, Nat.reduceLeDiff, true_and, and_true, or_true, true_or, false_or, or_false, ne_eq, not_true_eq_false, not_false_eq_true, na10, na2, okU, kk, isT, getU, dicB, eqK_str, eqK_int, eqK_si, eqK_is, tyMU, List.all_cons, List.all_nil, ofS_inj, String.reduceEq, szl, Nat.zero_le, *])
section
variable (a b c d e : Option U)
theorem s2_none : S_law_2 [a, b, some (.str "none"), none, none] = .nx [a, b, some (.str "none"), some (.int 2), none] := by kernel_rfl
theorem s2_lose : S_law_2 [a, b, some (.str "lose"), none, none] = .nx [a, b, some (.str "lose"), some (.int 2), none] := by kernel_rfl
theorem s2_double : S_law_2 [a, b, some (.str "double"), none, none] = .nx [a, b, some (.str "double"), some (.int 2), none] := by kernel_rfl
theorem s2_both : S_law_2 [a, b, some (.str "both"), none, none] = .nx [a, b, some (.str "both"), some (.int 2), none] := by kernel_rfl
theorem s3_none : S_law_3 [a, b, some (.str "none"), c, d] = .nx [a, b, some (.str "none"), c, d] := by kernel_rfl
theorem s3_lose : S_law_3 [a, b, some (.str "lose"), c, d] = .nx [a, b, some (.str "lose"), c, d] := by kernel_rfl
theorem s3_double : S_law_3 [a, b, some (.str "double"), c, d] = .nx [a, b, some (.str "double"), c, d] := by kernel_rfl
theorem s3_both : S_law_3 [a, b, some (.str "both"), c, d] = .nx [a, b, some (.str "both"), c, d] := by kernel_rfl
abbrev W331 : U := .tup [.int 3, .int 3, .int 1]
theorem s4_none : S_law_4 [a, b, some (.str "none"), c, none] = .nx [a, b, some (.str "none"), c, some W331] := by kernel_rfl
theorem s4_lose : S_law_4 [a, b, some (.str "lose"), c, none] = .nx [a, b, some (.str "lose"), c, some W331] := by kernel_rfl
theorem s4_double : S_law_4 [a, b, some (.str "double"), c, none] = .nx [a, b, some (.str "double"), c, some W331] := by kernel_rfl
theorem s4_both : S_law_4 [a, b, some (.str "both"), c, none] = .nx [a, b, some (.str "both"), c, some W331] := by kernel_rfl
theorem s6 : S_law_6 [a, b, c, d, e] = .nx [a, b, c, d, e] := by kernel_rfl
theorem s7 : S_law_7 [a, b, c, d, e] = .rt (.bl true) [a, b, c, d, e] := by kernel_rfl
end

end LW
set_option Elab.async false
set_option linter.all false
set_option maxRecDepth 1000000
set_option maxHeartbeats 4000000
namespace LW
open PySem L2 DD VV
local macro_rules | `(tactic| walk_at "vv") => `(tactic| simp only [vBody, vRetD, vSkip, vSeq, vIfS, vRet, vRetN, vRetT, vAsg, vAsgT, vExpr, vParN, setAll, vAug, vSetI, vHere, vStep, vMut, slot, getP, setP, uPut, uAppend, toUO, tN, tT, tsCons, tsNil, vOr, vAnd, vNot, vTru, vTst, vBin, vUn, vOp, vCall0, vCallN, putO, mapO, vCons, vNil, vVar, vC, vTup, vLst, vIf, vChain, vOrV, vAndV, vNotV, vSl, vSlL, vSlF, voN, voS, vDic, vpCons, vpNil, keysU, keyU, vFor, vEn, vIt, vRng1, vRng2, itU, vLc, vYes, vSolid, flat, flats, ofO, ER.bind, ER.bindS, UO.then, uIsi, tyU, knownT, isiB, uCmp, uIs, uIsNot, isNonU, truU, uAdd, uSub, uMul, uDiv, uMod, uPow, uNeg, uIAdd, uCat, uRep, uLenA, lenUA, uListA, uMaxA, uMinA, vParT, tItm, vOpF, uLen, lenU, uInt, uSlice, uSliceL, uSum, uAll, uAny, uTuple, uMin, uMax, uList, uIx, seqTU, seqU, uEq_int, uNe_int, uEq_str, uNe_str, wipeU, backU, List.getD_cons_zero, List.getD_cons_succ, vNever, List.map_cons, List.map_nil, List.length_cons, List.length_nil, List.length_map, List.length_range, List.replicate, List.append_nil, List.nil_append, List.cons_append, List.set_cons_zero, List.set_cons_succ, List.set_nil, List.getElem?_cons_zero, List.getElem?_cons_succ, List.getElem?_nil, List.take_succ_cons, List.take_zero, Option.map_some, Option.map_none, Option.isSome_some, Option.bind_some, Nat.reduceAdd, Nat.reduceSub, Nat.zero_add, if_true, if_false, Bool.false_eq_true, Bool.not_true, Bool.not_false, decide_true, decide_false, reduceIte, String.reduceBEq, Bool.or_true, Bool.true_or, Bool.or_false, Bool.false_or, Bool.and_true, Bool.and_false, Bool.true_and, Bool.false_and, Bool.and_self, String.reduceBNe, decide_eq_true_eq, reduceCtorEq, and_self, Int.reducePow, Int.reduceNeg, Int.reduceSub, Int.reduceAdd, Int.reduceMul, Int.reduceLT, Int.reduceLE, Int.reduceToNat, Nat.reducePow, Nat.reduceLT, Nat.reduceLeDiff, true_and, and_true, or_true, true_or, false_or, or_false, ne_eq, not_true_eq_false, not_false_eq_true, na10, na2, okU, kk, isT, getU, dicB, eqK_str, eqK_int, eqK_si, eqK_is, tyMU, List.all_cons, List.all_nil, ofS_inj, String.reduceEq, szl, Nat.zero_le, *])
theorem seq8 {s0 s1 s2 s3 s4 s5 s6 s7 : VS} {x u : U} {e1 e2 e3 e4 e5 e6 e7 e8 : UE} (g0 : s0 [some x, none, none, none, none] = .nx e1) (g1 : s1 e1 = .nx e2) (g2 : s2 e2 = .nx e3) (g3 : s3 e3 = .nx e4) (g4 : s4 e4 = .nx e5) (g5 : s5 e5 = .nx e6) (g6 : s6 e6 = .nx e7) (g7 : s7 e7 = .rt u e8) :
    vBody 5 0 (vSeq s0 (vSeq s1 (vSeq s2 (vSeq s3 (vSeq s4 (vSeq s5 (vSeq s6 s7))))))) [x] = .val u (e8.take 0) := by
  simp only [vBody, vSeq, List.map_cons, List.map_nil, List.length_cons, List.length_nil, List.replicate, List.cons_append, List.nil_append, List.append_nil, Nat.reduceAdd, Nat.reduceSub, g0, g1, g2, g3, g4, g5, g6, g7, UO.then]
theorem g0_ok {x m : U} (f0 : v_law_begun [x] = .val m []) : S_law_0 [some x, none, none, none, none] = .nx [some x, some m, none, none, none] := by
  unfold S_law_0
  walk_at "vv"
theorem g1_ok {x m m' : U} {k : Int} {f : Str} (f1 : v_law_next [m, .int 4] = .val (.int k) [some m']) (hk : uIx (.lst [.str "none", .str "lose", .str "double", .str "both"]) (.int k) = some (.str f)) : S_law_1 [some x, some m, none, none, none] = .nx [some x, some m', some (.str f), none, none] := by
  unfold S_law_1
  simp only [uIx] at hk
  walk_at "vv"
theorem law_true (ns : List Int) (hl : ns.length ≤ 63) : ∃ o, v_law [.fl (ns.map U.int)] = .val (.bl true) o := by
  obtain ⟨m, f0, D⟩ := begun_ok ns hl
  obtain ⟨k, m', f1, k0, k1, D'⟩ := next_ok D (by omega) (n := 4) (by decide) (by decide)
  have hk : k = 0 ∨ k = 1 ∨ k = 2 ∨ k = 3 := by omega
  generalize U.fl (ns.map U.int) = x at f0
  rcases hk with rfl | rfl | rfl | rfl
  · exact ⟨_, seq8 (g0_ok f0) (g1_ok f1 rfl) (s2_none _ _) (s3_none _ _ _ _) (s4_none _ _ _) (s5 _ _ _ _ _) (s6 _ _ _ _ _) (s7 _ _ _ _ _)⟩
  · exact ⟨_, seq8 (g0_ok f0) (g1_ok f1 rfl) (s2_lose _ _) (s3_lose _ _ _ _) (s4_lose _ _ _) (s5 _ _ _ _ _) (s6 _ _ _ _ _) (s7 _ _ _ _ _)⟩
  · exact ⟨_, seq8 (g0_ok f0) (g1_ok f1 rfl) (s2_double _ _) (s3_double _ _ _ _) (s4_double _ _ _) (s5 _ _ _ _ _) (s6 _ _ _ _ _) (s7 _ _ _ _ _)⟩
  · exact ⟨_, seq8 (g0_ok f0) (g1_ok f1 rfl) (s2_both _ _) (s3_both _ _ _ _) (s4_both _ _ _) (s5 _ _ _ _ _) (s6 _ _ _ _ _) (s7 _ _ _ _ _)⟩
end LW
set_option Elab.async false
set_option linter.all false
set_option maxRecDepth 100000
set_option maxHeartbeats 8000000
namespace LW
open PySem PySem.Spec L2 PyProof.Rows DD VV
/-! ### the head -/
def d_law_begun : He.DefD := ⟨("_law_begun", none), "_law_begun", "_law_begun", defArgs s_law_begun, defBody s_law_begun, defScope s_law_begun, [], []⟩
def d_is_whole : He.DefD := ⟨("is_whole", none), "is_whole", "is_whole", defArgs s_is_whole, defBody s_is_whole, defScope s_is_whole, [], []⟩
def d_need_window : He.DefD := ⟨("need_window", none), "need_window", "need_window", defArgs s_need_window, defBody s_need_window, defScope s_need_window, [], []⟩
def d_need_channel : He.DefD := ⟨("need_channel", none), "need_channel", "need_channel", defArgs s_need_channel, defBody s_need_channel, defScope s_need_channel, [], []⟩
def d_need_both : He.DefD := ⟨("need_both", none), "need_both", "need_both", defArgs s_need_both, defBody s_need_both, defScope s_need_both, [], []⟩
def d_first_state : He.DefD := ⟨("first_state", none), "first_state", "first_state", defArgs s_first_state, defBody s_first_state, defScope s_first_state, [], []⟩
def d_may_come_out : He.DefD := ⟨("may_come_out", none), "may_come_out", "may_come_out", defArgs s_may_come_out, defBody s_may_come_out, defScope s_may_come_out, [], []⟩
def d_deeds_of : He.DefD := ⟨("deeds_of", none), "deeds_of", "deeds_of", defArgs s_deeds_of, defBody s_deeds_of, defScope s_deeds_of, [], []⟩
def d_taken_frame : He.DefD := ⟨("taken_frame", none), "taken_frame", "taken_frame", defArgs s_taken_frame, defBody s_taken_frame, defScope s_taken_frame, [], []⟩
def d_come_out : He.DefD := ⟨("come_out", none), "come_out", "come_out", defArgs s_come_out, defBody s_come_out, defScope s_come_out, [], []⟩
def d_lowered : He.DefD := ⟨("lowered", none), "lowered", "lowered", defArgs s_lowered, defBody s_lowered, defScope s_lowered, [], []⟩
def d_all_lowered : He.DefD := ⟨("all_lowered", none), "all_lowered", "all_lowered", defArgs s_all_lowered, defBody s_all_lowered, defScope s_all_lowered, [], []⟩
def d_behind_take : He.DefD := ⟨("behind_take", none), "behind_take", "behind_take", defArgs s_behind_take, defBody s_behind_take, defScope s_behind_take, [], []⟩
def d_behind_hear : He.DefD := ⟨("behind_hear", none), "behind_hear", "behind_hear", defArgs s_behind_hear, defBody s_behind_hear, defScope s_behind_hear, [], []⟩
def d_changed_way : He.DefD := ⟨("changed_way", none), "changed_way", "changed_way", defArgs s_changed_way, defBody s_changed_way, defScope s_changed_way, [], []⟩
def d_behind : He.DefD := ⟨("behind", none), "behind", "behind", defArgs s_behind, defBody s_behind, defScope s_behind, [], []⟩
def d_searched : He.DefD := ⟨("searched", none), "searched", "searched", defArgs s_searched, defBody s_searched, defScope s_searched, [], []⟩
def d_sound_paper : He.DefD := ⟨("sound_paper", none), "sound_paper", "sound_paper", defArgs s_sound_paper, defBody s_sound_paper, defScope s_sound_paper, [], []⟩
def d_is_possible : He.DefD := ⟨("is_possible", none), "is_possible", "is_possible", defArgs s_is_possible, defBody s_is_possible, defScope s_is_possible, [], []⟩
def d_led : He.DefD := ⟨("led", none), "led", "led", defArgs s_led, defBody s_led, defScope s_led, [], []⟩
def d_run : He.DefD := ⟨("run", none), "run", "run", defArgs s_run, defBody s_run, defScope s_run, [], []⟩
def d_law_wrong_right : He.DefD := ⟨("_law_wrong_right", none), "_law_wrong_right", "_law_wrong_right", defArgs s_law_wrong_right, defBody s_law_wrong_right, defScope s_law_wrong_right, [], []⟩
def d_law_next : He.DefD := ⟨("_law_next", none), "_law_next", "_law_next", defArgs s_law_next, defBody s_law_next, defScope s_law_next, [], []⟩
def d_is_sound : He.DefD := ⟨("is_sound", none), "is_sound", "is_sound", defArgs s_is_sound, defBody s_is_sound, defScope s_is_sound, [], []⟩
def d_least_m : He.DefD := ⟨("least_m", none), "least_m", "least_m", defArgs s_least_m, defBody s_least_m, defScope s_least_m, [], []⟩
def d_law : He.DefD := ⟨("law", none), "law", "law", defArgs s_law, defBody s_law, defScope s_law, [], []⟩
def fn : List He.DefD := [d_law_begun, d_is_whole, d_need_window, d_need_channel, d_need_both, d_first_state, d_may_come_out, d_deeds_of, d_taken_frame, d_come_out, d_lowered, d_all_lowered, d_behind_take, d_behind_hear, d_changed_way, d_behind, d_searched, d_sound_paper, d_is_possible, d_led, d_run, d_law_wrong_right, d_law_next, d_is_sound, d_least_m, d_law]
def fa : List He.Fa := [.glo "_law_begun", .glo "is_whole", .glo "need_window", .glo "need_channel", .glo "need_both", .glo "first_state", .glo "may_come_out", .glo "deeds_of", .glo "taken_frame", .glo "come_out", .glo "lowered", .glo "all_lowered", .glo "behind_take", .glo "behind_hear", .glo "changed_way", .glo "behind", .glo "searched", .glo "sound_paper", .glo "is_possible", .glo "led", .glo "run", .glo "_law_wrong_right", .glo "_law_next", .glo "is_sound", .glo "least_m", .glo "law", .free "all", .free "bool", .free "enumerate", .free "int", .free "isinstance", .free "len", .free "list", .free "max", .free "range", .free "repr", .free "sorted", .free "str", .free "tuple", .int "MOST_NUMBERS" 8, .int "MOST_LAG" 3, .int "MOST_ROOM" 3, .glo "FAULTS", .str "LOSE" "lose", .str "DOUBLE" "double", .str "BOTH" "both", .int "MOST_STATES" 20000, .int "MOST_DEEDS" 1000, .str "WRONG" "wrong", .str "SOUND" "sound"]
abbrev R : PySem.W.OpenRow := PySem.W.OpenLaw.row PySem.Challenge.rw_faxhouse_k20_whole_windows_of_few_rooms
def ex (K : PySem.W.Frag) : Bool := He.tupB K "FAULTS" [.str "none", .str "lose", .str "double", .str "both"] && true
abbrev hk : PySem.W.Hook := He.hookY 4 fa fn ex
def ob (s : PySem.W.SharedT) : He.AlD × Bool := He.obsY 4 fa fn ex (HandSHeadRun.getT s)
theorem ob_eq (s : PySem.W.SharedT) : ob s = hk.obs s.abs := He.obsY_eq (HandSHeadRun.getT_eq s)
def nm0 : List PySem.Str := ["BadWindow", "OutOfPlace", "TooGreat", "MOST_NUMBERS", "MOST_LAG", "MOST_ROOM", "FAULTS", "LOSE", "DOUBLE", "BOTH", "is_whole", "need_window", "need_channel", "first_state", "lowered", "all_lowered", "come_out", "may_come_out", "deeds_of", "taken_frame"]
def nm1 : List PySem.Str := ["behind_take", "behind_hear", "changed_way", "behind", "is_possible", "MOST_STATES", "MOST_DEEDS", "WRONG", "SOUND", "searched", "need_both", "is_sound", "sound_paper", "led", "run", "least_m", "_law_begun", "_law_next", "_law_wrong_right"]
def nms : List PySem.Str := nm0 ++ nm1
theorem run (w : World) : HandSHeadRun.RunEq R (PySem.W.view R.prog [43]) hk ob 100000 nms w := by
  intro os
  kernel_rfl
theorem facts {P : Program} {w : World} {K : PySem.W.Frag} {h : Heap} {mg : MG} {f : Addr} (X : K.In h) (Gn : h.Ns mainGlobals mg) (hfa : mg ("law" : Str) = some (.ref f)) (c : He.SaysD fa fn K) (cx : ex K = true) :
    ∃ fd : FuncData, (∀ (s : Shared) (v : Value), BindsTo s fd ⟨[v], []⟩ [("_law_script", v)]) ∧ ∀ base : Heap, K.In base → base.Ns mainGlobals mg → FnG P w K mg base 8 f fd ["_law_script"] (spM mg ⟨K, w, mg, P⟩ m_law 1) := by
  obtain ⟨fd_law_begun, D_law_begun⟩ := c.def_ 0 (d := d_law_begun) rfl
  have g_law_begun := He.glo_ok X Gn (c.fact 0 (f := .glo "_law_begun") rfl)
  obtain ⟨fd_is_whole, D_is_whole⟩ := c.def_ 1 (d := d_is_whole) rfl
  have g_is_whole := He.glo_ok X Gn (c.fact 1 (f := .glo "is_whole") rfl)
  obtain ⟨fd_need_window, D_need_window⟩ := c.def_ 2 (d := d_need_window) rfl
  have g_need_window := He.glo_ok X Gn (c.fact 2 (f := .glo "need_window") rfl)
  obtain ⟨fd_need_channel, D_need_channel⟩ := c.def_ 3 (d := d_need_channel) rfl
  have g_need_channel := He.glo_ok X Gn (c.fact 3 (f := .glo "need_channel") rfl)
  obtain ⟨fd_need_both, D_need_both⟩ := c.def_ 4 (d := d_need_both) rfl
  have g_need_both := He.glo_ok X Gn (c.fact 4 (f := .glo "need_both") rfl)
  obtain ⟨fd_first_state, D_first_state⟩ := c.def_ 5 (d := d_first_state) rfl
  have g_first_state := He.glo_ok X Gn (c.fact 5 (f := .glo "first_state") rfl)
  obtain ⟨fd_may_come_out, D_may_come_out⟩ := c.def_ 6 (d := d_may_come_out) rfl
  have g_may_come_out := He.glo_ok X Gn (c.fact 6 (f := .glo "may_come_out") rfl)
  obtain ⟨fd_deeds_of, D_deeds_of⟩ := c.def_ 7 (d := d_deeds_of) rfl
  have g_deeds_of := He.glo_ok X Gn (c.fact 7 (f := .glo "deeds_of") rfl)
  obtain ⟨fd_taken_frame, D_taken_frame⟩ := c.def_ 8 (d := d_taken_frame) rfl
  have g_taken_frame := He.glo_ok X Gn (c.fact 8 (f := .glo "taken_frame") rfl)
  obtain ⟨fd_come_out, D_come_out⟩ := c.def_ 9 (d := d_come_out) rfl
  have g_come_out := He.glo_ok X Gn (c.fact 9 (f := .glo "come_out") rfl)
  obtain ⟨fd_lowered, D_lowered⟩ := c.def_ 10 (d := d_lowered) rfl
  have g_lowered := He.glo_ok X Gn (c.fact 10 (f := .glo "lowered") rfl)
  obtain ⟨fd_all_lowered, D_all_lowered⟩ := c.def_ 11 (d := d_all_lowered) rfl
  have g_all_lowered := He.glo_ok X Gn (c.fact 11 (f := .glo "all_lowered") rfl)
  obtain ⟨fd_behind_take, D_behind_take⟩ := c.def_ 12 (d := d_behind_take) rfl
  have g_behind_take := He.glo_ok X Gn (c.fact 12 (f := .glo "behind_take") rfl)
  obtain ⟨fd_behind_hear, D_behind_hear⟩ := c.def_ 13 (d := d_behind_hear) rfl
  have g_behind_hear := He.glo_ok X Gn (c.fact 13 (f := .glo "behind_hear") rfl)
  obtain ⟨fd_changed_way, D_changed_way⟩ := c.def_ 14 (d := d_changed_way) rfl
  have g_changed_way := He.glo_ok X Gn (c.fact 14 (f := .glo "changed_way") rfl)
  obtain ⟨fd_behind, D_behind⟩ := c.def_ 15 (d := d_behind) rfl
  have g_behind := He.glo_ok X Gn (c.fact 15 (f := .glo "behind") rfl)
  obtain ⟨fd_searched, D_searched⟩ := c.def_ 16 (d := d_searched) rfl
  have g_searched := He.glo_ok X Gn (c.fact 16 (f := .glo "searched") rfl)
  obtain ⟨fd_sound_paper, D_sound_paper⟩ := c.def_ 17 (d := d_sound_paper) rfl
  have g_sound_paper := He.glo_ok X Gn (c.fact 17 (f := .glo "sound_paper") rfl)
  obtain ⟨fd_is_possible, D_is_possible⟩ := c.def_ 18 (d := d_is_possible) rfl
  have g_is_possible := He.glo_ok X Gn (c.fact 18 (f := .glo "is_possible") rfl)
  obtain ⟨fd_led, D_led⟩ := c.def_ 19 (d := d_led) rfl
  have g_led := He.glo_ok X Gn (c.fact 19 (f := .glo "led") rfl)
  obtain ⟨fd_run, D_run⟩ := c.def_ 20 (d := d_run) rfl
  have g_run := He.glo_ok X Gn (c.fact 20 (f := .glo "run") rfl)
  obtain ⟨fd_law_wrong_right, D_law_wrong_right⟩ := c.def_ 21 (d := d_law_wrong_right) rfl
  have g_law_wrong_right := He.glo_ok X Gn (c.fact 21 (f := .glo "_law_wrong_right") rfl)
  obtain ⟨fd_law_next, D_law_next⟩ := c.def_ 22 (d := d_law_next) rfl
  have g_law_next := He.glo_ok X Gn (c.fact 22 (f := .glo "_law_next") rfl)
  obtain ⟨fd_is_sound, D_is_sound⟩ := c.def_ 23 (d := d_is_sound) rfl
  have g_is_sound := He.glo_ok X Gn (c.fact 23 (f := .glo "is_sound") rfl)
  obtain ⟨fd_least_m, D_least_m⟩ := c.def_ 24 (d := d_least_m) rfl
  have g_least_m := He.glo_ok X Gn (c.fact 24 (f := .glo "least_m") rfl)
  obtain ⟨fd_law, D_law⟩ := c.def_ 25 (d := d_law) rfl
  have g_law := He.glo_ok X Gn (c.fact 25 (f := .glo "law") rfl)
  have cx_FAULTS := (He.ba cx).1
  replace cx := (He.ba cx).2
  have G : Gs mg K := ⟨He.free_ok X Gn (c.fact 26 (f := .free "all") rfl),
    He.free_ok X Gn (c.fact 27 (f := .free "bool") rfl),
    He.free_ok X Gn (c.fact 28 (f := .free "enumerate") rfl),
    He.free_ok X Gn (c.fact 29 (f := .free "int") rfl),
    He.free_ok X Gn (c.fact 30 (f := .free "isinstance") rfl),
    He.free_ok X Gn (c.fact 31 (f := .free "len") rfl),
    He.free_ok X Gn (c.fact 32 (f := .free "list") rfl),
    He.free_ok X Gn (c.fact 33 (f := .free "max") rfl),
    He.free_ok X Gn (c.fact 34 (f := .free "range") rfl),
    He.free_ok X Gn (c.fact 35 (f := .free "repr") rfl),
    He.free_ok X Gn (c.fact 36 (f := .free "sorted") rfl),
    He.free_ok X Gn (c.fact 37 (f := .free "str") rfl),
    He.free_ok X Gn (c.fact 38 (f := .free "tuple") rfl),
    He.int_ok X Gn (c.fact 39 (f := .int "MOST_NUMBERS" 8) rfl),
    He.int_ok X Gn (c.fact 40 (f := .int "MOST_LAG" 3) rfl),
    He.int_ok X Gn (c.fact 41 (f := .int "MOST_ROOM" 3) rfl),
    ⟨_, He.glo_ok X Gn (c.fact 42 (f := .glo "FAULTS") rfl), fun H => He.tupB_ok cx_FAULTS H⟩,
    He.str_ok X Gn (c.fact 43 (f := .str "LOSE" "lose") rfl),
    He.str_ok X Gn (c.fact 44 (f := .str "DOUBLE" "double") rfl),
    He.str_ok X Gn (c.fact 45 (f := .str "BOTH" "both") rfl),
    He.int_ok X Gn (c.fact 46 (f := .int "MOST_STATES" 20000) rfl),
    He.int_ok X Gn (c.fact 47 (f := .int "MOST_DEEDS" 1000) rfl),
    He.str_ok X Gn (c.fact 48 (f := .str "WRONG" "wrong") rfl),
    He.str_ok X Gn (c.fact 49 (f := .str "SOUND" "sound") rfl)⟩
  have e := hfa.symm.trans g_law
  cases e
  have b := FunD.bindsA (ps := ["_law_script"]) D_law fun _ _ _ _ _ _ us hl => match us, hl with | [_], _ => rfl
  refine ⟨fd_law, fun s v => b s [v] rfl, fun base _ _ => ?_⟩
  have F_law_begun : Fn P w K mg base 1 "_law_begun" m_law_begun 1 := ok_law_begun G D_law_begun g_law_begun 
  have F_is_whole : Fn P w K mg base 1 "is_whole" m_is_whole 3 := ok_is_whole G D_is_whole g_is_whole 
  have F_need_window : Fn P w K mg base 2 "need_window" m_need_window 1 := ok_need_window G D_need_window g_need_window F_is_whole
  have F_need_channel : Fn P w K mg base 2 "need_channel" m_need_channel 1 := ok_need_channel G D_need_channel g_need_channel F_is_whole
  have F_need_both : Fn P w K mg base 3 "need_both" m_need_both 2 := ok_need_both G D_need_both g_need_both F_need_window F_need_channel
  have F_first_state : Fn P w K mg base 1 "first_state" m_first_state 0 := ok_first_state G D_first_state g_first_state 
  have F_may_come_out : Fn P w K mg base 1 "may_come_out" m_may_come_out 2 := ok_may_come_out G D_may_come_out g_may_come_out 
  have F_deeds_of : Fn P w K mg base 2 "deeds_of" m_deeds_of 3 := ok_deeds_of G D_deeds_of g_deeds_of F_may_come_out
  have F_taken_frame : Fn P w K mg base 1 "taken_frame" m_taken_frame 3 := ok_taken_frame G D_taken_frame g_taken_frame 
  have F_come_out : Fn P w K mg base 1 "come_out" m_come_out 2 := ok_come_out G D_come_out g_come_out 
  have F_lowered : Fn P w K mg base 1 "lowered" m_lowered 3 := ok_lowered G D_lowered g_lowered 
  have F_all_lowered : Fn P w K mg base 2 "all_lowered" m_all_lowered 3 := ok_all_lowered G D_all_lowered g_all_lowered F_lowered
  have F_behind_take : Fn P w K mg base 3 "behind_take" m_behind_take 3 := ok_behind_take G D_behind_take g_behind_take F_taken_frame F_come_out F_all_lowered
  have F_behind_hear : Fn P w K mg base 3 "behind_hear" m_behind_hear 3 := ok_behind_hear G D_behind_hear g_behind_hear F_come_out F_all_lowered
  have F_changed_way : Fn P w K mg base 1 "changed_way" m_changed_way 3 := ok_changed_way G D_changed_way g_changed_way 
  have F_behind : Fn P w K mg base 4 "behind" m_behind 3 := ok_behind G D_behind g_behind F_behind_take F_behind_hear F_changed_way F_lowered
  have F_searched : Fn P w K mg base 5 "searched" m_searched 2 := ok_searched G D_searched g_searched F_first_state F_deeds_of F_behind
  have F_sound_paper : Fn P w K mg base 6 "sound_paper" m_sound_paper 2 := ok_sound_paper G D_sound_paper g_sound_paper F_need_both F_searched
  have F_is_possible : Fn P w K mg base 3 "is_possible" m_is_possible 4 := ok_is_possible G D_is_possible g_is_possible F_deeds_of
  have F_led : Fn P w K mg base 5 "led" m_led 3 := ok_led G D_led g_led F_first_state F_behind F_is_possible
  have F_run : Fn P w K mg base 6 "run" m_run 3 := ok_run G D_run g_run F_need_both F_led
  have F_law_wrong_right : Fn P w K mg base 7 "_law_wrong_right" m_law_wrong_right 2 := ok_law_wrong_right G D_law_wrong_right g_law_wrong_right F_sound_paper F_run
  have F_law_next : Fn P w K mg base 1 "_law_next" m_law_next 2 := ok_law_next G D_law_next g_law_next 
  have F_is_sound : Fn P w K mg base 6 "is_sound" m_is_sound 2 := ok_is_sound G D_is_sound g_is_sound F_need_both F_searched
  have F_least_m : Fn P w K mg base 6 "least_m" m_least_m 3 := ok_least_m G D_least_m g_least_m F_need_channel F_is_whole F_searched
  exact ok_law G D_law g_law F_law_begun F_law_wrong_right F_law_next F_is_sound F_run F_least_m

end LW
open PySem PySem.W PySem.Calls PyProof.Rows
theorem PySem.Challenge.cw_faxhouse_k20_whole_windows_of_few_rooms_holds : PySem.Challenge.rw_faxhouse_k20_whole_windows_of_few_rooms.Holds := by
  w_on; o_law
  refine HandSHeadRun.head_any (r := OpenLaw.row PySem.Challenge.rw_faxhouse_k20_whole_windows_of_few_rooms) (q := view (OpenLaw.row PySem.Challenge.rw_faxhouse_k20_whole_windows_of_few_rooms).prog [43]) (H := LW.hk) (ob := LW.ob) (M := 100000) (loose := LW.nms) (d := HandSHeadRun.topDef (OpenLaw.row PySem.Challenge.rw_faxhouse_k20_whole_windows_of_few_rooms).prog 43) (kwd := []) LW.ob_eq
    (by kernel_rfl) (fun s => by kernel_rfl) LW.run (by kernel_rfl) (by kernel_rfl) (by kernel_rfl) (by rfl) (by first | assumption | decide +kernel) (by decide +kernel) ⟨rfl, rfl, rfl, rfl, rfl, by decide +kernel⟩ ?hw ?hc
  case hw => w_witness2
  case hc =>
    refine DD.walk_G (l := PySem.Challenge.rw_faxhouse_k20_whole_windows_of_few_rooms) (n := 63) (k := 8) (x := "_law_script") rfl (by decide) (by kernel_rfl) ⟨rfl, by decide, by decide⟩ ?F
    intro w mg fa h Y G hmg0
    obtain ⟨K, KX, c, cx⟩ := Y
    have hmg : mg ("law" : PySem.Str) = some (.ref fa) := by
      have e : (HandSHeadRun.topDef (OpenLaw.row PySem.Challenge.rw_faxhouse_k20_whole_windows_of_few_rooms).prog 43).name = ("law" : PySem.Str) := by kernel_rfl
      rw [← e]
      exact hmg0
    obtain ⟨fd, hb, hF⟩ := LW.facts (P := (PySem.Challenge.rw_faxhouse_k20_whole_windows_of_few_rooms).prog) (w := w) KX G hmg c cx
    exact ⟨K, fd, LW.m_law, KX, hb, fun ns hl => VV.law_of LW.sim_law (LW.law_true ns hl) nofun, hF⟩
