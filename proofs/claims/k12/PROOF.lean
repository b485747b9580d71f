import PyProof.Rows.All
import Wide.All
import OpenK.AllK
import Wide.FinOn
import HandS.ForMost
import HandS.Exc
import HandS.TryOnly
import HandS.ExcOwn
import HandS.WordsExc
import HandS.TupAny
import HandS.ExcIs
import HandS.StrMore
import HandS.Replace
import HandS.SortInts
import HandS.Conv
import KE.SortData
import HandS.SetKeys
import HandS.Style
import PyProof.SetRoads
import PyProof.Rows.SetFrom
import HandS.TupMul
import HandS.TupLe
import HandS.Deep
import HandS.IsInst
import HandS.Iter
import KE.GoesMore
import PyProof.EnumMake
import HandS.CallSlots
import HandS.HeadEnd
import HandS.HeadHook1
import HandS.HeadHook2
import HandS.EndBits
import HandS.Head0
import HandS.Head1
import HandS.Head2
import KE.KStateDown
import PySem.Challenge.RW_cutpapers_k12_large_runs
set_option Elab.async false
set_option linter.all false
set_option maxRecDepth 100000
set_option maxHeartbeats 0
/-! ## Values without addresses, a store of what may change, and how both lie in the heap -/
namespace Ip
open PySem PySem.Spec PyProof.Rows L2

/-- a value; scr: the script (read, never written); lst, dct, obj: things that are never changed any more; ref: a thing of the store -/
inductive D where
  | non | bl (b : Bool) | int (i : Int) | str (x : Str)
  | tup (xs : List D) | lst (xs : List D) | scr (ns : List Int)
  | dct (t : Nat) (ks vs : List D)
  | obj (c : Nat) (ns : List Str) (vs : List D)
  | ref (n : Nat)
inductive Ob where
  | lst (xs : List D) | dct (t : Nat) (ks vs : List D) | ins (c : Nat) (ns : List Str) (vs : List D) | dead
abbrev Sto := List Ob
abbrev En := List (Option D)
inductive Ro (α : Type) where
  | ok (a : α) (S : Sto) | ex (c : Nat) (S : Sto)
/-- addresses of the own classes, of the own exceptions' classes -/
structure Am where
  cls : Nat → Addr
  exc : Nat → Addr
abbrev Mu := Nat → Option Addr

def kD : Key → D
  | .inl i => .int i
  | .inr x => .str x

mutual
inductive RD (K : PySem.W.Frag) (M : Am) (G : Hp) (μ : Mu) : D → V → Prop
  | non : RD K M G μ .non .non
  | bl (b : Bool) : RD K M G μ (.bl b) (.bl b)
  | int (i : Int) : RD K M G μ (.int i) (.int i)
  | str (x : Str) : RD K M G μ (.str x) (.str x)
  | tup {a : Addr} {xs : List D} {ys : List V} : G a = some (.tup ys) → RDs K M G μ xs ys → RD K M G μ (.tup xs) (.ref a)
  | lst {a : Addr} {xs : List D} {ys : List V} : G a = some (.lst ys) → RDs K M G μ xs ys → RD K M G μ (.lst xs) (.ref a)
  | scr {a : Addr} {ns : List Int} : SqL K G a (ns.map V.int) → RD K M G μ (.scr ns) (.ref a)
  | dK {a : Addr} {kk : List Key} {ks vs : List D} {ys : List V} : ks = kk.map kD → kk.length = ys.length → RDs K M G μ vs ys → G a = some (.dK (kk.zip ys)) → RD K M G μ (.dct 0 ks vs) (.ref a)
  | dT {a : Addr} {kk : List (List Key)} {ks vs : List D} {ys : List V} : ks = kk.map (fun k => .tup (k.map kD)) → kk.length = ys.length → RDs K M G μ vs ys → G a = some (.dT (kk.zip ys)) → RD K M G μ (.dct 1 ks vs) (.ref a)
  | obj {a dx : Addr} {c : Nat} {ns : List Str} {vs : List D} {ys : List V} : ns.length = ys.length → RDs K M G μ vs ys → G a = some (.ins (M.cls c) dx (ns.zip ys)) → RD K M G μ (.obj c ns vs) (.ref a)
  | ref {n : Nat} {a : Addr} : μ n = some a → RD K M G μ (.ref n) (.ref a)
inductive RDs (K : PySem.W.Frag) (M : Am) (G : Hp) (μ : Mu) : List D → List V → Prop
  | nil : RDs K M G μ [] []
  | cons {d : D} {ds : List D} {v : V} {vs : List V} : RD K M G μ d v → RDs K M G μ ds vs → RDs K M G μ (d :: ds) (v :: vs)
end

/-- what grows: the things that stand still (not where the frame Φ lies), the store's places -/
structure Gr (Φ G : Hp) (μ : Mu) (G' : Hp) (μ' : Mu) : Prop where
  g : ∀ a u, G a = some u → G' a = some u
  n : ∀ a, Φ a ≠ none → G' a ≠ none → G a ≠ none
  m : ∀ n a, μ n = some a → μ' n = some a
theorem Gr.refl {Φ G : Hp} {μ : Mu} : Gr Φ G μ G μ := ⟨fun _ _ h => h, fun _ _ h => h, fun _ _ h => h⟩
theorem Gr.trans {Φ G G1 G2 : Hp} {μ μ1 μ2 : Mu} (a : Gr Φ G μ G1 μ1) (b : Gr Φ G1 μ1 G2 μ2) : Gr Φ G μ G2 μ2 :=
  ⟨fun x u h => b.g x u (a.g x u h), fun x h1 h2 => a.n x h1 (b.n x h1 h2), fun n x h => b.m n x (a.m n x h)⟩

theorem SqL.grow {K : PySem.W.Frag} {G G' : Hp} {a : Addr} {xs : List V} (h : SqL K G a xs) (g : ∀ a u, G a = some u → G' a = some u) : SqL K G' a xs := by
  rcases h with h | h
  · rcases h with h | ⟨o, h⟩
    · exact .inl (.inl (g _ _ h))
    · exact .inl (.inr ⟨o, g _ _ h⟩)
  · exact .inr h
section
variable {K : PySem.W.Frag} {M : Am} {G G' : Hp} {μ μ' : Mu}
mutual
theorem RD.grow (g : ∀ a u, G a = some u → G' a = some u) (m : ∀ n a, μ n = some a → μ' n = some a) : ∀ (d : D) (v : V), RD K M G μ d v → RD K M G' μ' d v
  | .non, _, .non => .non
  | .bl b, _, .bl _ => .bl b
  | .int i, _, .int _ => .int i
  | .str x, _, .str _ => .str x
  | .tup xs, _, .tup h r => .tup (g _ _ h) (RDs.grow g m xs _ r)
  | .lst xs, _, .lst h r => .lst (g _ _ h) (RDs.grow g m xs _ r)
  | .scr ns, _, .scr h => .scr (SqL.grow h g)
  | .dct _ ks vs, _, .dK e l r h => .dK e l (RDs.grow g m vs _ r) (g _ _ h)
  | .dct _ ks vs, _, .dT e l r h => .dT e l (RDs.grow g m vs _ r) (g _ _ h)
  | .obj c ns vs, _, .obj l r h => .obj l (RDs.grow g m vs _ r) (g _ _ h)
  | .ref n, _, .ref h => .ref (m _ _ h)
theorem RDs.grow (g : ∀ a u, G a = some u → G' a = some u) (m : ∀ n a, μ n = some a → μ' n = some a) : ∀ (ds : List D) (vs : List V), RDs K M G μ ds vs → RDs K M G' μ' ds vs
  | [], _, .nil => .nil
  | d :: ds, _, .cons h r => .cons (RD.grow g m d _ h) (RDs.grow g m ds _ r)
end
theorem RDs.length : ∀ {ds : List D} {vs : List V}, RDs K M G μ ds vs → ds.length = vs.length
  | _, _, .nil => rfl
  | _, _, .cons _ r => by rw [List.length_cons, List.length_cons, RDs.length r]
theorem RDs.get : ∀ {ds : List D} {vs : List V} {i : Nat} {d : D}, RDs K M G μ ds vs → ds[i]? = some d → ∃ v, vs[i]? = some v ∧ RD K M G μ d v
  | _, _, _, _, .nil, e => by simp at e
  | _, _, 0, _, .cons h _, e => by simp at e; subst e; exact ⟨_, rfl, h⟩
  | _, _, i + 1, d, .cons _ r, e => by
    obtain ⟨v, h1, h2⟩ := RDs.get (i := i) (d := d) r (by simpa using e)
    exact ⟨v, by simpa using h1, h2⟩
theorem RDs.getV : ∀ {ds : List D} {vs : List V} {i : Nat} {v : V}, RDs K M G μ ds vs → vs[i]? = some v → ∃ d, ds[i]? = some d ∧ RD K M G μ d v
  | _, _, _, _, .nil, e => by simp at e
  | _, _, 0, _, .cons h _, e => by simp at e; subst e; exact ⟨_, rfl, h⟩
  | _, _, i + 1, d, .cons _ r, e => by
    obtain ⟨v, h1, h2⟩ := RDs.getV (i := i) r (by simpa using e)
    exact ⟨v, by simpa using h1, h2⟩
theorem RDs.append : ∀ {ds es : List D} {vs us : List V}, RDs K M G μ ds vs → RDs K M G μ es us → RDs K M G μ (ds ++ es) (vs ++ us)
  | _, _, _, _, .nil, s => s
  | _, _, _, _, .cons h r, s => .cons h (RDs.append r s)
theorem RDs.set {d : D} {v : V} (h : RD K M G μ d v) : ∀ {ds : List D} {vs : List V} (i : Nat), RDs K M G μ ds vs → RDs K M G μ (ds.set i d) (vs.set i v)
  | _, _, _, .nil => .nil
  | _, _, 0, .cons _ r => .cons h r
  | _, _, i + 1, .cons q r => .cons q (RDs.set h i r)
theorem RDs.take : ∀ {ds : List D} {vs : List V} (n : Nat), RDs K M G μ ds vs → RDs K M G μ (ds.take n) (vs.take n)
  | _, _, 0, _ => .nil
  | _, _, _ + 1, .nil => .nil
  | _, _, n + 1, .cons h r => .cons h (RDs.take n r)
theorem RDs.drop : ∀ {ds : List D} {vs : List V} (n : Nat), RDs K M G μ ds vs → RDs K M G μ (ds.drop n) (vs.drop n)
  | _, _, 0, r => r
  | _, _, _ + 1, .nil => .nil
  | _, _, n + 1, .cons _ r => RDs.drop n r
theorem RDs.eraseIdx : ∀ {ds : List D} {vs : List V} (n : Nat), RDs K M G μ ds vs → RDs K M G μ (ds.eraseIdx n) (vs.eraseIdx n)
  | _, _, _, .nil => .nil
  | _, _, 0, .cons _ r => r
  | _, _, n + 1, .cons h r => .cons h (RDs.eraseIdx n r)
theorem RDs.dropLast : ∀ {ds : List D} {vs : List V}, RDs K M G μ ds vs → RDs K M G μ ds.dropLast vs.dropLast := fun {ds vs} r => by
  rw [List.dropLast_eq_take, List.dropLast_eq_take, r.length]
  exact r.take _
theorem RDs.reverse : ∀ {ds : List D} {vs : List V}, RDs K M G μ ds vs → RDs K M G μ ds.reverse vs.reverse
  | _, _, .nil => .nil
  | _, _, .cons h r => by
    rw [List.reverse_cons, List.reverse_cons]
    exact (RDs.reverse r).append (.cons h .nil)
theorem RDs.replicate {ds : List D} {vs : List V} (r : RDs K M G μ ds vs) : ∀ n : Nat, RDs K M G μ (List.replicate n ds).flatten (List.replicate n vs).flatten
  | 0 => .nil
  | n + 1 => by
    rw [List.replicate_succ, List.replicate_succ, List.flatten_cons, List.flatten_cons]
    exact r.append (RDs.replicate r n)
theorem RDs.ints : ∀ ns : List Int, RDs K M G μ (ns.map D.int) (ns.map V.int)
  | [] => .nil
  | n :: ns => .cons (.int n) (RDs.ints ns)
theorem RDs.of_ints : ∀ {ns : List Int} {vs : List V}, RDs K M G μ (ns.map D.int) vs → vs = ns.map V.int
  | [], _, .nil => rfl
  | n :: ns, _, .cons h r => by cases h; rw [List.map_cons, RDs.of_ints r]
theorem RDs.of_strs : ∀ {ns : List Str} {vs : List V}, RDs K M G μ (ns.map D.str) vs → vs = ns.map V.str
  | [], _, .nil => rfl
  | n :: ns, _, .cons h r => by cases h; rw [List.map_cons, RDs.of_strs r]
theorem RDs.of_bls : ∀ {ns : List Bool} {vs : List V}, RDs K M G μ (ns.map D.bl) vs → vs = ns.map V.bl
  | [], _, .nil => rfl
  | n :: ns, _, .cons h r => by cases h; rw [List.map_cons, RDs.of_bls r]
end

/-! ### the store in the heap -/
/-- what stands still may be locked, if it is a dict -/
def Lk (H : Hp) (a : Addr) (u : HO) : Prop := H a = some u ∨ ((∃ k, u = .dK k) ∨ ∃ k, u = .dT k) ∧ ∃ o, H a = some (.frz o u)
def OR (K : PySem.W.Frag) (M : Am) (G : Hp) (μ : Mu) (H : Hp) : Ob → Addr → Prop
  | .lst xs, a => ∃ ys, H a = some (.lst ys) ∧ RDs K M G μ xs ys
  | .dct t ks vs, a => (t = 0 ∧ ∃ (kk : List Key) (ys : List V), ks = kk.map kD ∧ kk.length = ys.length ∧ RDs K M G μ vs ys ∧ H a = some (.dK (kk.zip ys))) ∨
      t = 1 ∧ ∃ (kk : List (List Key)) (ys : List V), ks = kk.map (fun k => .tup (k.map kD)) ∧ kk.length = ys.length ∧ RDs K M G μ vs ys ∧ H a = some (.dT (kk.zip ys))
  | .ins c ns vs, a => ∃ dx ys, ns.length = ys.length ∧ RDs K M G μ vs ys ∧ H a = some (.ins (M.cls c) dx (ns.zip ys))
  | .dead, _ => True
structure Rel (K : PySem.W.Frag) (M : Am) (G Φ : Hp) (μ : Mu) (S : Sto) (H : Hp) : Prop where
  g : ∀ a u, G a = some u → Lk H a u
  f : ∀ a o, Φ a = some o → H a = some o
  s : ∀ n ob, S[n]? = some ob → ∃ a, μ n = some a ∧ OR K M G μ H ob a
  gm : ∀ n a ob, S[n]? = some ob → ob ≠ .dead → μ n = some a → G a = none ∧ Φ a = none
  inj : ∀ m n a, μ m = some a → μ n = some a → m = n
  ub : ∀ n a, μ n = some a → n < S.length
  th : ∀ n a, μ n = some a → H a ≠ none
  fm : ∀ n a, μ n = some a → G a = none → Φ a = none
  ft : ∀ a xs, Φ a ≠ some (.tup xs)
  fg : ∀ a o, Φ a = some o → G a ≠ none → ∃ q u, o = .frz q u
  dg : ∀ n a, S[n]? = some .dead → μ n = some a → G a ≠ none
def OpR1 (K : PySem.W.Frag) (M : Am) (G : Hp) (μ : Mu) : Option D → Option V → Prop
  | some d, some v => RD K M G μ d v
  | some _, none => False
  | none, _ => True
structure EnR (K : PySem.W.Frag) (M : Am) (G : Hp) (μ : Mu) (env : En) (σ : L2.St) : Prop where
  len : env.length = σ.length
  at_ : ∀ (i : Nat) (d : D), env[i]? = some (some d) → ∃ v, σ[i]? = some (some v) ∧ RD K M G μ d v
section
variable {K : PySem.W.Frag} {M : Am} {G G' Φ : Hp} {μ μ' : Mu} {env : En} {σ : L2.St}
theorem EnR.grow (e : EnR K M G μ env σ) (g : Gr Φ G μ G' μ') : EnR K M G' μ' env σ :=
  ⟨e.len, fun i d h => by obtain ⟨v, h1, h2⟩ := e.at_ i d h; exact ⟨v, h1, RD.grow g.g g.m _ _ h2⟩⟩
theorem EnR.set {i : Nat} {d : D} {v : V} (e : EnR K M G μ env σ) (h : RD K M G μ d v) : EnR K M G μ (env.set i (some d)) (σ.set i (some v)) := by
  refine ⟨by rw [List.length_set, List.length_set, e.len], fun j d' hj => ?_⟩
  by_cases hij : i = j
  · subst hij
    by_cases hl : i < env.length
    · rw [List.getElem?_set_self hl] at hj
      cases hj
      exact ⟨v, List.getElem?_set_self (e.len ▸ hl), h⟩
    · rw [List.getElem?_eq_none (by simpa using hl)] at hj
      cases hj
  · rw [List.getElem?_set_ne hij] at hj
    rw [List.getElem?_set_ne hij]
    exact e.at_ j d' hj
theorem EnR.unset {i : Nat} (e : EnR K M G μ env σ) : EnR K M G μ (env.set i none) (σ.set i none) := by
  refine ⟨by rw [List.length_set, List.length_set, e.len], fun j d' hj => ?_⟩
  by_cases hij : i = j
  · subst hij
    by_cases hl : i < env.length
    · rw [List.getElem?_set_self hl] at hj
      cases hj
    · rw [List.getElem?_eq_none (by simpa using hl)] at hj
      cases hj
  · rw [List.getElem?_set_ne hij] at hj
    rw [List.getElem?_set_ne hij]
    exact e.at_ j d' hj
theorem EnR.forget {i : Nat} (e : EnR K M G μ env σ) : EnR K M G μ (env.set i none) σ := by
  refine ⟨by rw [List.length_set, e.len], fun j d' hj => ?_⟩
  by_cases hij : i = j
  · subst hij
    by_cases hl : i < env.length
    · rw [List.getElem?_set_self hl] at hj
      cases hj
    · rw [List.getElem?_eq_none (by simpa using hl)] at hj
      cases hj
  · rw [List.getElem?_set_ne hij] at hj
    exact e.at_ j d' hj
end

/-! ### what changes -/
section
variable {K : PySem.W.Frag} {M : Am} {G G' Φ : Hp} {μ μ' : Mu} {S : Sto} {H H' : Hp}
theorem Lk.upd {a p : Addr} {u o : HO} (h : Lk H a u) (hp : a ≠ p) : Lk (upd H p o) a u := by
  rcases h with h | ⟨q, ob, h⟩
  · exact .inl (by rw [upd_ne hp]; exact h)
  · exact .inr ⟨q, ob, by rw [upd_ne hp]; exact h⟩
theorem Lk.some_ {a : Addr} {u : HO} (h : Lk H a u) : H a ≠ none := by
  rcases h with h | ⟨_, o, h⟩ <;> rw [h] <;> exact fun z => nomatch z
theorem Lk.tup {a : Addr} {xs : List V} (h : Lk H a (.tup xs)) : H a = some (.tup xs) := by
  rcases h with h | ⟨h | h, _⟩
  · exact h
  · obtain ⟨_, h⟩ := h; cases h
  · obtain ⟨_, h⟩ := h; cases h
theorem Lk.lst {a : Addr} {xs : List V} (h : Lk H a (.lst xs)) : H a = some (.lst xs) := by
  rcases h with h | ⟨h | h, _⟩
  · exact h
  · obtain ⟨_, h⟩ := h; cases h
  · obtain ⟨_, h⟩ := h; cases h
theorem Lk.ins {a C dx : Addr} {fs : List (Str × V)} (h : Lk H a (.ins C dx fs)) : H a = some (.ins C dx fs) := by
  rcases h with h | ⟨h | h, _⟩
  · exact h
  · obtain ⟨_, h⟩ := h; cases h
  · obtain ⟨_, h⟩ := h; cases h
theorem Lk.frz {a : Addr} {o : Obj} {u : HO} (h : Lk H a (.frz o u)) : H a = some (.frz o u) := by
  rcases h with h | ⟨h | h, _⟩
  · exact h
  · obtain ⟨_, h⟩ := h; cases h
  · obtain ⟨_, h⟩ := h; cases h
theorem Lk.rd {a : Addr} {u : HO} (h : Lk H a u) : Rd H a u := by
  rcases h with h | ⟨_, o, h⟩
  · exact .inl h
  · exact .inr ⟨o, h⟩
theorem OR.grow {ob : Ob} {a : Addr} (h : OR K M G μ H ob a) (g : ∀ a u, G a = some u → G' a = some u) (m : ∀ n a, μ n = some a → μ' n = some a) : OR K M G' μ' H ob a := by
  cases ob with
  | lst xs => obtain ⟨ys, h1, h2⟩ := h; exact ⟨ys, h1, RDs.grow g m _ _ h2⟩
  | dct t ks vs =>
    rcases h with ⟨t0, kk, ys, e, l, r, h⟩ | ⟨t0, kk, ys, e, l, r, h⟩
    · exact .inl ⟨t0, kk, ys, e, l, RDs.grow g m _ _ r, h⟩
    · exact .inr ⟨t0, kk, ys, e, l, RDs.grow g m _ _ r, h⟩
  | ins c ns vs => obtain ⟨dx, ys, l, r, h⟩ := h; exact ⟨dx, ys, l, RDs.grow g m _ _ r, h⟩
  | dead => trivial
theorem OR.heap {ob : Ob} {a : Addr} (h : OR K M G μ H ob a) (e : H' a = H a) : OR K M G μ H' ob a := by
  cases ob with
  | lst xs => obtain ⟨ys, h1, h2⟩ := h; exact ⟨ys, e.trans h1, h2⟩
  | dct t ks vs =>
    rcases h with ⟨t0, kk, ys, e1, l, r, h⟩ | ⟨t0, kk, ys, e1, l, r, h⟩
    · exact .inl ⟨t0, kk, ys, e1, l, r, e.trans h⟩
    · exact .inr ⟨t0, kk, ys, e1, l, r, e.trans h⟩
  | ins c ns vs => obtain ⟨dx, ys, l, r, h⟩ := h; exact ⟨dx, ys, l, r, e.trans h⟩
  | dead => trivial
theorem OR.there {ob : Ob} {a : Addr} (h : OR K M G μ H ob a) (hd : ob ≠ .dead) : H a ≠ none := by
  cases ob with
  | lst xs => obtain ⟨ys, h1, h2⟩ := h; rw [h1]; exact fun z => nomatch z
  | dct t ks vs =>
    rcases h with ⟨_, kk, ys, e1, l, r, h⟩ | ⟨_, kk, ys, e1, l, r, h⟩ <;> rw [h] <;> exact fun z => nomatch z
  | ins c ns vs => obtain ⟨dx, ys, l, r, h⟩ := h; rw [h]; exact fun z => nomatch z
  | dead => exact absurd rfl hd
theorem Rel.gnew {p : Addr} (r : Rel K M G Φ μ S H) (hp : H p = none) : G p = none := by
  cases e : G p with
  | none => rfl
  | some u => exact absurd hp (r.g p u e).some_
theorem Rel.fnew {p : Addr} (r : Rel K M G Φ μ S H) (hp : H p = none) : Φ p = none := by
  cases e : Φ p with
  | none => rfl
  | some u => rw [r.f p u e] at hp; cases hp
/-- a new thing at p that stands still -/
theorem Rel.still {p : Addr} {u : HO} (r : Rel K M G Φ μ S H) (hp : H p = none) : Rel K M (upd G p u) Φ μ S (upd H p u) ∧ Gr Φ G μ (upd G p u) μ := by
  have hg := r.gnew hp
  have hf := r.fnew hp
  have gg : ∀ a w, G a = some w → upd G p u a = some w := fun a w e => by
    rw [upd_ne (fun z => by rw [z, hg] at e; cases e)]; exact e
  refine ⟨⟨fun a w e => ?_, fun a o e => ?_, fun n ob e => ?_, fun n a ob e hd em => ?_, r.inj, r.ub, fun n a em => ?_, fun n a em hg' => r.fm n a em (by
    by_cases ha : a = p
    · subst ha; exact hg
    · rw [upd_ne ha] at hg'; exact hg'), r.ft, fun a o e hg' => r.fg a o e (by
    by_cases ha : a = p
    · subst ha; rw [hf] at e; cases e
    · rw [upd_ne ha] at hg'; exact hg'), fun n a e em => by
    by_cases ha : a = p
    · subst ha; rw [upd_same]; exact fun z => nomatch z
    · rw [upd_ne ha]; exact r.dg n a e em⟩, gg, fun a h1 h2 => ?_, fun _ _ h => h⟩
  · by_cases ha : a = p
    · subst ha; rw [upd_same] at e; cases e; exact .inl upd_same
    · rw [upd_ne ha] at e; exact (r.g a w e).upd ha
  · rw [upd_ne (fun z => by rw [z, hf] at e; cases e)]; exact r.f a o e
  · obtain ⟨a, em, h⟩ := r.s n ob e
    refine ⟨a, em, ?_⟩
    by_cases hd : ob = .dead
    · subst hd; trivial
    · have ha : a ≠ p := fun z => h.there hd (by rw [z]; exact hp)
      exact (h.grow gg (fun _ _ h => h)).heap (upd_ne ha)
  · obtain ⟨h1, h2⟩ := r.gm n a ob e hd em
    obtain ⟨a', em', h⟩ := r.s n ob e
    rw [em] at em'; cases em'
    have ha : a ≠ p := fun z => h.there hd (by rw [z]; exact hp)
    exact ⟨by rw [upd_ne ha]; exact h1, h2⟩
  · rw [upd_ne (fun z => r.th n a em (by rw [z]; exact hp))]; exact r.th n a em
  · by_cases ha : a = p
    · subst ha; exact absurd hf h1
    · rw [upd_ne ha] at h2; exact h2
def muAdd (μ : Mu) (n : Nat) (p : Addr) : Mu := fun m => if m = n then some p else μ m
/-- a new thing at p that may change: the store's next -/
theorem Rel.fresh {p : Addr} {u : HO} {ob : Ob} (r : Rel K M G Φ μ S H) (hp : H p = none) (ho : OR K M G (muAdd μ S.length p) (upd H p u) ob p) (hnd : ob ≠ .dead := by exact fun z => nomatch z) : Rel K M G Φ (muAdd μ S.length p) (S ++ [ob]) (upd H p u) ∧ Gr Φ G μ G (muAdd μ S.length p) := by
  have hg := r.gnew hp
  have hf := r.fnew hp
  have hm : ∀ n, μ n ≠ some p := fun n e => r.th n p e hp
  have mm : ∀ n a, μ n = some a → muAdd μ S.length p n = some a := fun n a e => by
    unfold muAdd
    rw [if_neg (fun z => by have := r.ub n a e; omega)]
    exact e
  have mn : muAdd μ S.length p S.length = some p := by unfold muAdd; rw [if_pos rfl]
  have mo : ∀ n, n ≠ S.length → muAdd μ S.length p n = μ n := fun n h => by unfold muAdd; rw [if_neg h]
  refine ⟨⟨fun a w e => (r.g a w e).upd (fun z => by rw [z, hg] at e; cases e), fun a o e => ?_, fun n o e => ?_, fun n a o e hd em => ?_, fun m n a h1 h2 => ?_, fun n a e => ?_, fun n a e => ?_, fun n a e hg' => ?_, r.ft, r.fg, fun n a e em => by
    by_cases hn : n = S.length
    · subst hn
      rw [List.getElem?_append_right (Nat.le_refl _), Nat.sub_self] at e
      exact absurd (Option.some.inj e) hnd
    · have hl : n < S.length := by
        have := (List.getElem?_eq_some_iff.mp e).1
        rw [List.length_append, List.length_singleton] at this
        omega
      rw [List.getElem?_append_left hl] at e
      rw [mo n hn] at em
      exact r.dg n a e em⟩, fun _ _ h => h, fun _ _ h => h, mm⟩
  · rw [upd_ne (fun z => by rw [z, hf] at e; cases e)]; exact r.f a o e
  · by_cases hn : n = S.length
    · subst hn
      rw [List.getElem?_append_right (Nat.le_refl _), Nat.sub_self] at e
      cases e
      exact ⟨p, mn, ho⟩
    · have hl : n < S.length := by
        have := (List.getElem?_eq_some_iff.mp e).1
        rw [List.length_append, List.length_singleton] at this
        omega
      rw [List.getElem?_append_left hl] at e
      obtain ⟨a, em, h⟩ := r.s n o e
      refine ⟨a, mm _ _ em, ?_⟩
      have ha : a ≠ p := fun z => hm n (by rw [em, z])
      exact (h.grow (fun _ _ h => h) mm).heap (upd_ne ha)
  · by_cases hn : n = S.length
    · subst hn
      rw [mn] at em; cases em
      exact ⟨hg, hf⟩
    · have hl : n < S.length := by
        have := (List.getElem?_eq_some_iff.mp e).1
        rw [List.length_append, List.length_singleton] at this
        omega
      rw [List.getElem?_append_left hl] at e
      rw [mo n hn] at em
      exact r.gm n a o e hd em
  · by_cases h : m = S.length <;> by_cases h' : n = S.length
    · rw [h, h']
    · rw [h, mn] at h1; rw [mo n h'] at h2; cases h1; exact absurd h2 (hm n)
    · rw [h', mn] at h2; rw [mo m h] at h1; cases h2; exact absurd h1 (hm m)
    · rw [mo m h] at h1; rw [mo n h'] at h2; exact r.inj m n a h1 h2
  · rw [List.length_append, List.length_singleton]
    by_cases hn : n = S.length
    · omega
    · rw [mo n hn] at e; have := r.ub n a e; omega
  · by_cases hn : n = S.length
    · rw [hn, mn] at e; cases e; rw [upd_same]; exact fun z => nomatch z
    · rw [mo n hn] at e
      rw [upd_ne (fun z => hm n (by rw [e, z]))]; exact r.th n a e
  · by_cases hn : n = S.length
    · rw [hn, mn] at e; cases e; exact hf
    · rw [mo n hn] at e; exact r.fm n a e hg'
/-- a thing of the store is written -/
theorem Rel.write {n : Nat} {a : Addr} {ob ob' : Ob} {u : HO} (r : Rel K M G Φ μ S H) (hs : S[n]? = some ob) (hd : ob ≠ .dead) (hn : μ n = some a) (ho : OR K M G μ (upd H a u) ob' a) (hnd : ob' ≠ .dead := by exact fun z => nomatch z) : Rel K M G Φ μ (S.set n ob') (upd H a u) := by
  obtain ⟨hg, hf⟩ := r.gm n a ob hs hd hn
  have hl : n < S.length := (List.getElem?_eq_some_iff.mp hs).1
  refine ⟨fun b w e => (r.g b w e).upd (fun z => by rw [z, hg] at e; cases e), fun b o e => ?_, fun m o e => ?_, fun m b o e hd' em => ?_, r.inj, fun m b e => ?_, fun m b e => ?_, r.fm, r.ft, r.fg, fun m b e em => by
    by_cases hm : n = m
    · subst hm
      rw [List.getElem?_set_self hl] at e
      exact absurd (Option.some.inj e) hnd
    · rw [List.getElem?_set_ne hm] at e
      exact r.dg m b e em⟩
  · rw [upd_ne (fun z => by rw [z, hf] at e; cases e)]; exact r.f b o e
  · by_cases hm : n = m
    · subst hm
      rw [List.getElem?_set_self hl] at e; cases e
      exact ⟨a, hn, ho⟩
    · rw [List.getElem?_set_ne hm] at e
      obtain ⟨b, em, h⟩ := r.s m o e
      have hb : b ≠ a := fun z => hm (r.inj n m a hn (by rw [em, z]))
      exact ⟨b, em, h.heap (upd_ne hb)⟩
  · by_cases hm : n = m
    · subst hm
      rw [hn] at em; cases em; exact ⟨hg, hf⟩
    · rw [List.getElem?_set_ne hm] at e
      exact r.gm m b o e hd' em
  · rw [List.length_set]; exact r.ub m b e
  · by_cases hb : b = a
    · subst hb; rw [upd_same]; exact fun z => nomatch z
    · rw [upd_ne hb]; exact r.th m b e
/-- a new thing at p that is another's -/
theorem Rel.frame {p : Addr} {u : HO} (r : Rel K M G Φ μ S H) (hp : H p = none) (hu : ∀ xs, u ≠ .tup xs := by intro xs z; cases z) : Rel K M G (L2.upd Φ p u) μ S (L2.upd H p u) := by
  have hg := r.gnew hp
  have hm : ∀ n, μ n ≠ some p := fun n e => r.th n p e hp
  refine ⟨fun a w e => (r.g a w e).upd (fun z => by rw [z, hg] at e; cases e), fun a o e => ?_, fun n ob e => ?_, fun n a ob e hd em => ?_, r.inj, r.ub, fun n a e => ?_, fun n a e hg' => ?_, fun a xs e => by
    by_cases ha : a = p
    · subst ha; rw [upd_same] at e; exact hu xs (Option.some.inj e)
    · rw [upd_ne ha] at e; exact r.ft a xs e, fun a o e hg' => by
    by_cases ha : a = p
    · subst ha; exact absurd hg hg'
    · rw [upd_ne ha] at e; exact r.fg a o e hg', r.dg⟩
  · by_cases ha : a = p
    · subst ha; rw [upd_same] at e ⊢; exact e
    · rw [upd_ne ha] at e ⊢; exact r.f a o e
  · obtain ⟨a, em, h⟩ := r.s n ob e
    exact ⟨a, em, h.heap (upd_ne (fun z => hm n (by rw [em, z])))⟩
  · obtain ⟨h1, h2⟩ := r.gm n a ob e hd em
    exact ⟨h1, by rw [upd_ne (fun z => hm n (by rw [em, z]))]; exact h2⟩
  · rw [upd_ne (fun z => hm n (by rw [e, z]))]; exact r.th n a e
  · rw [upd_ne (fun z => hm n (by rw [e, z]))]; exact r.fm n a e hg'
/-- another's thing is written -/
theorem Rel.reframe {p : Addr} {u u' : HO} (r : Rel K M G (L2.upd Φ p u) μ S H) (hg : G p = none) (hu : ∀ xs, u' ≠ .tup xs := by intro xs z; cases z) : Rel K M G (L2.upd Φ p u') μ S (L2.upd H p u') := by
  have hm : ∀ n, μ n ≠ some p := fun n e => by have := r.fm n p e hg; rw [upd_same] at this; cases this
  refine ⟨fun a w e => (r.g a w e).upd (fun z => by rw [z, hg] at e; cases e), fun a o e => ?_, fun n ob e => ?_, fun n a ob e hd em => ?_, r.inj, r.ub, fun n a e => ?_, fun n a e hg' => ?_, fun a xs e => by
    by_cases ha : a = p
    · subst ha; rw [upd_same] at e; exact hu xs (Option.some.inj e)
    · rw [upd_ne ha] at e; exact r.ft a xs (by rw [upd_ne ha]; exact e), fun a o e hg' => by
    by_cases ha : a = p
    · subst ha; exact absurd hg hg'
    · rw [upd_ne ha] at e; exact r.fg a o (by rw [upd_ne ha]; exact e) hg', r.dg⟩
  · by_cases ha : a = p
    · subst ha; rw [upd_same] at e ⊢; exact e
    · rw [upd_ne ha] at e ⊢; exact r.f a o (by rw [upd_ne ha]; exact e)
  · obtain ⟨a, em, h⟩ := r.s n ob e
    exact ⟨a, em, h.heap (upd_ne (fun z => hm n (by rw [em, z])))⟩
  · obtain ⟨h1, h2⟩ := r.gm n a ob e hd em
    have ha : a ≠ p := fun z => hm n (by rw [em, z])
    exact ⟨h1, by rw [upd_ne ha] at h2 ⊢; exact h2⟩
  · rw [upd_ne (fun z => hm n (by rw [e, z]))]; exact r.th n a e
  · have ha : a ≠ p := fun z => hm n (by rw [e, z])
    have := r.fm n a e hg'
    rw [upd_ne ha] at this ⊢; exact this
/-- another's thing is from now on one that stands still -/
theorem Rel.toStill {p : Addr} {u : HO} (r : Rel K M G (L2.upd Φ p u) μ S H) (hg : G p = none) (hf : Φ p = none) : Rel K M (L2.upd G p u) Φ μ S H ∧ Gr Φ G μ (L2.upd G p u) μ := by
  have hm : ∀ n, μ n ≠ some p := fun n e => by have := r.fm n p e hg; rw [upd_same] at this; cases this
  have gg : ∀ a w, G a = some w → L2.upd G p u a = some w := fun a w e => by
    rw [upd_ne (fun z => by rw [z, hg] at e; cases e)]; exact e
  refine ⟨⟨fun a w e => ?_, fun a o e => ?_, fun n ob e => ?_, fun n a ob e hd em => ?_, r.inj, r.ub, r.th, fun n a e hg' => ?_, fun a xs e => by
    by_cases ha : a = p
    · subst ha; rw [hf] at e; cases e
    · exact r.ft a xs (by rw [upd_ne ha]; exact e), fun a o e hg' => by
    by_cases ha : a = p
    · subst ha; rw [hf] at e; cases e
    · rw [upd_ne ha] at hg'; exact r.fg a o (by rw [upd_ne ha]; exact e) hg', fun n a e em => by
    by_cases ha : a = p
    · subst ha; rw [upd_same]; exact fun z => nomatch z
    · rw [upd_ne ha]; exact r.dg n a e em⟩, gg, fun a h1 h2 => ?_, fun _ _ h => h⟩
  · by_cases ha : a = p
    · subst ha; rw [upd_same] at e; cases e; exact .inl (r.f _ _ upd_same)
    · rw [upd_ne ha] at e; exact r.g a w e
  · by_cases ha : a = p
    · subst ha; rw [hf] at e; cases e
    · exact r.f a o (by rw [upd_ne ha]; exact e)
  · obtain ⟨a, em, h⟩ := r.s n ob e
    exact ⟨a, em, h.grow gg (fun _ _ h => h)⟩
  · obtain ⟨h1, h2⟩ := r.gm n a ob e hd em
    have ha : a ≠ p := fun z => hm n (by rw [em, z])
    exact ⟨by rw [upd_ne ha]; exact h1, by rw [upd_ne ha] at h2; exact h2⟩
  · have ha : a ≠ p := fun z => hm n (by rw [e, z])
    rw [upd_ne ha] at hg'
    have := r.fm n a e hg'
    rw [upd_ne ha] at this; exact this
  · by_cases ha : a = p
    · subst ha; exact absurd hf h1
    · rw [upd_ne ha] at h2; exact h2
/-- .. or the store's next -/
theorem Rel.toStore {p : Addr} {u : HO} {ob : Ob} (r : Rel K M G (L2.upd Φ p u) μ S H) (hg : G p = none) (hf : Φ p = none) (ho : OR K M G (muAdd μ S.length p) H ob p) (hnd : ob ≠ .dead := by exact fun z => nomatch z) : Rel K M G Φ (muAdd μ S.length p) (S ++ [ob]) H ∧ Gr Φ G μ G (muAdd μ S.length p) := by
  have hm : ∀ n, μ n ≠ some p := fun n e => by have := r.fm n p e hg; rw [upd_same] at this; cases this
  have mm : ∀ n a, μ n = some a → muAdd μ S.length p n = some a := fun n a e => by
    unfold muAdd
    rw [if_neg (fun z => by have := r.ub n a e; omega)]
    exact e
  have mn : muAdd μ S.length p S.length = some p := by unfold muAdd; rw [if_pos rfl]
  have mo : ∀ n, n ≠ S.length → muAdd μ S.length p n = μ n := fun n h => by unfold muAdd; rw [if_neg h]
  have fo : ∀ a, a ≠ p → L2.upd Φ p u a = none → Φ a = none := fun a h e => by rw [upd_ne h] at e; exact e
  refine ⟨⟨r.g, fun a o e => ?_, fun n o e => ?_, fun n a o e hd em => ?_, fun m n a h1 h2 => ?_, fun n a e => ?_, fun n a e => ?_, fun n a e hg' => ?_, fun a xs e => by
    by_cases ha : a = p
    · subst ha; rw [hf] at e; cases e
    · exact r.ft a xs (by rw [upd_ne ha]; exact e), fun a o e hg' => by
    by_cases ha : a = p
    · subst ha; rw [hf] at e; cases e
    · exact r.fg a o (by rw [upd_ne ha]; exact e) hg', fun n a e em => by
    by_cases hn : n = S.length
    · subst hn
      rw [List.getElem?_append_right (Nat.le_refl _), Nat.sub_self] at e
      exact absurd (Option.some.inj e) hnd
    · have hl : n < S.length := by
        have := (List.getElem?_eq_some_iff.mp e).1
        rw [List.length_append, List.length_singleton] at this
        omega
      rw [List.getElem?_append_left hl] at e
      rw [mo n hn] at em
      exact r.dg n a e em⟩, fun _ _ h => h, fun _ _ h => h, mm⟩
  · by_cases ha : a = p
    · subst ha; rw [hf] at e; cases e
    · exact r.f a o (by rw [upd_ne ha]; exact e)
  · by_cases hn : n = S.length
    · subst hn
      rw [List.getElem?_append_right (Nat.le_refl _), Nat.sub_self] at e
      cases e
      exact ⟨p, mn, ho⟩
    · have hl : n < S.length := by
        have := (List.getElem?_eq_some_iff.mp e).1
        rw [List.length_append, List.length_singleton] at this
        omega
      rw [List.getElem?_append_left hl] at e
      obtain ⟨a, em, h⟩ := r.s n o e
      exact ⟨a, mm _ _ em, h.grow (fun _ _ h => h) mm⟩
  · by_cases hn : n = S.length
    · subst hn
      rw [mn] at em; cases em
      exact ⟨hg, hf⟩
    · have hl : n < S.length := by
        have := (List.getElem?_eq_some_iff.mp e).1
        rw [List.length_append, List.length_singleton] at this
        omega
      rw [List.getElem?_append_left hl] at e
      rw [mo n hn] at em
      obtain ⟨h1, h2⟩ := r.gm n a o e hd em
      exact ⟨h1, fo a (fun z => hm n (by rw [em, z])) h2⟩
  · by_cases h : m = S.length <;> by_cases h' : n = S.length
    · rw [h, h']
    · rw [h, mn] at h1; rw [mo n h'] at h2; cases h1; exact absurd h2 (hm n)
    · rw [h', mn] at h2; rw [mo m h] at h1; cases h2; exact absurd h1 (hm m)
    · rw [mo m h] at h1; rw [mo n h'] at h2; exact r.inj m n a h1 h2
  · rw [List.length_append, List.length_singleton]
    by_cases hn : n = S.length
    · omega
    · rw [mo n hn] at e; have := r.ub n a e; omega
  · by_cases hn : n = S.length
    · rw [hn, mn] at e; cases e; rw [r.f _ _ upd_same]; exact fun z => nomatch z
    · rw [mo n hn] at e; exact r.th n a e
  · by_cases hn : n = S.length
    · rw [hn, mn] at e; cases e; exact hf
    · rw [mo n hn] at e; exact fo a (fun z => hm n (by rw [e, z])) (r.fm n a e hg')
theorem Gr.of_upd {p : Addr} {u : HO} (g : Gr (L2.upd Φ p u) G μ G' μ') : Gr Φ G μ G' μ' := by
  refine ⟨g.g, fun a h1 h2 => ?_, g.m⟩
  by_cases ha : a = p
  · subst ha; exact g.n a (by rw [upd_same]; exact fun z => nomatch z) h2
  · exact g.n a (by rw [upd_ne ha]; exact h1) h2
theorem Gr.gnone {p : Addr} {u : HO} (g : Gr (L2.upd Φ p u) G μ G' μ') (h : G p = none) : G' p = none := by
  cases e : G' p with
  | none => rfl
  | some w => exact absurd h (g.n p (by rw [upd_same]; exact fun z => nomatch z) (by rw [e]; exact fun z => nomatch z))
/-- where nothing but untracked places changed -/
theorem Rel.look {n : Nat} {ob : Ob} (r : Rel K M G Φ μ S H) (hs : S[n]? = some ob) {a : Addr} (hn : μ n = some a) : OR K M G μ H ob a := by
  obtain ⟨b, e, h⟩ := r.s n ob hs
  rw [hn] at e; cases e; exact h
theorem gnone_of {a : Addr} (g : ∀ a u, G a = some u → G' a = some u) (h : G' a = none) : G a = none := by
  cases e : G a with
  | none => rfl
  | some u => rw [g a u e] at h; cases h
/-! a thing that stands still is locked, and let go -/
theorem Rel.gne {d : Addr} {u : HO} (r : Rel K M G Φ μ S H) (hg : G d = some u) {n : Nat} {a : Addr} {ob : Ob} (hs : S[n]? = some ob) (hd : ob ≠ .dead) (hn : μ n = some a) : a ≠ d := fun z => by
  have := (r.gm n a ob hs hd hn).1
  rw [z, hg] at this; cases this
theorem Rel.lock {d : Addr} {od : Obj} {u : HO} (r : Rel K M G Φ μ S H) (hg : G d = some u) (hk : (∃ k, u = .dK k) ∨ ∃ k, u = .dT k) : Rel K M G (L2.upd Φ d (.frz od u)) μ S (L2.upd H d (.frz od u)) := by
  refine ⟨fun a w e => ?_, fun a o e => ?_, fun n ob e => ?_, fun n a ob e hd em => ?_, r.inj, r.ub, fun n a e => ?_, fun n a e hg' => ?_, fun a xs e => ?_, fun a o e hg' => ?_, r.dg⟩
  · by_cases ha : a = d
    · subst ha; rw [hg] at e; cases e; exact .inr ⟨hk, od, upd_same⟩
    · exact (r.g a w e).upd ha
  · by_cases ha : a = d
    · subst ha; rw [upd_same] at e ⊢; exact e
    · rw [upd_ne ha] at e ⊢; exact r.f a o e
  · obtain ⟨a, em, h⟩ := r.s n ob e
    refine ⟨a, em, ?_⟩
    by_cases hd : ob = .dead
    · subst hd; trivial
    · exact h.heap (upd_ne (r.gne hg e hd em))
  · obtain ⟨h1, h2⟩ := r.gm n a ob e hd em
    exact ⟨h1, by rw [upd_ne (r.gne hg e hd em)]; exact h2⟩
  · by_cases ha : a = d
    · subst ha; rw [upd_same]; exact fun z => nomatch z
    · rw [upd_ne ha]; exact r.th n a e
  · have ha : a ≠ d := fun z => by rw [z, hg] at hg'; cases hg'
    rw [upd_ne ha]; exact r.fm n a e hg'
  · by_cases ha : a = d
    · subst ha; rw [upd_same] at e; cases e
    · rw [upd_ne ha] at e; exact r.ft a xs e
  · by_cases ha : a = d
    · subst ha; rw [upd_same] at e; cases e; exact ⟨od, u, rfl⟩
    · rw [upd_ne ha] at e; exact r.fg a o e hg'
theorem upd_id {H : Hp} {d : Addr} {o : HO} (h : H d = some o) : L2.upd H d o = H := funext fun a => by
  by_cases ha : a = d
  · subst ha; rw [upd_same, h]
  · rw [upd_ne ha]
theorem Rel.relock {d : Addr} {od : Obj} {u : HO} (r : Rel K M G Φ μ S H) (hg : G d = some u) (hk : (∃ k, u = .dK k) ∨ ∃ k, u = .dT k) (hl : H d = some (.frz od u)) : Rel K M G (L2.upd Φ d (.frz od u)) μ S H := by
  have := r.lock (od := od) hg hk
  rw [upd_id hl] at this
  exact this
theorem Rel.less {d : Addr} {o : HO} (r : Rel K M G (L2.upd Φ d o) μ S H) (hf : Φ d = none ∨ Φ d = some o) : Rel K M G Φ μ S H := by
  rcases hf with hf | hf
  · have fo : ∀ a w, Φ a = some w → L2.upd Φ d o a = some w := fun a w e => by
      rw [upd_ne (fun z => by rw [z, hf] at e; cases e)]; exact e
    have fn : ∀ a, L2.upd Φ d o a = none → Φ a = none := fun a e => by
      by_cases ha : a = d
      · subst ha; exact hf
      · rw [upd_ne ha] at e; exact e
    exact ⟨r.g, fun a w e => r.f a w (fo a w e), r.s, fun n a ob e hd em => ⟨(r.gm n a ob e hd em).1, fn a (r.gm n a ob e hd em).2⟩, r.inj, r.ub, r.th, fun n a e hg' => fn a (r.fm n a e hg'), fun a xs e => r.ft a xs (fo a _ e), fun a w e hg' => r.fg a w (fo a w e) hg', r.dg⟩
  · rw [upd_id hf] at r; exact r
theorem Rel.unlock {d : Addr} {od : Obj} {u : HO} (r : Rel K M G (L2.upd Φ d (.frz od u)) μ S H) (hg : G d = some u) (hf : Φ d = none) : Rel K M G Φ μ S (L2.upd H d u) := by
  have r := r.less (.inl hf)
  refine ⟨fun a w e => ?_, fun a o e => ?_, fun n ob e => ?_, r.gm, r.inj, r.ub, fun n a e => ?_, r.fm, r.ft, r.fg, r.dg⟩
  · by_cases ha : a = d
    · subst ha; rw [hg] at e; cases e; exact .inl upd_same
    · exact (r.g a w e).upd ha
  · rw [upd_ne (fun z => by rw [z, hf] at e; cases e)]; exact r.f a o e
  · obtain ⟨a, em, h⟩ := r.s n ob e
    refine ⟨a, em, ?_⟩
    by_cases hd : ob = .dead
    · subst hd; trivial
    · exact h.heap (upd_ne (r.gne hg e hd em))
  · by_cases ha : a = d
    · subst ha; rw [upd_same]; exact fun z => nomatch z
    · rw [upd_ne ha]; exact r.th n a e
end
end Ip
/-! ## The language: names resolved to slots, constants and defs; its meaning as a function -/
namespace Ip
open PySem PySem.Spec PyProof.Rows L2

inductive BOp | add | sub | mul | fdiv | mod | pow
  deriving DecidableEq
inductive COp | eq | ne | lt | le | gt | ge | isin | notin | is_ | isnot
  deriving DecidableEq
inductive TyN | int | bool | str | tuple | list
  deriving DecidableEq
/-- built-ins whose value is no new list -/
inductive BI | len | int | str | tuple | sum | all | max | min | abs
  deriving DecidableEq
/-- built-ins that make a new list -/
inductive BF | list | sorted
  deriving DecidableEq
/-- methods of built-in types whose value is no new list -/
inductive ME | append | extend | pop | reverse | index | startswith | find | join | get | count | dpop
  deriving DecidableEq
inductive MF | split
  deriving DecidableEq
/-- a dict's pairs, values, keys -/
inductive DK | items | vals | keys
  deriving DecidableEq
inductive Cst | non | bl (b : Bool) | int (i : Int) | str (x : Str)
  deriving DecidableEq
@[simp] def Cst.d : Cst → D
  | .non => .non
  | .bl b => .bl b
  | .int i => .int i
  | .str x => .str x
mutual
inductive Tg where
  | n (i : Nat) | t (ts : Tgs)
inductive Tgs where
  | nil | cons (t : Tg) (r : Tgs)
end
mutual
inductive Ex where
  | c (k : Cst) | v (i : Nat) | g (n : Nat)
  | bin (o : BOp) (m : Bool) (a b : Ex) | neg (a : Ex) | cmp (o : COp) (a b : Ex)
  | not (a : Ex) | and (a b : Ex) | or (a b : Ex) | ite (t a b : Ex)
  | tup (es : Exs) | lst (m : Bool) (es : Exs) | dct (m : Bool) (t : Nat) (ks vs : List Cst)
  | ix (a i : Ex) | sl (m : Bool) (a : Ex) (lo hi : Oe)
  | call (f : Nat) (p : Bool) (es : Exs)
  | bi (b : BI) (es : Exs) | bf (b : BF) (m : Bool) (es : Exs)
  | me (b : ME) (o : Ex) (es : Exs) | mf (b : MF) (m : Bool) (o : Ex) (es : Exs)
  | isi (a : Ex) (t : TyN)
  | lc (m : Bool) (own : List (Str × Nat)) (tg : Tg) (it : Itr) (cond : Oe) (e : Ex)
  | lens (e : Ex)
  | att (c : Nat) (o : Ex) (f : Str) | mcl (c f : Nat) (m : Str) (p : Bool) (o : Ex) (es : Exs) | mk (c f : Nat) (m : Bool) (es : Exs)
  | fze (e : Ex) | rev (m : Bool) (e : Ex)
  | lc2 (m : Bool) (own : List (Str × Nat)) (tg : Tg) (it : Itr) (cond : Oe) (vs : List Nat) (tg1 : Tg) (it1 : Itr) (cond1 : Oe) (e : Ex)
inductive Exs where
  | nil | cons (e : Ex) (r : Exs)
inductive Oe where
  | no | so (e : Ex)
inductive Itr where
  | of (e : Ex) | rng1 (a : Ex) | rng2 (a b : Ex) | enum (a : Ex)
end
/-- what an except clause does -/
inductive Hd where
  | ret (x : Ex) | retI (s : Cst) (j : Nat) | asg (i : Nat) (x : Ex)
mutual
inductive Stm where
  | asg (t : Tg) (e : Ex) | asgS (o i e : Ex)
  | asgC (i : Nat) (m : Bool) (own : List (Str × Nat)) (tg : Tg) (it : Itr) (cond : Oe) (x : Ex)
  | aug (i : Nat) (o : BOp) (e : Ex) | augS (a i : Ex) (o : BOp) (e : Ex)
  | ex (e : Ex) | ret (e : Ex) | retN
  | ifs (c : Ex) (a b : Stms) | for (t : Tg) (it : Itr) (b : Stms) | whl (c : Ex) (b : Stms)
  | forD (kd : DK) (t : Tg) (e : Ex) (b : Stms)
  | brk | cont | pass | raise (c : Nat)
  | asgA (c : Nat) (o : Ex) (f : Str) (e : Ex)
  | tryE (b : Stms) (c : Nat) (nm : Option Nat) (h : Hd)
inductive Stms where
  | nil | cons (s : Stm) (r : Stms) | fz (i : Nat) (r : Stms) | fzd (i : Nat) (r : Stms)
end

/-! ### plain operations -/
mutual
def D.pure : D → Bool
  | .tup xs => pures xs
  | .lst xs => pures xs
  | .dct _ ks vs => pures ks && pures vs
  | .obj _ _ vs => pures vs
  | .ref _ => false
  | .non => true
  | .bl _ => true
  | .int _ => true
  | .str _ => true
  | .scr _ => true
def pures : List D → Bool
  | [] => true
  | d :: ds => d.pure && pures ds
end
def bnd {α β : Type} (x : Option (Ro α)) (f : α → Sto → Option (Ro β)) : Option (Ro β) :=
  match x with
  | some (.ok a S) => f a S
  | some (.ex c S) => some (.ex c S)
  | none => none
@[simp] theorem bnd_ok {α β : Type} {a : α} {S : Sto} {f : α → Sto → Option (Ro β)} : bnd (some (.ok a S)) f = f a S := rfl
@[simp] theorem bnd_ex {α β : Type} {c : Nat} {S : Sto} {f : α → Sto → Option (Ro β)} : bnd (some (.ex c S)) f = some (.ex c S) := rfl
@[simp] theorem bnd_none {α β : Type} {f : α → Sto → Option (Ro β)} : bnd none f = none := rfl
def okO {α : Type} (o : Option α) (S : Sto) : Option (Ro α) := match o with
  | some a => some (.ok a S)
  | none => none
@[simp] theorem okO_some {α : Type} {a : α} {S : Sto} : okO (some a) S = some (.ok a S) := rfl
@[simp] theorem okO_none {α : Type} {S : Sto} : okO (none : Option α) S = none := rfl
/-- a new list: of the store, or one that stands still -/
def mkL (m : Bool) (xs : List D) (S : Sto) : Option (Ro D) := match m with
  | true => some (.ok (.ref S.length) (S ++ [.lst xs]))
  | false => some (.ok (.lst xs) S)
@[simp] theorem mkL_t {xs : List D} {S : Sto} : mkL true xs S = some (.ok (.ref S.length) (S ++ [.lst xs])) := rfl
@[simp] theorem mkL_f {xs : List D} {S : Sto} : mkL false xs S = some (.ok (.lst xs) S) := rfl
def mkD (m : Bool) (t : Nat) (ks vs : List D) (S : Sto) : Option (Ro D) := match m with
  | true => some (.ok (.ref S.length) (S ++ [.dct t ks vs]))
  | false => some (.ok (.dct t ks vs) S)
@[simp] theorem mkD_t {t : Nat} {ks vs : List D} {S : Sto} : mkD true t ks vs S = some (.ok (.ref S.length) (S ++ [.dct t ks vs])) := rfl
@[simp] theorem mkD_f {t : Nat} {ks vs : List D} {S : Sto} : mkD false t ks vs S = some (.ok (.dct t ks vs) S) := rfl
def getL (S : Sto) (n : Nat) : Option (List D) := match S[n]? with
  | some (.lst xs) => some xs
  | _ => none
theorem getL_of {S : Sto} {n : Nat} {xs : List D} (h : getL S n = some xs) : S[n]? = some (.lst xs) := by
  unfold getL at h
  split at h
  · rename_i e; cases h; exact e
  · cases h
theorem getL_eq {S : Sto} {n : Nat} {xs : List D} (h : S[n]? = some (.lst xs)) : getL S n = some xs := by
  unfold getL; rw [h]
/-- the items of a list or tuple, to be read -/
def seqD (S : Sto) : D → Option (List D)
  | .tup xs => some xs
  | .lst xs => some xs
  | .scr ns => some (ns.map .int)
  | .ref n => getL S n
  | _ => none
/-- the items of a list -/
def lstD (S : Sto) : D → Option (List D)
  | .lst xs => some xs
  | .ref n => getL S n
  | _ => none
def asInts : List D → Option (List Int)
  | [] => some []
  | .int i :: r => (asInts r).map (i :: ·)
  | _ => none
def asStrs : List D → Option (List Str)
  | [] => some []
  | .str i :: r => (asStrs r).map (i :: ·)
  | _ => none
def asBls : List D → Option (List Bool)
  | [] => some []
  | .bl i :: r => (asBls r).map (i :: ·)
  | _ => none
/-- numbers -/
noncomputable def binI (o : BOp) (i j : Int) : Option Int := match o with
  | .add => some (i + j)
  | .sub => some (i - j)
  | .mul => @ite _ ((-(2 ^ 64) < i ∧ i < 2 ^ 64) ∨ (-(2 ^ 64) < j ∧ j < 2 ^ 64)) (Classical.propDecidable _) (some (i * j)) none
  | .fdiv => @ite _ (0 < j ∧ j < 2 ^ 400) (Classical.propDecidable _) (some (i / j)) none
  | .mod => if 0 < j then some (i % j) else none
  | .pow => @ite _ (0 ≤ j ∧ j ≤ 1000000 ∧ i.natAbs < 2 ^ 64) (Classical.propDecidable _) (some (i ^ j.toNat)) none
noncomputable def binD (o : BOp) (m : Bool) (x y : D) (S : Sto) : Option (Ro D) := match x, y with
  | .int i, .int j => if m then none else okO ((binI o i j).map .int) S
  | .str i, .str j => if m then none else match o with
    | .add => if i.length + j.length ≤ sizeLine then some (.ok (.str (i ++ j)) S) else none
    | _ => none
  | .tup xs, .tup ys => if m then none else match o with
    | .add => if xs.length + ys.length ≤ sizeLine then some (.ok (.tup (xs ++ ys)) S) else none
    | _ => none
  | .tup xs, .int k => if m then none else match o with
    | .mul => @ite _ (xs.length = 1 ∧ 0 ≤ k ∧ k ≤ 1000) (Classical.propDecidable _) (some (.ok (.tup (List.replicate k.toNat xs).flatten) S)) none
    | _ => none
  | .str i, .int k => if m then none else match o with
    | .mul => @ite _ (0 ≤ k ∧ k ≤ 1000 ∧ i.length ≤ 1000) (Classical.propDecidable _) (some (.ok (.str (Txt.mul i k)) S)) none
    | _ => none
  | x, .int k => match o, lstD S x with
    | .mul, some xs => @ite _ (-(2 ^ 63) ≤ k ∧ k < 2 ^ 63 ∧ xs.length * k.toNat ≤ sizeLine) (Classical.propDecidable _) (mkL m (List.replicate k.toNat xs).flatten S) none
    | _, _ => none
  | x, y => match o, lstD S x, lstD S y with
    | .add, some xs, some ys => if xs.length + ys.length ≤ sizeLine then mkL m (xs ++ ys) S else none
    | _, _, _ => none
/-! as data for == -/
mutual
def pd : D → Option PyData
  | .non => some .none
  | .bl b => some (.bool b)
  | .int i => some (.int i)
  | .str x => some (.str x)
  | .tup xs => (pds xs).map .tuple
  | .lst xs => (pds xs).map .list
  | _ => none
def pds : List D → Option (List PyData)
  | [] => some []
  | d :: ds => match pd d, pds ds with
    | some a, some b => some (a :: b)
    | _, _ => none
end
/-- the store's lists read (one level) -/
def res1 (S : Sto) : D → D
  | .ref n => match getL S n with
    | some xs => .lst xs
    | none => .ref n
  | d => d
def res2 (S : Sto) : D → D
  | .lst xs => .lst (xs.map (res1 S))
  | .ref n => match getL S n with
    | some xs => .lst (xs.map (res1 S))
    | none => .ref n
  | d => d
def eqD (S : Sto) (x y : D) : Option Bool := match x, y with
  | .int i, .int j => some (decide (i = j))
  | .str i, .str j => some (decide (i = j))
  | .bl i, .bl j => some (decide (i = j))
  | .non, .non => some true
  | x, y => match pd (res2 S x), pd (res2 S y) with
    | some a, some b => if SeqAt.shaped a = true ∧ SeqAt.shaped b = true then some (PyData.eqv a b) else none
    | _, _ => none
/-! dicts: keys are ints and texts (0), or tuples of them (1) -/
def kKey : D → Option Key
  | .int i => some (.inl i)
  | .str x => some (.inr x)
  | _ => none
def kKeys : List D → Option (List Key)
  | [] => some []
  | x :: xs => match kKey x, kKeys xs with
    | some k, some ks => some (k :: ks)
    | _, _ => none
def tKey : D → Option (List Key)
  | .tup xs => kKeys xs
  | _ => none
def lookK {κ : Type} [DecidableEq κ] (f : D → Option κ) (k : κ) : List D → List D → Option D
  | a :: ks, v :: vs => if f a = some k then some v else lookK f k ks vs
  | _, _ => none
def repV {κ : Type} [DecidableEq κ] (f : D → Option κ) (k : κ) (d : D) : List D → List D → List D
  | a :: ks, v :: vs => (if f a = some k then d else v) :: repV f k d ks vs
  | _, _ => []
def dctD (S : Sto) : D → Option (Nat × List D × List D)
  | .dct t ks vs => some (t, ks, vs)
  | .ref n => match S[n]? with
    | some (.dct t ks vs) => some (t, ks, vs)
    | _ => none
  | _ => none
def dGet (q : Nat × List D × List D) (y : D) : Option (Option D) := match q.1 with
  | 0 => (kKey y).map fun k => lookK kKey k q.2.1 q.2.2
  | _ => (tKey y).map fun k => lookK tKey k q.2.1 q.2.2
def putW {κ : Type} [DecidableEq κ] (f : D → Option κ) (k : κ) (y d : D) (ks vs : List D) : List D × List D :=
  if (lookK f k ks vs).isSome then (ks, repV f k d ks vs) else (ks ++ [y], vs ++ [d])
def dPut (q : Nat × List D × List D) (y d : D) : Option (List D × List D) := match q.1 with
  | 0 => (kKey y).map fun k => putW kKey k y d q.2.1 q.2.2
  | _ => (tKey y).map fun k => putW tKey k y d q.2.1 q.2.2
def flatD : D → Bool
  | .non => true
  | .bl _ => true
  | .int _ => true
  | .str _ => true
  | _ => false
/-- == of flat values -/
def eqF : D → D → Bool
  | .non, .non => true
  | .bl a, .bl b => a == b
  | .bl a, .int b => (if a then 1 else 0) == b
  | .int a, .bl b => a == (if b then 1 else 0)
  | .int a, .int b => a == b
  | .str a, .str b => a == b
  | _, _ => false
/-- y in d -/
def inD (S : Sto) (x y : D) : Option Bool := match x, y with
  | .str i, .str j => some (!(Builtin.Str.occurrences j i 0 j.length 1).isEmpty)
  | x, .tup ys => if flatD x && ys.all flatD then some (ys.any fun y => eqF y x) else none
  | x, y => match dctD S y with
    | some q => (dGet q x).map Option.isSome
    | none => match pd x, pd (res2 S y) with
      | some a, some (.list b) => if SeqAt.shaped a = true ∧ SeqAt.shaped (.list b) = true then some (b.any fun z => PyData.eqv z a) else none
      | _, _ => none
def isD (x y : D) : Option Bool := match x, y with
  | .bl a, .bl b => some (decide (a = b))
  | .bl _, .non => some false
  | .int _, .non => some false
  | .str _, .non => some false
  | .tup _, .non => some false
  | .lst _, .non => some false
  | .scr _, .non => some false
  | .dct _ _ _, .non => some false
  | .obj _ _ _, .non => some false
  | .ref _, .non => some false
  | .non, .non => some true
  | _, _ => none
def ltD (o : COp) (x y : D) : Option Bool := match x, y with
  | .int i, .int j => match o with
    | .lt => some (decide (i < j))
    | .le => some (decide (i ≤ j))
    | .gt => some (decide (j < i))
    | .ge => some (decide (j ≤ i))
    | _ => none
  | .str i, .str j => match o with
    | .lt => some (decide (i.cps.toList < j.cps.toList))
    | .le => some (!decide (j.cps.toList < i.cps.toList))
    | .gt => some (decide (j.cps.toList < i.cps.toList))
    | .ge => some (!decide (i.cps.toList < j.cps.toList))
    | _ => none
  | _, _ => none
def cmpD (o : COp) (x y : D) (S : Sto) : Option Bool := match o with
  | .eq => eqD S x y
  | .ne => (eqD S x y).map not
  | .isin => inD S x y
  | .notin => (inD S x y).map not
  | .is_ => isD x y
  | .isnot => (isD x y).map not
  | o => ltD o x y
def truD (S : Sto) : D → Option Bool
  | .non => some false
  | .bl b => some b
  | .int i => some (i != 0)
  | .str x => if x.length ≤ sizeLine then some ((x.length : Int) != 0) else none
  | d => (seqD S d).map fun xs => !xs.isEmpty
def ixD (S : Sto) (x i : D) : Option D := match x, i with
  | .str z, .int i => if z.length ≤ sizeLine then (atI z.cps.toList i).map fun c => .str ⟨#[c]⟩ else none
  | x, i => match dctD S x with
    | some q => match dGet q i with
      | some (some d) => some d
      | _ => none
    | none => match i, seqD S x with
      | .int i, some xs => atI xs i
      | _, _ => none
/-- the items of xs[lo:hi] -/
def cutD (xs : List D) (lo hi : Option Int) : List D := (xs.drop (HT.sIx xs.length 0 lo)).take (HT.sIx xs.length xs.length hi - HT.sIx xs.length 0 lo)
def slD (m : Bool) (x : D) (l h : Option Int) (S : Sto) : Option (Ro D) := match x with
  | .str z => if m then none else if z.length ≤ sizeLine then some (.ok (.str (cutS z l h)) S) else none
  | .tup xs => if m then none else some (.ok (.tup (cutD xs l h)) S)
  | .scr ns => mkL m (cutD (ns.map .int) l h) S
  | x => match lstD S x with
    | some xs => mkL m (cutD xs l h) S
    | none => none
@[simp] def isiD (S : Sto) (x : D) (t : TyN) : Option Bool := match x with
  | .non => some false
  | .bl _ => some (match t with | .int => true | .bool => true | _ => false)
  | .int _ => some (match t with | .int => true | _ => false)
  | .str _ => some (match t with | .str => true | _ => false)
  | .tup _ => some (match t with | .tuple => true | _ => false)
  | .lst _ => some (match t with | .list => true | _ => false)
  | .ref n => match getL S n with
    | some _ => some (match t with | .list => true | _ => false)
    | none => none
  | _ => none
def biD (b : BI) (xs : List D) (S : Sto) : Option D := match b, xs with
  | .len, [.str x] => if x.length ≤ sizeLine then some (.int x.length) else none
  | .len, [d] => match dctD S d with
    | some q => if q.1 = 0 then some (.int q.2.1.length) else none
    | none => (seqD S d).map fun xs => .int xs.length
  | .int, [.int i] => some (.int i)
  | .int, [.bl k] => some (.int (if k then 1 else 0))
  | .int, [.str a] => if a.length ≤ 640 then (PySem.intText? a).map .int else none
  | .str, [.int i] => if i.natAbs.log2 < 1920 then some (.str (toString i)) else none
  | .tuple, [.tup xs] => some (.tup xs)
  | .tuple, [d] => (lstD S d).map .tup
  | .sum, [.tup xs] => (asInts xs).map fun ns => .int ns.sum
  | .sum, [d] => ((lstD S d).bind asInts).map fun ns => .int ns.sum
  | .all, [d] => ((lstD S d).bind asBls).map fun bs => .bl (bs.all id)
  | .max, [.int i, .int j] => some (.int (if j > i then j else i))
  | .max, [d] => match (lstD S d).bind asInts with
    | some (n :: ns) => some (.int (ns.foldl max n))
    | _ => none
  | .min, [d] => match (lstD S d).bind asInts with
    | some (n :: ns) => some (.int (ns.foldl min n))
    | _ => none
  | .min, [.int i, .int j] => some (.int (if j < i then j else i))
  | .abs, [.int i] => some (.int (if i < 0 then -i else i))
  | _, _ => none
def itD : D → Option (List D)
  | .tup xs => some xs
  | .lst xs => some xs
  | .str z => some (z.cps.toList.map fun c => .str ⟨#[c]⟩)
  | _ => none
/-- a method: its value and the store behind it -/
def meD (b : ME) (o : D) (xs : List D) (S : Sto) : Option (Ro D) := match b, o, xs with
  | .append, .ref n, [y] => match getL S n with
    | some zs => if zs.length < sizeLine then some (.ok .non (S.set n (.lst (zs ++ [y])))) else none
    | _ => none
  | .startswith, .str a, [.str p] => some (.ok (.bl (Txt.startswith a p)) S)
  | .pop, .ref n, [.int i] => match getL S n with
    | some zs => match ixN zs.length i with
      | some k => match zs[k]? with
        | some y => if zs.length ≤ sizeLine then some (.ok y (S.set n (.lst (zs.eraseIdx k)))) else none
        | none => none
      | none => none
    | _ => none
  | .extend, .ref n, [d] => match getL S n, lstD S d with
    | some zs, some ys => if zs.length + ys.length ≤ sizeLine then some (.ok .non (S.set n (.lst (zs ++ ys)))) else none
    | _, _ => none
  | .find, .str a, [.str p] => some (.ok (.int (Txt.find a p)) S)
  | .find, .str a, [.str p, .int i] => some (.ok (.int (Txt.find3 a p i)) S)
  | .join, .str a, [d] => match (seqD S d).bind asStrs with
    | some ys => if (ys.map (·.length)).sum + ys.length * a.length ≤ 16777216 then some (.ok (.str (Txt.join a ys)) S) else none
    | none => none
  | .get, o, [y] => match dctD S o with
    | some q => okO ((dGet q y).map fun r => r.getD .non) S
    | none => none
  | .get, o, [y, d] => match dctD S o with
    | some q => okO ((dGet q y).map fun r => r.getD d) S
    | none => none
  | .index, .str a, [.str b] => match Builtin.Str.occurrences a b 0 a.length 1 with
    | i :: _ => some (.ok (.int (i : Nat)) S)
    | [] => none
  | .count, o, [y] => match pd y, pd (res2 S o) with
    | some a, some (.list b) => if SeqAt.shaped a = true ∧ SeqAt.shaped (.list b) = true then some (.ok (.int (b.countP fun z => PyData.eqv z a : Nat)) S) else none
    | _, _ => none
  | _, _, _ => none

/-- ints in order -/
def insI (i : Int) : List Int → List Int
  | [] => [i]
  | j :: js => if i ≤ j then i :: j :: js else j :: insI i js
def sortI : List Int → List Int
  | [] => []
  | i :: is => insI i (sortI is)
/-- a <= b, of data that are alike -/
def leD (a b : D) : Bool := PySem.W.dataLe false (fun d => (pd d).getD .none) a b
/-- may be sorted -/
def SortOk (ds : List D) : Prop := (∀ d ∈ ds, ∃ a, pd d = some a ∧ a.depth ≤ 50) ∧ PySem.W.AllAlike (ds.map fun d => (pd d).getD .none) ∧ PySem.W.Sortable (ds.map fun d => (pd d).getD .none) ∧ ds.length ≤ 1000000
noncomputable def bfD (b : BF) (m : Bool) (xs : List D) (S : Sto) : Option (Ro D) := match b, xs with
  | .list, [d] => match seqD S d with
    | some ys => mkL m ys S
    | none => none
  | .sorted, [d] => match lstD S d with
    | some ds => match asInts ds with
      | some ns => mkL m ((sortI ns).map .int) S
      | none => @ite _ (SortOk ds) (Classical.propDecidable _) (mkL m (ds.mergeSort leD) S) none
    | none => match dctD S d with
      | some (1, ks, _) => @ite _ (SortOk ks) (Classical.propDecidable _) (mkL m (ks.mergeSort leD) S) none
      | _ => none
  | _, _ => none
def mfD (b : MF) (m : Bool) (o : D) (xs : List D) (S : Sto) : Option (Ro D) := match b, o, xs with
  | .split, .str a, [.str p] => if (p.length == 0) = false ∧ a.length + 2 ≤ sizeLine then mkL m ((Txt.split a p).map .str) S else none
  | _, _, _ => none
def tyF (b : MF) (x : D) : Bool := match b, x with
  | .split, .str _ => true
  | _, _ => false
/-- the receiver's type, as the method wants it -/
def tyM (b : ME) (x : D) (S : Sto) : Bool := match b, x with
  | .append, .ref n => (getL S n).isSome
  | .pop, .ref n => (getL S n).isSome
  | .extend, .ref n => (getL S n).isSome
  | .startswith, .str _ => true
  | .find, .str _ => true
  | .join, .str _ => true
  | .get, .ref n => (dctD S (.ref n)).isSome
  | .get, .dct _ _ _ => true
  | .index, .str _ => true
  | .count, .ref n => (getL S n).isSome
  | .count, .lst _ => true
  | _, _ => false
/-! objects -/
def insD (S : Sto) : D → Option (Nat × List Str × List D)
  | .obj c ns vs => some (c, ns, vs)
  | .ref n => match S[n]? with
    | some (.ins c ns vs) => some (c, ns, vs)
    | _ => none
  | _ => none
def fldL (f : Str) : List Str → List D → Option D
  | n :: ns, v :: vs => if n = f then some v else fldL f ns vs
  | _, _ => none
/-- x.f, x of class c -/
def fldD (S : Sto) (c : Nat) (x : D) (f : Str) : Option D := match insD S x with
  | some (c', ns, vs) => if c' = c then fldL f ns vs else none
  | none => none
/-- has x, of class c, no attribute m? -/
def mthD (S : Sto) (c : Nat) (x : D) (m : Str) : Bool := match insD S x with
  | some (c', ns, _) => decide (c' = c) && ns.all fun n => decide (n ≠ m)
  | none => false
/-- the attribute f is d from now on -/
def putA (f : Str) (d : D) : List Str → List D → List Str × List D
  | n :: ns, v :: vs => if n = f then (n :: ns, d :: vs) else (n :: (putA f d ns vs).1, v :: (putA f d ns vs).2)
  | _, _ => ([f], [d])
def mapF (f : D → Sto → Option (D × Sto)) : List D → Sto → Option (List D × Sto)
  | [], S => some ([], S)
  | d :: ds, S => match f d S with
    | some (d', S1) => match mapF f ds S1 with
      | some (ds', S2) => some (d' :: ds', S2)
      | none => none
    | none => none
/-- from now on standing still, with all that is in it -/
def frz : Nat → D → Sto → Option (D × Sto)
  | 0, _, _ => none
  | k + 1, .ref n, S => match S[n]? with
    | some (.lst xs) => match mapF (frz k) xs S with
      | some (ys, S1) => match S1[n]? with
        | some (.lst _) => some (.lst ys, S1.set n .dead)
        | _ => none
      | none => none
    | some (.dct t ks vs) => match mapF (frz k) vs S with
      | some (ys, S1) => match S1[n]? with
        | some (.dct _ _ _) => some (.dct t ks ys, S1.set n .dead)
        | _ => none
      | none => none
    | some (.ins c ns vs) => match mapF (frz k) vs S with
      | some (ys, S1) => match S1[n]? with
        | some (.ins _ _ _) => some (.obj c ns ys, S1.set n .dead)
        | _ => none
      | none => none
    | _ => none
  | k + 1, .lst xs, S => if pures xs then some (.lst xs, S) else match mapF (frz k) xs S with
    | some (ys, S1) => some (.lst ys, S1)
    | none => none
  | k + 1, .tup xs, S => if pures xs then some (.tup xs, S) else match mapF (frz k) xs S with
    | some (ys, S1) => some (.tup ys, S1)
    | none => none
  | _ + 1, d, S => if d.pure then some (d, S) else none
/-! ### the evaluator -/
abbrev Gam := Nat → List D → Sto → Option (Ro D)
structure Tab where
  consts : List D
  subs : List (List Bool)
/-- is the i-th of the own exceptions' classes a kind of the j-th? -/
def Tab.sub (T : Tab) (i j : Nat) : Option Bool := match T.subs[i]? with
  | some r => r[j]?
  | none => none
@[simp] def wipeE (env : En) : List Nat → En
  | [] => env
  | v :: vs => (wipeE env vs).set v none
mutual
def asgT : Tg → D → En → Option En
  | .n i, d, env => some (env.set i (some d))
  | .t ts, .tup xs, env => asgTs ts xs env
  | .t _, _, _ => none
def asgTs : Tgs → List D → En → Option En
  | .nil, [], env => some env
  | .cons t r, x :: xs, env => (asgT t x env).bind (asgTs r xs)
  | _, _, _ => none
end
@[simp] theorem asg_n {i : Nat} {d : D} {env : En} : asgT (.n i) d env = some (env.set i (some d)) := rfl
@[simp] theorem asg_t {ts : Tgs} {xs : List D} {env : En} : asgT (.t ts) (.tup xs) env = asgTs ts xs env := rfl
@[simp] theorem asgs_nil {env : En} : asgTs .nil [] env = some env := rfl
@[simp] theorem asgs_cons {t : Tg} {r : Tgs} {x : D} {xs : List D} {env : En} : asgTs (.cons t r) (x :: xs) env = (asgT t x env).bind (asgTs r xs) := rfl
/-- the turns of a comprehension -/
def lcLoop (turn : D → Sto → Option (Ro (Option D))) : List D → Sto → List D → Option (Ro (List D))
  | [], S, acc => some (.ok acc S)
  | x :: xs, S, acc => match turn x S with
    | some (.ok (some y) S1) => lcLoop turn xs S1 (acc ++ [y])
    | some (.ok none S1) => lcLoop turn xs S1 acc
    | _ => none
noncomputable def rngD (i j : Int) : Option (List D) := @ite _ (-(2 ^ 62) ≤ i ∧ i < 2 ^ 62 ∧ -(2 ^ 62) ≤ j ∧ j < 2 ^ 62) (Classical.propDecidable _) (some ((List.range (j - i).toNat).map fun (k : Nat) => D.int (i + k))) none
/-- the turns of a comprehension with two fors -/
def lcLoop2 (turn : D → Sto → List D → Option (Ro (List D))) : List D → Sto → List D → Option (Ro (List D))
  | [], S, acc => some (.ok acc S)
  | x :: xs, S, acc => match turn x S acc with
    | some (.ok a S1) => lcLoop2 turn xs S1 a
    | _ => none
/-- numbered -/
def enF : Nat → List D → List D
  | _, [] => []
  | i, x :: xs => .tup [.int i, x] :: enF (i + 1) xs
theorem enF_len : ∀ (xs : List D) (i : Nat), (enF i xs).length = xs.length
  | [], _ => rfl
  | x :: xs, i => by rw [enF, List.length_cons, List.length_cons, enF_len xs]
theorem enF_get : ∀ (xs : List D) (i j : Nat), (enF i xs)[j]? = xs[j]?.map fun x => .tup [.int ((i + j : Nat) : Int), x]
  | [], _, _ => by simp [enF]
  | x :: xs, i, 0 => by simp [enF]
  | x :: xs, i, j + 1 => by
    rw [enF, List.getElem?_cons_succ, List.getElem?_cons_succ, enF_get xs (i + 1) j, show i + 1 + j = i + (j + 1) by omega]
/-- what a call gives, standing still -/
def frzR (r : Option (Ro D)) : Option (Ro D) := bnd r fun d S1 => match frz 9 d S1 with
  | some (d', S2) => some (.ok d' S2)
  | none => none
def callP (Γ : Gam) (p : Bool) (f : Nat) (ds : List D) (S : Sto) : Option (Ro D) := match p with
  | false => Γ f ds S
  | true => if pures ds then match frzR (Γ f ds []) with
    | some (.ok d _) => if d.pure then some (.ok d S) else none
    | some (.ex c _) => some (.ex c S)
    | none => none
  else none
/-- a new object of class c: f is its __init__ -/
def mkR (Γ : Gam) (f c : Nat) (z : Bool) (ds : List D) (S : Sto) : Option (Ro D) := bnd (Γ f (.ref S.length :: ds) (S ++ [.ins c [] []])) fun d S2 => match d with
  | .non => match z with
    | false => some (.ok (.ref S.length) S2)
    | true => match frz 9 (.ref S.length) S2 with
      | some (d, S3) => some (.ok d S3)
      | none => none
  | _ => none
/-- m: of the store; or one that stands still, made apart -/
def mkC (Γ : Gam) (f c : Nat) (m : Bool) (ds : List D) (S : Sto) : Option (Ro D) := match m with
  | true => mkR Γ f c false ds S
  | false => if pures ds then match mkR Γ f c true ds [] with
    | some (.ok d _) => if d.pure then some (.ok d S) else none
    | some (.ex c _) => some (.ex c S)
    | none => none
  else none
mutual
@[simp] noncomputable def evalE (Γ : Gam) (T : Tab) : Ex → En → Sto → Option (Ro D)
  | .c k, _, S => some (.ok k.d S)
  | .v i, env, S => match env[i]? with
    | some (some d) => some (.ok d S)
    | _ => none
  | .g n, _, S => okO T.consts[n]? S
  | .bin o m a b, env, S => bnd (evalE Γ T a env S) fun x S1 => bnd (evalE Γ T b env S1) fun y S2 => binD o m x y S2
  | .neg a, env, S => bnd (evalE Γ T a env S) fun x S1 => match x with
    | .int i => some (.ok (.int (-i)) S1)
    | _ => none
  | .cmp o a b, env, S => bnd (evalE Γ T a env S) fun x S1 => bnd (evalE Γ T b env S1) fun y S2 => okO ((cmpD o x y S2).map .bl) S2
  | .not a, env, S => bnd (evalE Γ T a env S) fun x S1 => match x with
    | .bl b => some (.ok (.bl (!b)) S1)
    | _ => none
  | .and a b, env, S => bnd (evalE Γ T a env S) fun x S1 => match x with
    | .bl true => evalE Γ T b env S1
    | .bl false => some (.ok (.bl false) S1)
    | _ => none
  | .or a b, env, S => bnd (evalE Γ T a env S) fun x S1 => match x with
    | .bl true => some (.ok (.bl true) S1)
    | .bl false => evalE Γ T b env S1
    | _ => none
  | .ite t a b, env, S => bnd (evalT Γ T t env S) fun c S1 => match c with
    | true => evalE Γ T a env S1
    | false => evalE Γ T b env S1
  | .tup es, env, S => bnd (evalEs Γ T es env S) fun xs S1 => if xs.length ≤ sizeLine then some (.ok (.tup xs) S1) else none
  | .lst m es, env, S => bnd (evalEs Γ T es env S) fun xs S1 => if xs.length ≤ sizeLine then mkL m xs S1 else none
  | .dct m t ks vs, env, S => mkD m t (ks.map Cst.d) (vs.map Cst.d) S
  | .ix a i, env, S => bnd (evalE Γ T a env S) fun x S1 => bnd (evalE Γ T i env S1) fun y S2 => okO (ixD S2 x y) S2
  | .sl m a lo hi, env, S => bnd (evalE Γ T a env S) fun x S1 => bnd (evalO Γ T lo env S1) fun l S2 => bnd (evalO Γ T hi env S2) fun h S3 =>
    slD m x l h S3
  | .call f p es, env, S => bnd (evalEs Γ T es env S) fun xs S1 => callP Γ p f xs S1
  | .bi b es, env, S => bnd (evalEs Γ T es env S) fun xs S1 => okO (biD b xs S1) S1
  | .bf b m es, env, S => bnd (evalEs Γ T es env S) fun xs S1 => bfD b m xs S1
  | .me b o es, env, S => bnd (evalE Γ T o env S) fun x S1 => if tyM b x S1 then bnd (evalEs Γ T es env S1) fun xs S2 => meD b x xs S2 else none
  | .mf b m o es, env, S => bnd (evalE Γ T o env S) fun x S1 => if tyF b x then bnd (evalEs Γ T es env S1) fun xs S2 => mfD b m x xs S2 else none
  | .lens a, env, S => bnd (evalE Γ T a env S) fun x S1 => match (lstD S1 x).bind asInts with
    | some ns => if ns.length < 4000 then some (.ok (.int (PyProof.Rows.firstMet (fun i => ns.getD i 0) ns.length).length) S1) else none
    | none => none
  | .isi a t, env, S => bnd (evalE Γ T a env S) fun x S1 => okO ((isiD S1 x t).map .bl) S1
  | .att c o f, env, S => bnd (evalE Γ T o env S) fun x S1 => okO (fldD S1 c x f) S1
  | .mcl c f m p o es, env, S => bnd (evalE Γ T o env S) fun x S1 => if mthD S1 c x m then bnd (evalEs Γ T es env S1) fun xs S2 => callP Γ p f (x :: xs) S2 else none
  | .mk c f m es, env, S => bnd (evalEs Γ T es env S) fun xs S1 => mkC Γ f c m xs S1
  | .rev m e, env, S => bnd (evalE Γ T e env S) fun x S1 => match lstD S1 x with
    | some xs => mkL m xs.reverse S1
    | none => none
  | .fze e, env, S => bnd (evalE Γ T e env S) fun d S1 => match frz 9 d S1 with
    | some (d', S2) => some (.ok d' S2)
    | none => none
  | .lc m own tg it cond e, env, S => bnd (evalI Γ T it env S) fun xs S1 =>
    if xs.length ≤ sizeLine then bnd (lcLoop (fun x S => match asgT tg x (wipeE env (own.map (·.2))) with
      | some env1 => bnd (evalC Γ T cond env1 S) fun b S2 => match b with
        | true => bnd (evalE Γ T e env1 S2) fun y S3 => some (.ok (some y) S3)
        | false => some (.ok none S2)
      | none => none) xs S1 []) fun ys S2 => mkL m ys S2
    else none
  | .lc2 m own tg it cond vs tg1 it1 cond1 e, env, S => bnd (evalI Γ T it env S) fun xs S1 =>
    bnd (lcLoop2 (fun x S acc => match asgT tg x (wipeE env (own.map (·.2))) with
      | some env1 => bnd (evalC Γ T cond env1 S) fun b S2 => match b with
        | true => bnd (evalI Γ T it1 env1 S2) fun ys S3 => if acc.length + ys.length ≤ sizeLine then lcLoop (fun x S => match asgT tg1 x (wipeE env1 vs) with
          | some env2 => bnd (evalC Γ T cond1 env2 S) fun b S4 => match b with
            | true => bnd (evalE Γ T e env2 S4) fun y S5 => some (.ok (some y) S5)
            | false => some (.ok none S4)
          | none => none) ys S3 acc else none
        | false => some (.ok acc S2)
      | none => none) xs S1 []) fun ys S2 => mkL m ys S2
-- a test
@[simp] noncomputable def evalT (Γ : Gam) (T : Tab) : Ex → En → Sto → Option (Ro Bool)
  | .not a, env, S => bnd (evalT Γ T a env S) fun b S1 => some (.ok (!b) S1)
  | .and a b, env, S => bnd (evalT Γ T a env S) fun c S1 => match c with
    | true => evalT Γ T b env S1
    | false => some (.ok false S1)
  | .or a b, env, S => bnd (evalT Γ T a env S) fun c S1 => match c with
    | true => some (.ok true S1)
    | false => evalT Γ T b env S1
  | .cmp o a b, env, S => bnd (evalE Γ T a env S) fun x S1 => bnd (evalE Γ T b env S1) fun y S2 => okO (cmpD o x y S2) S2
  | .c k, env, S => okO (truD S k.d) S
  | .v i, env, S => match env[i]? with
    | some (some d) => okO (truD S d) S
    | _ => none
  | .isi a t, env, S => bnd (evalE Γ T a env S) fun x S1 => okO (isiD S1 x t) S1
  | .call f p es, env, S => bnd (bnd (evalEs Γ T es env S) fun xs S1 => callP Γ p f xs S1) fun d S1 => okO (truD S1 d) S1
  | .bi b es, env, S => bnd (bnd (evalEs Γ T es env S) fun xs S1 => okO (biD b xs S1) S1) fun d S1 => okO (truD S1 d) S1
  | .me b o es, env, S => bnd (bnd (evalE Γ T o env S) fun x S1 => if tyM b x S1 then bnd (evalEs Γ T es env S1) fun xs S2 => meD b x xs S2 else none) fun d S1 => okO (truD S1 d) S1
  | .ix a i, env, S => bnd (bnd (evalE Γ T a env S) fun x S1 => bnd (evalE Γ T i env S1) fun y S2 => okO (ixD S2 x y) S2) fun d S1 => okO (truD S1 d) S1
  | .att c o f, env, S => bnd (bnd (evalE Γ T o env S) fun x S1 => okO (fldD S1 c x f) S1) fun d S1 => okO (truD S1 d) S1
  | .mcl c f m p o es, env, S => bnd (bnd (evalE Γ T o env S) fun x S1 => if mthD S1 c x m then bnd (evalEs Γ T es env S1) fun xs S2 => callP Γ p f (x :: xs) S2 else none) fun d S1 => okO (truD S1 d) S1
  | _, _, _ => none
@[simp] noncomputable def evalEs (Γ : Gam) (T : Tab) : Exs → En → Sto → Option (Ro (List D))
  | .nil, _, S => some (.ok [] S)
  | .cons e r, env, S => bnd (evalE Γ T e env S) fun x S1 => bnd (evalEs Γ T r env S1) fun xs S2 => some (.ok (x :: xs) S2)
@[simp] noncomputable def evalO (Γ : Gam) (T : Tab) : Oe → En → Sto → Option (Ro (Option Int))
  | .no, _, S => some (.ok none S)
  | .so e, env, S => bnd (evalE Γ T e env S) fun x S1 => match x with
    | .int i => some (.ok (some i) S1)
    | _ => none
-- a comprehension: its test
@[simp] noncomputable def evalC (Γ : Gam) (T : Tab) : Oe → En → Sto → Option (Ro Bool)
  | .no, _, S => some (.ok true S)
  | .so e, env, S => evalT Γ T e env S
-- what is walked
@[simp] noncomputable def evalI (Γ : Gam) (T : Tab) : Itr → En → Sto → Option (Ro (List D))
  | .of e, env, S => bnd (evalE Γ T e env S) fun x S1 => okO (itD x) S1
  | .rng1 a, env, S => bnd (evalE Γ T a env S) fun x S1 => match x with
    | .int j => okO (rngD 0 j) S1
    | _ => none
  | .rng2 a b, env, S => bnd (evalE Γ T a env S) fun x S1 => bnd (evalE Γ T b env S1) fun y S2 => match x, y with
    | .int i, .int j => okO (rngD i j) S2
    | _, _ => none
  | .enum a, env, S => bnd (evalE Γ T a env S) fun x S1 => match x with
    | .tup xs => some (.ok (enF 0 xs) S1)
    | .lst xs => some (.ok (enF 0 xs) S1)
    | _ => none
end
def augI (o : BOp) (a b : Int) : Option Int := match o with
  | .add => some (a + b)
  | .sub => some (a - b)
  | _ => none
inductive So where
  | nx (e : En) (S : Sto) | bk (e : En) (S : Sto) | ct (e : En) (S : Sto) | rt (d : D) (S : Sto) | ex (c : Nat) (e : En) (S : Sto)
def putS (n : Nat) (k d : D) (env : En) (S : Sto) : Option So := match S[n]? with
  | some (.dct t ks vs) => if ks.length < sizeLine then (dPut (t, ks, vs) k d).map fun q => .nx env (S.set n (.dct t q.1 q.2)) else none
  | _ => none
def bnS {α : Type} (x : Option (Ro α)) (env : En) (f : α → Sto → Option So) : Option So := match x with
  | some (.ok a S) => f a S
  | some (.ex c S) => some (.ex c env S)
  | none => none
@[simp] theorem bnS_ok {α : Type} {a : α} {S : Sto} {env : En} {f : α → Sto → Option So} : bnS (some (.ok a S)) env f = f a S := rfl
@[simp] theorem bnS_ex {α : Type} {c : Nat} {S : Sto} {env : En} {f : α → Sto → Option So} : bnS (some (.ex c S)) env f = some (.ex c env S) := rfl
@[simp] theorem bnS_none {α : Type} {env : En} {f : α → Sto → Option So} : bnS none env f = none := rfl
def seqS (x : Option So) (f : En → Sto → Option So) : Option So := match x with
  | some (.nx e S) => f e S
  | r => r
@[simp] theorem seqS_nx {e : En} {S : Sto} {f : En → Sto → Option So} : seqS (some (.nx e S)) f = f e S := rfl
@[simp] theorem seqS_bk {e : En} {S : Sto} {f : En → Sto → Option So} : seqS (some (.bk e S)) f = some (.bk e S) := rfl
@[simp] theorem seqS_ct {e : En} {S : Sto} {f : En → Sto → Option So} : seqS (some (.ct e S)) f = some (.ct e S) := rfl
@[simp] theorem seqS_rt {d : D} {S : Sto} {f : En → Sto → Option So} : seqS (some (.rt d S)) f = some (.rt d S) := rfl
@[simp] theorem seqS_ex {c : Nat} {e : En} {S : Sto} {f : En → Sto → Option So} : seqS (some (.ex c e S)) f = some (.ex c e S) := rfl
@[simp] theorem seqS_none {f : En → Sto → Option So} : seqS none f = none := rfl
/-- the turns of a for -/
def forL (g : Tg) (b : En → Sto → Option So) : List D → En → Sto → Option So
  | [], env, S => some (.nx env S)
  | x :: xs, env, S => match asgT g x env with
    | none => none
    | some env1 => match b env1 S with
      | some (.nx e S1) => forL g b xs e S1
      | some (.ct e S1) => forL g b xs e S1
      | some (.bk e S1) => some (.nx e S1)
      | r => r
/-! a while: it runs to its end, or there is nothing -/
inductive Runs {α β : Type} (step : α → Option (α ⊕ β)) : Nat → α → β → Prop
  | stop {a : α} {b : β} : step a = some (.inr b) → Runs step 0 a b
  | go {a a' : α} {b : β} {n : Nat} : step a = some (.inl a') → Runs step n a' b → Runs step (n + 1) a b
theorem Runs.det {α β : Type} {step : α → Option (α ⊕ β)} : ∀ {n m : Nat} {a : α} {b c : β}, Runs step n a b → Runs step m a c → b = c
  | _, _, _, _, _, .stop e, .stop e' => by rw [e] at e'; cases e'; rfl
  | _, _, _, _, _, .stop e, .go e' _ => by rw [e] at e'; cases e'
  | _, _, _, _, _, .go e _, .stop e' => by rw [e] at e'; cases e'
  | _, _, _, _, _, .go e r, .go e' r' => by rw [e] at e'; cases e'; exact r.det r'
open Classical in
noncomputable def lfp {α β : Type} (step : α → Option (α ⊕ β)) (a : α) : Option β := if h : ∃ b n, Runs step n a b then some (choose h) else none
theorem lfp_some {α β : Type} {step : α → Option (α ⊕ β)} {a : α} {b : β} {n : Nat} (h : Runs step n a b) : lfp step a = some b := by
  have e : ∃ b n, Runs step n a b := ⟨b, n, h⟩
  unfold lfp
  rw [dif_pos e]
  obtain ⟨m, hm⟩ := Classical.choose_spec e
  exact congrArg some (hm.det h)
theorem lfp_runs {α β : Type} {step : α → Option (α ⊕ β)} {a : α} {b : β} (h : lfp step a = some b) : ∃ n, Runs step n a b := by
  unfold lfp at h
  split at h
  · rename_i e
    obtain ⟨m, hm⟩ := Classical.choose_spec e
    cases h
    exact ⟨m, hm⟩
  · cases h
theorem lfp_eq {α β : Type} {step : α → Option (α ⊕ β)} (a : α) : lfp step a = match step a with
    | none => none
    | some (.inr b) => some b
    | some (.inl a') => lfp step a' := by
  cases e : step a with
  | none =>
    cases q : lfp step a with
    | none => rfl
    | some b =>
      obtain ⟨n, r⟩ := lfp_runs q
      cases r with
      | stop e' => rw [e] at e'; cases e'
      | go e' _ => rw [e] at e'; cases e'
  | some z =>
    cases z with
    | inr b => exact lfp_some (.stop e)
    | inl a' =>
      show lfp step a = lfp step a'
      cases q : lfp step a' with
      | some b =>
        obtain ⟨n, r⟩ := lfp_runs q
        exact lfp_some (.go e r)
      | none =>
        cases q2 : lfp step a with
        | none => rfl
        | some b =>
          obtain ⟨n, r⟩ := lfp_runs q2
          cases r with
          | stop e' => rw [e] at e'; cases e'
          | go e' r' => rw [e] at e'; cases e'; rw [lfp_some r'] at q; cases q
def whlStep (t : En → Sto → Option (Ro Bool)) (b : En → Sto → Option So) (z : En × Sto) : Option ((En × Sto) ⊕ So) := match t z.1 z.2 with
  | none => none
  | some (.ex c S) => some (.inr (.ex c z.1 S))
  | some (.ok false S) => some (.inr (.nx z.1 S))
  | some (.ok true S) => match b z.1 S with
    | none => none
    | some (.nx e S1) => some (.inl (e, S1))
    | some (.ct e S1) => some (.inl (e, S1))
    | some (.bk e S1) => some (.inr (.nx e S1))
    | some r => some (.inr r)
/-- a list of the store, from now on standing still -/
def fzD (i : Nat) (env : En) (S : Sto) : Option (En × Sto) := match env[i]? with
  | some (some (.ref n)) => match S[n]? with
    | some (.lst xs) => if pures xs then some (env.set i (some (.lst xs)), S.set n .dead) else none
    | some (.dct t ks vs) => if pures ks && pures vs then some (env.set i (some (.dct t ks vs)), S.set n .dead) else none
    | _ => none
  | _ => none
/-- an except clause's suite: class c was caught -/
@[simp] noncomputable def hdX (Γ : Gam) (T : Tab) (c : Nat) : Hd → En → Sto → Option So
  | .ret x, env, S => match evalE Γ T x env S with
    | some (.ok d S1) => some (.rt d S1)
    | _ => none
  | .retI s j, env, S => match T.sub c j with
    | some b => some (.rt (.tup [s.d, .bl b]) S)
    | none => none
  | .asg i x, env, S => match evalE Γ T x env S with
    | some (.ok d S1) => some (.nx (env.set i (some d)) S1)
    | _ => none
def nmX (nm : Option Nat) (env : En) : En := match nm with
  | some i => env.set i none
  | none => env
@[simp] theorem nmX_some {i : Nat} {env : En} : nmX (some i) env = env.set i none := rfl
@[simp] theorem nmX_none {env : En} : nmX none env = env := rfl
def tryR (T : Tab) (c : Nat) (nm : Option Nat) (f : Nat → En → Sto → Option So) (r : Option So) : Option So := match r with
  | some (.ex c' e S) => match T.sub c' c with
    | some true => f c' (nmX nm e) S
    | some false => some (.ex c' e S)
    | none => none
  | r => r
@[simp] theorem tryR_nx {T : Tab} {c : Nat} {nm : Option Nat} {f : Nat → En → Sto → Option So} {e : En} {S : Sto} : tryR T c nm f (some (.nx e S)) = some (.nx e S) := rfl
@[simp] theorem tryR_rt {T : Tab} {c : Nat} {nm : Option Nat} {f : Nat → En → Sto → Option So} {e : D} {S : Sto} : tryR T c nm f (some (.rt e S)) = some (.rt e S) := rfl
theorem tryR_ex {T : Tab} {c c' : Nat} {nm : Option Nat} {f : Nat → En → Sto → Option So} {e : En} {S : Sto} (h : T.sub c' c = some true) : tryR T c nm f (some (.ex c' e S)) = f c' (nmX nm e) S := by
  unfold tryR; simp only [h]
/-- what a walk through a dict gives -/
def dWalk : DK → List D → List D → List D
  | .items, ks, vs => ks.zipWith (fun k v => .tup [k, v]) vs
  | .vals, _, vs => vs
  | .keys, ks, _ => ks
mutual
@[simp] noncomputable def exec (Γ : Gam) (T : Tab) : Stm → En → Sto → Option So
  | .asg t e, env, S => bnS (evalE Γ T e env S) env fun d S1 => match asgT t d env with
    | some env1 => some (.nx env1 S1)
    | none => none
  | .asgC i m own tg it cond x, env, S => bnS (evalE Γ T (.lc m own tg it cond x) env S) env fun d S1 => some (.nx (env.set i (some d)) S1)
  | .asgS o i e, env, S => bnS (evalE Γ T e env S) env fun d S1 => bnS (evalE Γ T o env S1) env fun x S2 => bnS (evalE Γ T i env S2) env fun k S3 => match x, k with
    | .ref n, .int k => match getL S3 n with
      | some xs => match ixN xs.length k with
        | some j => some (.nx env (S3.set n (.lst (xs.set j d))))
        | none => none
      | _ => putS n (.int k) d env S3
    | .ref n, k => putS n k d env S3
    | _, _ => none
  | .aug i o e, env, S => match env[i]? with
    | some (some x) => bnS (evalE Γ T e env S) env fun y S1 => match x, y with
      | .int a, .int b => match augI o a b with
        | some z => some (.nx (env.set i (some (.int z))) S1)
        | none => none
      | _, _ => none
    | _ => none
  | .augS a i o e, env, S => bnS (evalE Γ T a env S) env fun x S1 => bnS (evalE Γ T i env S1) env fun k S2 => match x, k with
    | .ref n, .int k => match getL S2 n with
      | some xs => match atI xs k with
        | some (.int v) => bnS (evalE Γ T e env S2) env fun y S3 => match y, getL S3 n with
          | .int w, some ys => match augI o v w, ixN ys.length k with
            | some z, some j => some (.nx env (S3.set n (.lst (ys.set j (.int z)))))
            | _, _ => none
          | _, _ => none
        | _ => none
      | _ => none
    | _, _ => none
  | .ex e, env, S => bnS (evalE Γ T e env S) env fun _ S1 => some (.nx env S1)
  | .ret e, env, S => bnS (evalE Γ T e env S) env fun d S1 => some (.rt d S1)
  | .retN, env, S => some (.rt .non S)
  | .ifs c a b, env, S => bnS (evalT Γ T c env S) env fun k S1 => match k with
    | true => execs Γ T a env S1
    | false => execs Γ T b env S1
  | .for t it b, env, S => bnS (evalI Γ T it env S) env fun xs S1 => forL t (fun e S => execs Γ T b e S) xs env S1
  | .forD kd t e b, env, S => bnS (evalE Γ T e env S) env fun d S1 => match d with
    | .dct 0 ks vs => forL t (fun e S => execs Γ T b e S) (dWalk kd ks vs) env S1
    | _ => none
  | .whl c b, env, S => lfp (whlStep (fun e S => evalT Γ T c e S) (fun e S => execs Γ T b e S)) (env, S)
  | .brk, env, S => some (.bk env S)
  | .cont, env, S => some (.ct env S)
  | .pass, env, S => some (.nx env S)
  | .raise c, env, S => some (.ex c env S)
  | .asgA c o f e, env, S => bnS (evalE Γ T e env S) env fun d S1 => bnS (evalE Γ T o env S1) env fun x S2 => match x with
    | .ref n => match S2[n]? with
      | some (.ins c' ns vs) => if c' = c ∧ ns.length < 1000 then some (.nx env (S2.set n (.ins c' (putA f d ns vs).1 (putA f d ns vs).2))) else none
      | _ => none
    | _ => none
  | .tryE b c nm h, env, S => tryR T c nm (fun c' e S1 => hdX Γ T c' h e S1) (execs Γ T b env S)
@[simp] noncomputable def execs (Γ : Gam) (T : Tab) : Stms → En → Sto → Option So
  | .nil, env, S => some (.nx env S)
  | .cons s r, env, S => seqS (exec Γ T s env S) fun e S1 => execs Γ T r e S1
  | .fz i r, env, S => match fzD i env S with
    | some (e, S1) => execs Γ T r e S1
    | none => none
  | .fzd i r, env, S => match env[i]? with
    | some (some d) => match frz 9 d S with
      | some (d', S1) => execs Γ T r (env.set i (some d')) S1
      | none => none
    | _ => none
end
/-- an own class: its attributes, the index of its __init__, of its methods -/
structure Cl where
  name : Str
  fs : List Str
  ini : Nat
  ms : List (Str × Nat)
/-- the program's defs: how many slots, the body -/
structure Fn where
  name : Str
  ps : List Str
  N : List Str
  body : Stms
def envOf (n : Nat) (ds : List D) : En := ds.map some ++ List.replicate (n - ds.length) none
def outS (r : Option So) : Option (Ro D) := match r with
  | some (.nx _ S) => some (.ok .non S)
  | some (.rt d S) => some (.ok d S)
  | some (.ex c _ S) => some (.ex c S)
  | _ => none
@[simp] theorem outS_nx {e : En} {S : Sto} : outS (some (.nx e S)) = some (.ok .non S) := rfl
@[simp] theorem outS_rt {d : D} {S : Sto} : outS (some (.rt d S)) = some (.ok d S) := rfl
@[simp] theorem outS_ex {c : Nat} {e : En} {S : Sto} : outS (some (.ex c e S)) = some (.ex c S) := rfl
noncomputable def callK (F : List Fn) (T : Tab) : Nat → Gam
  | 0 => fun _ _ _ => none
  | k + 1 => fun f ds S => match F[f]? with
    | some fn => if ds.length = fn.ps.length then outS (execs (callK F T k) T fn.body (envOf fn.N.length ds) S) else none
    | none => none
end Ip
/-! ## What an evaluation leaves; the operations by values -/
namespace Ip
open PySem PySem.Spec PyProof.Rows L2

section
variable {K : PySem.W.Frag} {M : Am}
def Res (K : PySem.W.Frag) (M : Am) (W : WX) (σ : L2.St) (G Φ : Hp) (μ : Mu) {α β : Type} (r : Option (Ro α)) (R : Hp → Mu → α → β → Prop) (Q : β → Hp → Prop) : Prop :=
  match r with
  | some (.ok a S) => ∀ G' μ' H' b, Gr Φ G μ G' μ' → Rel K M G' Φ μ' S H' → R G' μ' a b → Q b H'
  | some (.ex c S) => ∀ G' μ' H', Gr Φ G μ G' μ' → Rel K M G' Φ μ' S H' → W (.ref (M.exc c)) none σ H'
  | none => False
variable {W : WX} {σ : L2.St} {G G1 Φ : Hp} {μ μ1 : Mu} {α β γ δ : Type}
theorem Res.mono {r : Option (Ro α)} {R : Hp → Mu → α → β → Prop} {Q : β → Hp → Prop} (g : Gr Φ G μ G1 μ1) (h : Res K M W σ G Φ μ r R Q) : Res K M W σ G1 Φ μ1 r R Q := by
  cases r with
  | none => exact h
  | some z =>
    cases z with
    | ok a S => exact fun G' μ' H' b g' => h G' μ' H' b (g.trans g')
    | ex c S => exact fun G' μ' H' g' => h G' μ' H' (g.trans g')
theorem Res.imp {r : Option (Ro α)} {R : Hp → Mu → α → β → Prop} {Q Q' : β → Hp → Prop} (h : Res K M W σ G Φ μ r R Q) (f : ∀ b H, Q b H → Q' b H) : Res K M W σ G Φ μ r R Q' := by
  cases r with
  | none => exact h
  | some z =>
    cases z with
    | ok a S => exact fun G' μ' H' b g' r' q => f _ _ (h G' μ' H' b g' r' q)
    | ex c S => exact h
/-- where evaluation stands between two parts -/
def Mid (K : PySem.W.Frag) (M : Am) (W : WX) (σ : L2.St) (G Φ : Hp) (μ : Mu) {α β γ δ : Type} (f : α → Sto → Option (Ro γ)) (Ra : Hp → Mu → α → β → Prop) (Rc : Hp → Mu → γ → δ → Prop) (Q : δ → Hp → Prop) (b : β) (H1 : Hp) : Prop :=
  ∃ G1 μ1 S1 a, Gr Φ G μ G1 μ1 ∧ Rel K M G1 Φ μ1 S1 H1 ∧ Ra G1 μ1 a b ∧ Res K M W σ G1 Φ μ1 (f a S1) Rc Q
theorem Res.bind {r : Option (Ro α)} {f : α → Sto → Option (Ro γ)} {Ra : Hp → Mu → α → β → Prop} {Rc : Hp → Mu → γ → δ → Prop} {Q : δ → Hp → Prop} (h : Res K M W σ G Φ μ (bnd r f) Rc Q) :
    Res K M W σ G Φ μ r Ra (Mid K M W σ G Φ μ f Ra Rc Q) := by
  cases r with
  | none => exact h
  | some z =>
    cases z with
    | ok a S => exact fun G' μ' H' b g' r' q => ⟨G', μ', S, a, g', r', q, Res.mono g' h⟩
    | ex c S => exact h
/-- a value that was there -/
theorem Res.now {a : α} {S : Sto} {H : Hp} {b : β} {R : Hp → Mu → α → β → Prop} {Q : β → Hp → Prop} (h : Res K M W σ G Φ μ (some (.ok a S)) R Q) (r : Rel K M G Φ μ S H) (q : R G μ a b) : Q b H :=
  h G μ H b .refl r q
end
abbrev rD (K : PySem.W.Frag) (M : Am) : Hp → Mu → D → V → Prop := fun G μ d v => RD K M G μ d v
abbrev rDs (K : PySem.W.Frag) (M : Am) : Hp → Mu → List D → List V → Prop := fun G μ d v => RDs K M G μ d v
abbrev rB : Hp → Mu → Bool → Bool → Prop := fun _ _ a b => a = b
/-- a new list, of the store or standing still -/
theorem res_mkL {K : PySem.W.Frag} {M : Am} {W : WX} {σ : L2.St} {G Φ : Hp} {μ : Mu} {m : Bool} {S : Sto} {H : Hp} {xs : List D} {ys : List V} {Q : VK} (h : Res K M W σ G Φ μ (mkL m xs S) (rD K M) Q) (r : Rel K M G Φ μ S H) (q : RDs K M G μ xs ys) :
    ∀ p, H p = none → Q (.ref p) (upd H p (.lst ys)) := by
  intro p hp
  cases m with
  | true =>
    rw [mkL_t] at h
    have mm : ∀ n a, μ n = some a → muAdd μ S.length p n = some a := fun n a e => by
      unfold muAdd
      rw [if_neg (fun z => by have := r.ub n a e; omega)]
      exact e
    obtain ⟨r', g'⟩ := r.fresh (ob := .lst xs) (u := .lst ys) hp ⟨ys, upd_same, RDs.grow (fun _ _ h => h) mm _ _ q⟩
    exact h G (muAdd μ S.length p) _ _ g' r' (.ref (by unfold muAdd; rw [if_pos rfl]))
  | false =>
    rw [mkL_f] at h
    obtain ⟨r', g'⟩ := r.still (u := .lst ys) hp
    exact h _ μ _ _ g' r' (.lst upd_same (RDs.grow g'.g g'.m _ _ q))
theorem res_mkD0 {K : PySem.W.Frag} {M : Am} {W : WX} {σ : L2.St} {G Φ : Hp} {μ : Mu} {m : Bool} {S : Sto} {H : Hp} {kk : List Key} {vs : List D} {ys : List V} {Q : VK} (h : Res K M W σ G Φ μ (mkD m 0 (kk.map kD) vs S) (rD K M) Q) (r : Rel K M G Φ μ S H) (hl : kk.length = ys.length) (q : RDs K M G μ vs ys) :
    ∀ p, H p = none → Q (.ref p) (upd H p (.dK (kk.zip ys))) := by
  intro p hp
  cases m with
  | true =>
    rw [mkD_t] at h
    have mm : ∀ n a, μ n = some a → muAdd μ S.length p n = some a := fun n a e => by
      unfold muAdd
      rw [if_neg (fun z => by have := r.ub n a e; omega)]
      exact e
    obtain ⟨r', g'⟩ := r.fresh (ob := .dct 0 (kk.map kD) vs) (u := .dK (kk.zip ys)) hp (.inl ⟨rfl, kk, ys, rfl, hl, RDs.grow (fun _ _ h => h) mm _ _ q, upd_same⟩)
    exact h G (muAdd μ S.length p) _ _ g' r' (.ref (by unfold muAdd; rw [if_pos rfl]))
  | false =>
    rw [mkD_f] at h
    obtain ⟨r', g'⟩ := r.still (u := .dK (kk.zip ys)) hp
    exact h _ μ _ _ g' r' (.dK rfl hl (RDs.grow g'.g g'.m _ _ q) upd_same)
theorem res_mkD1 {K : PySem.W.Frag} {M : Am} {W : WX} {σ : L2.St} {G Φ : Hp} {μ : Mu} {m : Bool} {S : Sto} {H : Hp} {kk : List (List Key)} {vs : List D} {ys : List V} {Q : VK} (h : Res K M W σ G Φ μ (mkD m 1 (kk.map fun k => .tup (k.map kD)) vs S) (rD K M) Q) (r : Rel K M G Φ μ S H) (hl : kk.length = ys.length) (q : RDs K M G μ vs ys) :
    ∀ p, H p = none → Q (.ref p) (upd H p (.dT (kk.zip ys))) := by
  intro p hp
  cases m with
  | true =>
    rw [mkD_t] at h
    have mm : ∀ n a, μ n = some a → muAdd μ S.length p n = some a := fun n a e => by
      unfold muAdd
      rw [if_neg (fun z => by have := r.ub n a e; omega)]
      exact e
    obtain ⟨r', g'⟩ := r.fresh (ob := .dct 1 (kk.map fun k => .tup (k.map kD)) vs) (u := .dT (kk.zip ys)) hp (.inr ⟨rfl, kk, ys, rfl, hl, RDs.grow (fun _ _ h => h) mm _ _ q, upd_same⟩)
    exact h G (muAdd μ S.length p) _ _ g' r' (.ref (by unfold muAdd; rw [if_pos rfl]))
  | false =>
    rw [mkD_f] at h
    obtain ⟨r', g'⟩ := r.still (u := .dT (kk.zip ys)) hp
    exact h _ μ _ _ g' r' (.dT rfl hl (RDs.grow g'.g g'.m _ _ q) upd_same)
/-- a new tuple -/
theorem res_tup {K : PySem.W.Frag} {M : Am} {W : WX} {σ : L2.St} {G Φ : Hp} {μ : Mu} {S : Sto} {H : Hp} {xs : List D} {ys : List V} {Q : VK} (h : Res K M W σ G Φ μ (some (.ok (.tup xs) S)) (rD K M) Q) (r : Rel K M G Φ μ S H) (q : RDs K M G μ xs ys) :
    ∀ p, H p = none → Q (.ref p) (upd H p (.tup ys)) := by
  intro p hp
  obtain ⟨r', g'⟩ := r.still (u := .tup ys) hp
  exact h _ μ _ _ g' r' (.tup upd_same (RDs.grow g'.g g'.m _ _ q))

/-! ### reading lists -/
section
variable {K : PySem.W.Frag} {M : Am} {G Φ H : Hp} {μ : Mu} {S : Sto}
theorem Rel.sq (r : Rel K M G Φ μ S H) {a : Addr} {xs : List V} (h : SqL K G a xs) : SqL K H a xs := by
  rcases h with (h | ⟨o, h⟩) | h
  · exact .inl (.inl (r.g _ _ h).lst)
  · exact .inl (.inr ⟨o, (r.g _ _ h).frz⟩)
  · exact .inr h
theorem lstD_ok (r : Rel K M G Φ μ S H) {d : D} {v : V} {xs : List D} (q : RD K M G μ d v) (e : lstD S d = some xs) : ∃ p ys, v = .ref p ∧ H p = some (.lst ys) ∧ RDs K M G μ xs ys := by
  cases q with
  | lst h q => cases e; exact ⟨_, _, rfl, (r.g _ _ h).lst, q⟩
  | ref h =>
    rename_i n a
    obtain ⟨ys, h1, h2⟩ := r.look (getL_of e) h
    exact ⟨a, ys, rfl, h1, h2⟩
  | _ => cases e
theorem seqD_ok (r : Rel K M G Φ μ S H) {d : D} {v : V} {xs : List D} (q : RD K M G μ d v) (e : seqD S d = some xs) : ∃ p ys, v = .ref p ∧ (SqL K H p ys ∨ SqT K H p ys) ∧ RDs K M G μ xs ys := by
  cases q with
  | tup h q => cases e; exact ⟨_, _, rfl, .inr (SqT.of (r.g _ _ h).tup), q⟩
  | lst h q => cases e; exact ⟨_, _, rfl, .inl (SqL.of (r.g _ _ h).lst), q⟩
  | scr h => cases e; exact ⟨_, _, rfl, .inl (r.sq h), RDs.ints _⟩
  | ref h =>
    rename_i n a
    obtain ⟨ys, h1, h2⟩ := r.look (getL_of e) h
    exact ⟨a, ys, rfl, .inl (SqL.of h1), h2⟩
  | _ => cases e
theorem asInts_ok : ∀ {ds : List D} {ns : List Int}, asInts ds = some ns → ds = ns.map .int
  | [], ns, e => by cases e; rfl
  | .int i :: r, ns, e => by
    unfold asInts at e
    cases h : asInts r with
    | none => rw [h] at e; cases e
    | some z => rw [h] at e; cases e; rw [List.map_cons, asInts_ok h]
  | .non :: r, ns, e => by cases e
  | .bl _ :: r, ns, e => by cases e
  | .str _ :: r, ns, e => by cases e
  | .tup _ :: r, ns, e => by cases e
  | .lst _ :: r, ns, e => by cases e
  | .scr _ :: r, ns, e => by cases e
  | .dct _ _ _ :: r, ns, e => by cases e
  | .obj _ _ _ :: r, ns, e => by cases e
  | .ref _ :: r, ns, e => by cases e
theorem asBls_ok : ∀ {ds : List D} {ns : List Bool}, asBls ds = some ns → ds = ns.map .bl
  | [], ns, e => by cases e; rfl
  | .bl i :: r, ns, e => by
    unfold asBls at e
    cases h : asBls r with
    | none => rw [h] at e; cases e
    | some z => rw [h] at e; cases e; rw [List.map_cons, asBls_ok h]
  | .non :: r, ns, e => by cases e
  | .int _ :: r, ns, e => by cases e
  | .str _ :: r, ns, e => by cases e
  | .tup _ :: r, ns, e => by cases e
  | .lst _ :: r, ns, e => by cases e
  | .scr _ :: r, ns, e => by cases e
  | .dct _ _ _ :: r, ns, e => by cases e
  | .obj _ _ _ :: r, ns, e => by cases e
  | .ref _ :: r, ns, e => by cases e
theorem asStrs_ok : ∀ {ds : List D} {ns : List Str}, asStrs ds = some ns → ds = ns.map .str
  | [], ns, e => by cases e; rfl
  | .str i :: r, ns, e => by
    unfold asStrs at e
    cases h : asStrs r with
    | none => rw [h] at e; cases e
    | some z => rw [h] at e; cases e; rw [List.map_cons, asStrs_ok h]
  | .non :: r, ns, e => by cases e
  | .int _ :: r, ns, e => by cases e
  | .bl _ :: r, ns, e => by cases e
  | .tup _ :: r, ns, e => by cases e
  | .lst _ :: r, ns, e => by cases e
  | .scr _ :: r, ns, e => by cases e
  | .dct _ _ _ :: r, ns, e => by cases e
  | .obj _ _ _ :: r, ns, e => by cases e
  | .ref _ :: r, ns, e => by cases e
theorem atI_RDs {xs : List D} {ys : List V} {i : Int} {d : D} (q : RDs K M G μ xs ys) (e : atI xs i = some d) : ∃ v, atI ys i = some v ∧ RD K M G μ d v := by
  unfold atI at e ⊢
  rw [q.length] at e
  cases h : ixN ys.length i with
  | none => rw [h] at e; cases e
  | some j =>
    rw [h] at e
    obtain ⟨v, h1, h2⟩ := q.get e
    exact ⟨v, h1, h2⟩
end

/-! ### tuple * 0, tuple * 1, text * int -/
theorem tuple_times1 (l : Addr) (items : Array Value) (n : Nat) (dd : Option Addr) (sl : Array (Option Value)) (u : Tok) :
    Meets (Builtin.«tuple.__mul__» ⟨[.ref l, .int 1 u], []⟩) (fun _ R s => s.heap.get? l = some { cls := .type "tuple", dict := dd, data := .seq items n, slots := sl } ∧ R (.ok (.ret (Value.ref l))) s) :=
  .of_wp fun prog w A R s h => by
    obtain ⟨hp, g, d, tk, os⟩ := s
    obtain ⟨hl, h⟩ := h
    have f1 := AutoSeq1.idx_int
    wp_walk using wpAny_loadPart' hl
    repeat (first
      | (refine wpAny_ite_false (by decide) ?_; wp_walk using wpAny_loadPart' hl)
      | (refine wpAny_ite_true (by simp) ?_; wp_walk using wpAny_loadPart' hl))
    exact ⟨_, rfl, h⟩
theorem tuple_times0 (l : Addr) (items : Array Value) (n : Nat) (dd : Option Addr) (sl : Array (Option Value)) (u : Tok) (c1 : items.isEmpty = false) :
    Meets (Builtin.«tuple.__mul__» ⟨[.ref l, .int 0 u], []⟩) (fun _ R s => s.heap.get? l = some { cls := .type "tuple", dict := dd, data := .seq items n, slots := sl } ∧
      R (.ok (.ret (Value.ref s.heap.objs.size))) { s with heap := s.heap.push { cls := Value.type "tuple", data := Data.seq #[] }, toks := s.toks }) :=
  .of_wp fun prog w A R s h => by
    obtain ⟨hp, g, d, tk, os⟩ := s
    obtain ⟨hl, h⟩ := h
    have f1 := AutoSeq1.idx_int
    wp_walk using wpAny_loadPart' hl
    repeat (first
      | (refine wpAny_ite_false (by decide) ?_; wp_walk using wpAny_loadPart' hl)
      | (refine wpAny_ite_false (by simp [c1]) ?_; wp_walk using wpAny_loadPart' hl)
      | (refine wpAny_ite_true (by simp) ?_; wp_walk using wpAny_loadPart' hl))
    exact ⟨_, rfl, h⟩
/-- tuple * 0, tuple * 1 -/
def rTimes (K : PySem.W.Frag) : R2 := fun x y H Q => ∃ l k xs, x = .ref l ∧ y = .int k ∧ SqT K H l xs ∧ xs ≠ [] ∧ ((k = 1 ∧ Q (.ref l) H) ∨ (k = 0 ∧ ∀ p, H p = none → Q (.ref p) (upd H p (.tup []))))
theorem op_times {X : Cx} : OpR X (binaryOp .Mult) (rTimes X.K) := by
  intro pins s σ H x y v u Q I rx ry h
  obtain ⟨l, k, xs, rfl, rfl, hT, hne, h⟩ := h
  cases rx
  obtain ⟨tk, rfl⟩ := ry
  obtain ⟨its, r, ⟨⟨oc, od, odt, osl⟩, ho, hc, m, hd⟩, hs⟩ := I.tuple hT
  simp only at hc hd
  subst hc hd
  have hi : its.toArray.isEmpty = false := by
    cases its with
    | nil => exact absurd (List.eq_nil_of_length_eq_zero (r.length : xs.length = 0)) hne
    | cons a b => rfl
  rcases h with ⟨rfl, q⟩ | ⟨rfl, q⟩
  · exact wpAny_binaryOp_repeat_ref (T := "tuple") (U := "int") (by decide) ⟨_, ho, rfl⟩ (fun s' => typeIs_int s' 1 tk) noFill_tuple_mul F.fills_int_mul F.slot_int_rmul repeat_tuple F.slot_int_index.lookup
      (call_meets F.slot_int_rmul (typeIs_int s 1 tk) F.entry_int_rmul (F.args_int_rmul_2 _ _) (int_rmul_tuple 1 tk l its.toArray m od osl)
        ⟨ho, rfl, ⟨_, ho, rfl⟩, call_meets F.slot_tuple_mul ⟨_, ho, rfl⟩ F.entry_tuple_mul (F.args_tuple_mul_2 _ _) (tuple_times1 l its.toArray m od osl tk) ⟨ho, ⟨.ref l, H, I, rfl, q⟩⟩⟩)
  · refine wpAny_binaryOp_repeat_ref (T := "tuple") (U := "int") (by decide) ⟨_, ho, rfl⟩ (fun s' => typeIs_int s' 0 tk) noFill_tuple_mul F.fills_int_mul F.slot_int_rmul repeat_tuple F.slot_int_index.lookup
      (call_meets F.slot_int_rmul (typeIs_int s 0 tk) F.entry_int_rmul (F.args_int_rmul_2 _ _) (int_rmul_tuple 0 tk l its.toArray m od osl)
        ⟨ho, rfl, ⟨_, ho, rfl⟩, call_meets F.slot_tuple_mul ⟨_, ho, rfl⟩ F.entry_tuple_mul (F.args_tuple_mul_2 _ _) (tuple_times0 l its.toArray m od osl tk hi) ⟨ho, ?_⟩⟩)
    exact ⟨.ref s.heap.objs.size, _, I.laid (t' := s.toks) (o := .tup []) (fun b ob q => Heap.get?_push_of_some _ q) (Nat.le_refl _) ⟨Nat.zero_le _, [], .nil, IsTup.new _ _⟩, rfl, q _ (I.hok.fresh (Nat.le_refl _))⟩
/-- text * int -/
def rTimesS : R2 := fun x y H Q => ∃ z k, x = .str z ∧ y = .int k ∧ 0 ≤ k ∧ k ≤ 1000 ∧ z.length ≤ 1000 ∧ Q (.str (Txt.mul z k)) H
theorem op_timesS {X : Cx} : OpR X (binaryOp .Mult) rTimesS := by
  intro pins s σ H x y v u Q I rx ry h
  obtain ⟨z, k, rfl, rfl, h0, h1, hz, q⟩ := h
  obtain ⟨t, rfl⟩ := rx
  obtain ⟨t2, rfl⟩ := ry
  have hm : z.length * k.toNat ≤ 1000 * 1000 := Nat.mul_le_mul hz (by omega)
  refine SB.mul ⟨?_, fun c _ => ?_, fun _ _ => ?_⟩ fun t' tk => ⟨.str (Txt.mul z k), H, I.tok tk, ⟨t', rfl⟩, q⟩
  · rw [decide_eq_false (by omega), decide_eq_false (by omega)]; rfl
  · have k1 : 1 ≤ k := by omega
    have e : (2 ^ 63 - 1 : Int) / k ≥ (2 ^ 63 - 1) / 1000 := by
      rw [ge_iff_le, Int.le_ediv_iff_mul_le (by omega)]
      have : ((2 : Int) ^ 63 - 1) / 1000 * k ≤ (2 ^ 63 - 1) / 1000 * 1000 := Int.mul_le_mul_of_nonneg_left h1 (by decide)
      have z2 : ((2 : Int) ^ 63 - 1) / 1000 * 1000 ≤ 2 ^ 63 - 1 := by decide
      omega
    have z3 : (1000 : Int) < (2 ^ 63 - 1) / 1000 := by decide
    omega
  · unfold Builtin.Str.tooLong
    rw [sizeLine_eq]
    exact decide_eq_false (by omega)
/-! ### binary operators -/
abbrev rCatS : R2 := fun x y H Q => ∃ i j, x = .str i ∧ y = .str j ∧ i.length + j.length ≤ sizeLine ∧ Q (.str (i ++ j)) H
theorem op_fdivL {X : Cx} : OpR X (binaryOp .FloorDiv) (rI (fun _ j => 0 < j ∧ j < 2 ^ 400) fun i j => .int (i / j)) := opI fun i j _ _ _ _ _ hc q => by
  have h1 : (0 : Int) < j := hc.1
  refine floordiv_int (by omega) (by rw [Int.fdiv_eq_ediv_of_nonneg i (by omega)]; exact q) (.inl (PyProof.noPylong_of_log2 ?_))
  have h2 : j.natAbs < 2 ^ 400 := by
    have h3 := hc.2
    have e : ((2 : Int) ^ 400) = ((2 ^ 400 : Nat) : Int) := by push_cast; rfl
    rw [e] at h3
    omega
  have := (Nat.log2_lt (by omega)).mpr h2
  omega
def uBin (K : PySem.W.Frag) : BOp → R2
  | .add => fun x y H Q => ((rI0 (fun i j => .int (i + j)) x y H Q ∨ rCatS x y H Q) ∨ rCat x y H Q) ∨ rCatA K x y H Q
  | .sub => rI0 (fun i j => .int (i - j))
  | .mul => fun x y H Q => ((rI CMul (fun i j => .int (i * j)) x y H Q ∨ rRep x y H Q) ∨ rRepT K x y H Q) ∨ (rTimes K x y H Q ∨ rTimesS x y H Q)
  | .fdiv => rI (fun _ j => 0 < j ∧ j < 2 ^ 400) (fun i j => .int (i / j))
  | .mod => rI (fun _ j => 0 < j) (fun i j => .int (i % j))
  | .pow => rI CPow (fun i j => .int (i ^ j.toNat))
def BOp.op : BOp → Operator
  | .add => .Add | .sub => .Sub | .mul => .Mult | .fdiv => .FloorDiv | .mod => .Mod | .pow => .Pow
theorem op_uBin {X : Cx} : ∀ o : BOp, OpR X (binaryOp o.op) (uBin X.K o)
  | .add => ((op_add.or op_add_str).or op_cat).or op_catA
  | .sub => op_sub
  | .mul => ((op_mul.or op_rep).or op_repT).or (op_times.or op_timesS)
  | .fdiv => op_fdivL
  | .mod => op_mod
  | .pow => op_pow
section
variable {K : PySem.W.Frag} {M : Am} {W : WX} {σ : L2.St} {G Φ : Hp} {μ : Mu} {S : Sto} {H : Hp} {Q : VK}
theorem binI_ok {o : BOp} {i j : Int} (r : Rel K M G Φ μ S H) (h : Res K M W σ G Φ μ (okO ((binI o i j).map .int) S) (rD K M) Q) : uBin K o (.int i) (.int j) H Q := by
  cases e : binI o i j with
  | none => rw [e] at h; exact h.elim
  | some z =>
    rw [e] at h
    have q : Q (.int z) H := h.now r (.int z)
    cases o with
    | add => cases e; exact .inl (.inl (.inl ⟨i, j, rfl, rfl, q⟩))
    | sub => cases e; exact ⟨i, j, rfl, rfl, q⟩
    | mul =>
      simp only [binI] at e
      split at e
      · rename_i c; cases e; exact .inl (.inl (.inl ⟨i, j, rfl, rfl, c, q⟩))
      · cases e
    | fdiv =>
      simp only [binI] at e
      split at e
      · rename_i c; cases e; exact ⟨i, j, rfl, rfl, c, q⟩
      · cases e
    | mod =>
      simp only [binI] at e
      split at e
      · rename_i c; cases e; exact ⟨i, j, rfl, rfl, c, q⟩
      · cases e
    | pow =>
      simp only [binI] at e
      split at e
      · rename_i c; cases e; exact ⟨i, j, rfl, rfl, c, q⟩
      · cases e
theorem binRep_ok {m : Bool} {x : D} {v : V} {k : Int} {xs : List D} (r : Rel K M G Φ μ S H) (q : RD K M G μ x v) (e : lstD S x = some xs) (c : -(2 ^ 63) ≤ k ∧ k < 2 ^ 63 ∧ xs.length * k.toNat ≤ sizeLine)
    (h : Res K M W σ G Φ μ (mkL m (List.replicate k.toNat xs).flatten S) (rD K M) Q) : uBin K .mul v (.int k) H Q := by
  obtain ⟨p, ys, rfl, h1, h2⟩ := lstD_ok r q e
  exact .inl (.inl (.inr ⟨p, k, ys, rfl, rfl, h1, c.1, c.2.1, by rw [← h2.length]; exact c.2.2, res_mkL h r (h2.replicate _)⟩))
theorem binCat_ok {m : Bool} {x y : D} {v u : V} {xs ys : List D} (r : Rel K M G Φ μ S H) (q : RD K M G μ x v) (q2 : RD K M G μ y u) (e : lstD S x = some xs) (e2 : lstD S y = some ys) (c : xs.length + ys.length ≤ sizeLine)
    (h : Res K M W σ G Φ μ (mkL m (xs ++ ys) S) (rD K M) Q) : uBin K .add v u H Q := by
  obtain ⟨p, zs, rfl, h1, h2⟩ := lstD_ok r q e
  obtain ⟨p2, ws, rfl, h3, h4⟩ := lstD_ok r q2 e2
  exact .inl (.inr ⟨p, p2, zs, ws, rfl, rfl, h1, h3, by rw [← h2.length, ← h4.length]; exact c, res_mkL h r (h2.append h4)⟩)
theorem binD_ok {o : BOp} {m : Bool} {x y : D} {v u : V} (r : Rel K M G Φ μ S H) (qx : RD K M G μ x v) (qy : RD K M G μ y u) (h : Res K M W σ G Φ μ (binD o m x y S) (rD K M) Q) : uBin K o v u H Q := by
  unfold binD at h
  split at h
  · -- int int
    cases qx; cases qy
    cases m with
    | true => exact h.elim
    | false => exact binI_ok r h
  · cases qx; cases qy
    cases m with
    | true => exact h.elim
    | false =>
      cases o with
      | add =>
        simp only [Bool.false_eq_true, if_false] at h
        split at h
        · rename_i c; exact .inl (.inl (.inr ⟨_, _, rfl, rfl, c, h.now r (.str _)⟩))
        · exact h.elim
      | _ => exact h.elim
  · cases qx with
    | tup h1 q1 =>
      cases qy with
      | tup h2 q2 =>
        cases m with
        | true => exact h.elim
        | false =>
          cases o with
          | add =>
            simp only [Bool.false_eq_true, if_false] at h
            split at h
            · rename_i c
              refine .inr ⟨_, _, _, _, rfl, rfl, SqT.of (r.g _ _ h1).tup, SqT.of (r.g _ _ h2).tup, by rw [← q1.length, ← q2.length]; exact c, fun z => ?_, fun z1 z2 => ?_, fun _ _ => res_tup h r (q1.append q2)⟩
              · subst z
                cases q1
                exact h.now r (.tup h2 q2)
              · subst z2
                cases q2
                rw [List.append_nil] at h
                exact h.now r (.tup h1 q1)
            · exact h.elim
          | _ => exact h.elim
  · cases qx with
    | tup h1 q1 =>
      cases qy
      cases m with
      | true => exact h.elim
      | false =>
        cases o with
        | mul =>
          simp only [Bool.false_eq_true, if_false] at h
          split at h
          · rename_i c
            obtain ⟨c1, c2, c3⟩ := c
            have ne : ∀ ys : List V, RDs K M G μ _ ys → ys ≠ [] := fun ys q z => by
              have := q.length
              rw [z, c1] at this
              cases this
            rename_i xs k a ys
            by_cases k2 : 2 ≤ k
            · exact .inl (.inr ⟨_, _, _, rfl, rfl, SqT.of (r.g _ _ h1).tup, ne _ q1, k2, c3, by rw [← q1.length]; omega, res_tup h r (q1.replicate _)⟩)
            · refine .inr (.inl ⟨_, _, _, rfl, rfl, SqT.of (r.g _ _ h1).tup, ne _ q1, ?_⟩)
              by_cases k1 : k = 1
              · subst k1
                refine .inl ⟨rfl, ?_⟩
                rw [show (List.replicate (1 : Int).toNat _).flatten = _ from (List.append_nil _ : _ ++ [] = _)] at h
                exact h.now r (.tup h1 q1)
              · obtain rfl : k = 0 := by omega
                exact .inr ⟨rfl, res_tup h r .nil⟩
          · exact h.elim
        | _ => exact h.elim
  · cases qx; cases qy
    cases m with
    | true => exact h.elim
    | false =>
      cases o with
      | mul =>
        simp only [Bool.false_eq_true, if_false] at h
        split at h
        · rename_i c; exact .inr (.inr ⟨_, _, rfl, rfl, c.1, c.2.1, c.2.2, h.now r (.str _)⟩)
        · exact h.elim
      | _ => exact h.elim
  · cases qy
    split at h
    · rename_i xs e
      split at h
      · rename_i c; exact binRep_ok r qx e c h
      · exact h.elim
    · exact h.elim
  · split at h
    · rename_i xs ys e e2
      split at h
      · rename_i c; exact binCat_ok r qx qy e e2 c h
      · exact h.elim
    · exact h.elim
end
end Ip
/-! ## Sorting data that are alike -/
namespace Ip
open PySem PySem.Spec PyProof.Rows L2
abbrev VP : Type := V × PyData
def rSortD (K : PySem.W.Frag) : List V → Hp → VK → Prop := fun vs H Q => ∃ (a : Addr) (zs : List VP), vs = [V.ref a] ∧ SqL K H a (zs.map Prod.fst) ∧ (∀ z ∈ zs, Dp K H z.1 z.2 ∧ z.2.depth ≤ 50) ∧ PySem.W.AllAlike (zs.map Prod.snd) ∧ PySem.W.Sortable (zs.map Prod.snd) ∧
  ∀ p, H p = none → Q (.ref p) (upd H p (.lst ((zs.mergeSort (PySem.W.dataLe false Prod.snd)).map Prod.fst)))
theorem each_vals : ∀ {zs : List VP} {us : List Value}, Vals (zs.map Prod.fst) us → PySem.W.EachIs (fun v (z : VP) => RelV z.1 v) us zs
  | [], _, r => by cases r; exact .nil
  | z :: zs, _, r => by
    cases r with
    | cons h t => exact .cons h (each_vals t)
theorem vals_each : ∀ {zs : List VP} {us : List Value}, PySem.W.EachIs (fun v (z : VP) => RelV z.1 v) us zs → Vals (zs.map Prod.fst) us
  | [], _, r => by cases r; exact .nil
  | z :: zs, _, r => by
    cases r with
    | cons h t => exact .cons h (vals_each t)
section
variable {X : Cx} {pins : List (Addr × Obj)} {σ : L2.St} {H : Hp} {s : Shared}
theorem each_reads (I : Inv X pins σ H s) : ∀ {zs : List VP} {us : List Value}, Vals (zs.map Prod.fst) us → (∀ z ∈ zs, Dp X.K H z.1 z.2) → PySem.W.EachIs (fun v (z : VP) => ∃ as, Reads s.heap v z.2 as) us zs
  | [], _, r, _ => by cases r; exact .nil
  | z :: zs, _, r, h => by
    cases r with
    | cons r t => exact .cons (Dp.reads I z.2 z.1 _ (h z (List.mem_cons_self ..)) r) (each_reads I t fun y hy => h y (List.mem_cons_of_mem _ hy))
end
theorem cr_sortD {X : Cx} (hu : X.A.units + 65 < cLine) : CallR X (.builtin "sorted") (rSortD X.K) := by
  intro pins s σ H vs us Q I r h
  obtain ⟨a, zs, rfl, hs, hd, hal, hk, q⟩ := h
  obtain ⟨its, rv, hl, hz⟩ := I.list hs
  rw [Vals.ref1 r]
  rw [List.length_map] at hz
  refine PySem.W.sorted_data (β := VP) (enc := Prod.snd) (bs := zs) (R := fun v (z : VP) => RelV z.1 v) hl.isList (each_vals rv) (each_reads I rv fun z hz => (hd z hz).1) hal hk hz (fun b hb => ?_) fun out hl2 ho => ?_
  · have := (hd b hb).2
    omega
  · obtain ⟨ep, he'⟩ := PyProof.Rows.sortedAll_at s.heap its out.toArray
    have hlen : ((zs.mergeSort (PySem.W.dataLe false Prod.snd)).map Prod.fst).length ≤ sizeLine := by
      rw [List.length_map, List.length_mergeSort]; exact hz
    exact ⟨.ref _, upd H (s.heap.objs.size + 1) (.lst ((zs.mergeSort (PySem.W.dataLe false Prod.snd)).map Prod.fst)), I.laid (t' := s.toks) (fun _ _ => PyProof.Rows.sortedAll_old) (Nat.le_succ _) ⟨hlen, out, ep, vals_each ho, he'⟩, rfl, q _ (I.hok.fresh (Nat.le_succ _))⟩
/-! sorted(d), the keys of a dict that are tuples -/
def keyP (k : List Key) : PyData := .tuple (k.map fun q => match q with
  | .inl i => .int i
  | .inr x => .str x)
def rSortT (K : PySem.W.Frag) : List V → Hp → VK → Prop := fun vs H Q => ∃ (a : Addr) (kvs : List (List Key × V)), vs = [V.ref a] ∧ Rd H a (.dT kvs) ∧ kvs.length ≤ 1000000 ∧ PySem.W.AllAlike (kvs.map fun z => keyP z.1) ∧ PySem.W.Sortable (kvs.map fun z => keyP z.1) ∧
  ∀ p (bs : List (Addr × PyData)), H p = none → bs.map Prod.snd = kvs.map (fun z => keyP z.1) → IsKeys H kvs (bs.map Prod.fst) → Q (.ref p) (upd H p (.lst ((bs.mergeSort (PySem.W.dataLe false Prod.snd)).map fun b => V.ref b.1)))
theorem key_dp {K : PySem.W.Frag} {H : Hp} : ∀ k : List Key, DpAll K H (k.map kV) (k.map fun q => match q with
  | .inl i => PyData.int i
  | .inr x => .str x)
  | [] => .nil
  | .inl i :: k => .cons (.int i) (key_dp k)
  | .inr x :: k => .cons (.str x) (key_dp k)
theorem key_nil {h : Heap} : ∀ {k : List Key} {vs : List Value} {as : List Addr}, ReadsAll h vs (k.map fun q => match q with
  | .inl i => PyData.int i
  | .inr x => .str x) as → as = []
  | [], _, _, r => by cases r; rfl
  | .inl i :: k, _, _, r => by
    cases r with
    | cons r1 r2 => cases r1; rw [key_nil r2]; rfl
  | .inr x :: k, _, _, r => by
    cases r with
    | cons r1 r2 => cases r1; rw [key_nil r2]; rfl
theorem key_bs {H : Hp} {kvs : List (List Key × V)} {ks : List (List Key × Addr × Value)} (r : KT H kvs ks) : ∃ bs : List (Addr × PyData), ks.map (fun x => Value.ref x.2.1) = bs.map (fun b => Value.ref b.1) ∧ bs.map Prod.snd = kvs.map (fun z => keyP z.1) ∧
    IsKeys H kvs (bs.map Prod.fst) ∧ ∀ b ∈ bs, ∃ k : List Key, b.2 = keyP k ∧ H b.1 = some (.tup (k.map kV)) := by
  induction r with
  | nil => exact ⟨[], rfl, rfl, .nil, fun b h => by cases h⟩
  | @cons p q ps qs h t ih =>
    obtain ⟨bs, h1, h2, h3, h4⟩ := ih
    refine ⟨(q.2.1, keyP p.1) :: bs, by rw [List.map_cons, List.map_cons, h1], by rw [List.map_cons, List.map_cons, h2], .cons h.2.1 h3, fun b hb => ?_⟩
    rcases List.mem_cons.mp hb with rfl | hb
    · exact ⟨p.1, rfl, h.2.1⟩
    · exact h4 b hb
theorem each_ref : ∀ bs : List (Addr × PyData), PySem.W.EachIs (fun v (b : Addr × PyData) => v = Value.ref b.1) (bs.map fun b => Value.ref b.1) bs
  | [] => .nil
  | _ :: bs => .cons rfl (each_ref bs)
theorem ref_each : ∀ {bs : List (Addr × PyData)} {us : List Value}, PySem.W.EachIs (fun v (b : Addr × PyData) => v = Value.ref b.1) us bs → Vals (bs.map fun b => V.ref b.1) us
  | [], _, r => by cases r; exact .nil
  | b :: bs, _, r => by
    cases r with
    | cons h t => rw [h]; exact .cons rfl (ref_each t)
theorem each_mem {R : Value → (Addr × PyData) → Prop} : ∀ bs : List (Addr × PyData), (∀ b ∈ bs, R (Value.ref b.1) b) → PySem.W.EachIs R (bs.map fun b => Value.ref b.1) bs
  | [], _ => .nil
  | b :: bs, h => .cons (h b (List.mem_cons_self ..)) (each_mem bs fun y hy => h y (List.mem_cons_of_mem _ hy))
theorem cr_sortT {X : Cx} (hc : X.calm = true) (hu : X.A.units + 65 < cLine) : CallR X (.builtin "sorted") (rSortT X.K) := by
  intro pins s σ H vs us Q I r h
  obtain ⟨a, kvs, rfl, hd, hz, hal, hk, q⟩ := h
  obtain ⟨u, rfl, rx⟩ := r.one
  cases rx
  obtain ⟨z, hs, ks, pr, o, es, ep, ho, hx, hdt, he, hn⟩ := (show ObjOk X.prog X.w H s.heap a (.dT kvs) from hd.ok I.hok)
  have l1 : es.size = ks.length := size_of_entries he
  have l2 : kvs.length = ks.length := Paired.length pr
  obtain ⟨bs, b1, b2, b3, b4⟩ := key_bs pr
  have lb : bs.length = ks.length := by
    have := congrArg List.length b2
    rw [List.length_map, List.length_map] at this
    omega
  have h16 : es.size ≤ sizeLine := by rw [l1, sizeLine_eq]; omega
  refine Calls.call_function_entry PyProof.Rows.kind_sorted PyProof.Rows.plain_sorted PyProof.Rows.entry_sorted (PyProof.Rows.args_sorted1 _) ?_
  unfold Builtin.«sorted»
  refine wpAny_bind (m := checkCount "sorted" 1 1 _) (wpAny_pure ?_)
  refine wpAny_bind (PySem.W.kdu_collect (A := X.A.in1) (kdl_raw hs hx hdt) (I.ok.hd hc) ho h16 fun h' tk acc hk' it => ?_)
  have ea : acc.toList = bs.map fun b => Value.ref b.1 := by
    rw [← b1]
    have hl : acc.toList.length = ks.length := by rw [Array.length_toList, it.1]; exact l1
    apply List.ext_getElem?
    intro j
    rw [List.getElem?_map]
    cases hj : acc.toList[j]? with
    | none =>
      have h1 := List.getElem?_eq_none_iff.mp hj
      rw [List.getElem?_eq_none (by omega)]
      all_goals rfl
    | some v =>
      obtain ⟨en, hen, hv⟩ := it.2 j v (by rw [← Array.getElem?_toList]; exact hj)
      have qe := entry_at he j
      rw [hen] at qe
      cases hb : ks[j]? with
      | none =>
        rw [hb] at qe
        exact nomatch (show some en = none from qe)
      | some b =>
        rw [hb] at qe
        have e2 : en = entryOfKey (tupleKind (mixKind X.prog X.w)) b := Option.some.inj qe
        rw [hv, e2]
        all_goals rfl
  rw [ea]
  have I1 : Inv X pins σ H { s with heap := h', toks := tk } := I.kept hk'
  have hsz : (bs.map fun b => Value.ref b.1).length ≤ sizeLine := by rw [List.length_map, sizeLine_eq]; omega
  refine wpAny_bind (wpAny_newList ?_ hsz)
  have hoL : (h'.push (seqObj "list" (bs.map fun b => Value.ref b.1).toArray 0)).get? h'.objs.size = some (seqObj "list" (bs.map fun b => Value.ref b.1).toArray 0) := Heap.get?_push_size _ rfl
  show wpAny _ _ _ _ _ { s with heap := h'.push (seqObj "list" (bs.map fun b => Value.ref b.1).toArray 0), toks := tk }
  have er : PySem.W.EachIs (fun v (b : Addr × PyData) => ∃ as, Reads (h'.push (seqObj "list" (bs.map fun b => Value.ref b.1).toArray 0)) v b.2 as ∧ h'.objs.size ∉ as) (bs.map fun b => Value.ref b.1) bs := each_mem bs fun b hb => by
    obtain ⟨k, e1, e2⟩ := b4 b hb
    rw [e1]
    obtain ⟨as, rd⟩ := Dp.reads I1 (keyP k) (.ref b.1) (.ref b.1) (.tup (SqT.of e2) (key_dp k)) rfl
    have ez : as = [] := by
      unfold keyP at rd
      cases rd with
      | tuple _ _ _ h4 => exact key_nil h4
    subst ez
    exact ⟨[], PyProof.Rows.Reads.keeps (fun _ _ => Heap.get?_push_of_some _) rd, by simp⟩
  refine wpAny_bind (wpAny_holding (PySem.W.list_sort_data (s := { s with heap := h'.push (seqObj "list" (bs.map fun b => Value.ref b.1).toArray 0), toks := tk }) (bs := bs) (enc := Prod.snd) (R := fun v (b : Addr × PyData) => v = Value.ref b.1) hoL (each_ref bs) er (by rw [b2]; exact hal) (by rw [b2]; exact hk) (by rw [sizeLine_eq]; omega) (fun b hb => ?_) fun out hl2 eo => ?_))
  · obtain ⟨k, e1, _⟩ := b4 b hb
    rw [e1]
    have : (keyP k).depth ≤ 1 := by
      unfold keyP
      rw [PyData.depth]
      have : ∀ k : List Key, PyData.depthAll (k.map fun q => match q with
          | .inl i => PyData.int i
          | .inr x => .str x) = 0 := fun k => by
        induction k with
        | nil => simp [PyData.depthAll]
        | cons q k ih => cases q <;> simp [PyData.depthAll, PyData.depth] <;> exact ih
      rw [this]
      exact Nat.le_refl _
    show X.A.in1.units + 1 + (keyP k).depth < cLine
    have e : X.A.in1.units = X.A.units + 1 := rfl
    omega
  · obtain ⟨ep2, he'⟩ := PyProof.Rows.sortedHeap_at (vs := bs.map fun b => Value.ref b.1) (out := out.toArray) hoL
    have hlen : ((bs.mergeSort (PySem.W.dataLe false Prod.snd)).map fun b => V.ref b.1).length ≤ sizeLine := by
      rw [List.length_map, List.length_mergeSort, sizeLine_eq]; omega
    refine wpAny_pure ⟨_, rfl, .ref h'.objs.size, upd H h'.objs.size (.lst ((bs.mergeSort (PySem.W.dataLe false Prod.snd)).map fun b => V.ref b.1)), I1.laid (t' := tk) (fun b u e => ?_) (Nat.le_refl _)
      (show ObjOk X.prog X.w _ _ _ (.lst ((bs.mergeSort (PySem.W.dataLe false Prod.snd)).map fun b => V.ref b.1)) from ⟨hlen, out, ep2, ref_each eo, he'⟩), rfl, q _ bs (I1.hok.fresh (Nat.le_refl _)) b2 b3⟩
    have hb : b < h'.objs.size := Heap.lt_size e
    rw [PyProof.Rows.sortedHeap_old (Nat.ne_of_lt hb) (by rw [size_push']; exact Nat.lt_succ_of_lt hb)]
    exact Heap.get?_push_of_some _ e
/-! ### sum of a tuple of ints -/
section
variable {prog : Program} {w : World} {A : Around} {E : Value → Shared → Prop} {s : Shared} {l : Addr} {its : List Value} {ns : List Int} {Q : Value → Shared → Prop}
theorem sum_intTupG {xs : Array (Int × Tok)} (hh : A.handled = none) (hl : s.heap.IsTuple l (intItems xs))
    (h : ∀ h' tk t', (∀ b o, s.heap.get? b = some o → h'.get? b = some o) → Q (.int (preSum (numAt xs) xs.size) t') { s with heap := h', toks := tk }) :
    wpAny (model prog w) A (call (.builtin "sum") [.ref l]) Q E s := by
  have hlt : l < s.heap.objs.size := by obtain ⟨_, e, _⟩ := hl; exact Heap.lt_size e
  refine call_sum_walkG (wpAny_pyIter_tuple hl ?_)
  refine ⟨_, _, _, _, _, _, numAt xs, rfl, Walks.tuple (A := A.in1) hh _ l (Nat.ne_of_lt hlt) (intItems xs), ⟨⟨_, Heap.get?_push_size _ rfl, rfl, rfl⟩, hl.push _⟩, fun b hb => ?_, (fun _ _ => intItems_at), fun h' tk t' hk => ?_⟩
  · show b < (s.heap.push _).objs.size
    rw [Heap.size_push]
    rcases List.mem_cons.mp hb with rfl | hb
    · exact Nat.lt_succ_self _
    · rcases List.mem_cons.mp hb with rfl | hb
      · exact Nat.lt_succ_of_lt hlt
      · cases hb
  · have := h h' tk t' (fun b o e => hk b o (fun z => by rw [List.mem_singleton.mp z] at e; exact absurd (Heap.lt_size e) (Nat.lt_irrefl _)) (Heap.get?_push_of_some _ e))
    simpa [intItems] using this
theorem sum_rawT (hh : A.handled = none) (hl : s.heap.IsTuple l its.toArray) (hi : IntsAre its ns)
    (h : ∀ h' tk t', (∀ b o, s.heap.get? b = some o → h'.get? b = some o) → Q (.int ns.sum t') { s with heap := h', toks := tk }) : wpAny (model prog w) A (call (.builtin "sum") [.ref l]) Q E s := by
  obtain ⟨xs, e⟩ := hi.allInts.items
  have hn : numsOf (intItems xs).toList = ns := by rw [← e]; exact hi.numsOf
  rw [nums_intItems] at hn
  rw [e] at hl
  refine sum_intTupG hh hl fun h' tk t' hk => ?_
  have := h h' tk t' hk
  rw [preSum_eq, List.take_of_length_le (by simp), hn]; exact this
end
def rSumT (K : PySem.W.Frag) : List V → Hp → VK → Prop := fun vs H Q => ∃ (a : Addr) (ns : List Int), vs = [V.ref a] ∧ SqT K H a (ns.map V.int) ∧ Q (.int ns.sum) H
theorem cr_sumT {X : Cx} (hc : X.calm = true) : CallR X (.builtin "sum") (rSumT X.K) := by
  intro pins s σ H vs us Q I r h
  obtain ⟨a, ns, rfl, hs, q⟩ := h
  obtain ⟨its, rv, ht, _⟩ := I.tuple hs
  rw [Vals.ref1 r]
  exact sum_rawT (I.ok.hd hc) ht rv.ints fun h' tk t' hk => ⟨.int _, H, I.kept hk, ⟨_, rfl⟩, q⟩
end Ip
namespace Ip
open PySem PySem.Spec PyProof.Rows L2

/-! ### dicts by values -/
section
variable {X : Cx}
theorem op_inDct (hu : X.A.units + 1 < cLine) : OpR X (compareOp .In) (fun x y H Q => ∃ a o, y = .ref a ∧ DGet H a x o ∧ Q (.bl o.isSome) H) := by
  intro pins s σ H x y v u Q I rx ry h
  obtain ⟨a, o, rfl, g, q⟩ := h
  cases ry
  exact d_in hu I g rx fun s' I' => ⟨.bl o.isSome, H, I', rfl, q⟩
theorem op_notDct (hu : X.A.units + 1 < cLine) : OpR X (compareOp .NotIn) (fun x y H Q => ∃ a o, y = .ref a ∧ DGet H a x o ∧ Q (.bl (!o.isSome)) H) := by
  intro pins s σ H x y v u Q I rx ry h
  obtain ⟨a, o, rfl, g, q⟩ := h
  cases ry
  exact d_notIn hu I g rx fun s' I' => ⟨.bl (!o.isSome), H, I', rfl, q⟩
theorem ix_dct (hu : X.A.units + 1 < cLine) : IxR X (fun x y H Q => ∃ a v, x = .ref a ∧ DGet H a y (some v) ∧ Q v H) := by
  intro value slice pins s σ H x y v u Q I rx ry h hs
  obtain ⟨a, z, rfl, g, q⟩ := h
  cases rx
  exact tail_any (dict_typeIs I g) PySem.F.slot_dict_getitem.lookup (d_getItem hu I g ry fun w' s' I' r' => ⟨z, H, I', r', q⟩) hs
theorem get_list : PGet X (fun o i H Q => ∃ p xs k v, o = .ref p ∧ i = .int k ∧ SqL X.K H p xs ∧ atI xs k = some v ∧ Q v H) := by
  intro pins s σ H o i ov iv Q I ro ri h
  obtain ⟨p, xs, k, z, rfl, rfl, hq, he, q⟩ := h
  cases ro
  obtain ⟨t, rfl⟩ := ri
  obtain ⟨its, r, pl, hz⟩ := I.list hq
  obtain ⟨j, h1, h2, h3, h4, h5⟩ := atI_get he
  obtain ⟨w, ew, rw'⟩ := r.get h2
  have hl := r.length
  rw [sizeLine_eq] at hz
  by_cases h0 : 0 ≤ k
  · have hj : k.toNat = j := by
      rw [seqIndex_of h0 h5] at h1
      exact Option.some.inj h1
    exact wpAny_getItem_list (x := w) pl.isList h0 (by omega) (by rw [hj]; simpa using ew) ⟨z, H, I, rw', q⟩
  · have hj : (k + (its.toArray.size : Int)).toNat = j := by
      rw [seqIndex_neg (by omega) h4] at h1
      rw [List.size_toArray, ← hl]
      exact Option.some.inj h1
    exact wpAny_getItem_list_neg (x := w) pl.isList (by omega) (by rw [List.size_toArray] <;> omega) (by omega) (by rw [hj]; simpa using ew) ⟨z, H, I, rw', q⟩
theorem PSet.or {t t' : TSet} (h : PSet X t) (h' : PSet X t') : PSet X (fun o i v H Q => t o i v H Q ∨ t' o i v H Q) := by
  intro pins s σ H o i v ov iv u Q I ro ri rv q
  rcases q with q | q
  · exact h pins s σ H o i v ov iv u Q I ro ri rv q
  · exact h' pins s σ H o i v ov iv u Q I ro ri rv q
theorem set_dct (hu : X.A.units + 1 < cLine) : PSet X (fun o i v H Q => ∃ a H', o = .ref a ∧ DPut H a i v H' ∧ Q H') := by
  intro pins s σ H o i v ov iv u Q I ro ri rv h
  obtain ⟨a, H', rfl, g, q⟩ := h
  cases ro
  exact d_setItem hu I g ri rv fun s' I' => ⟨H', I', q⟩
theorem mt_get (hu : X.A.units + 1 < cLine) : MtR X "dict.get" (fun x xs H Q => ∃ a y o, x = .ref a ∧ DGet H a y o ∧ ((xs = [y] ∧ Q (o.getD .non) H) ∨ ∃ d, xs = [y, d] ∧ Q (o.getD d) H)) := by
  intro pins s σ H x xs v us Q I rx rs h
  obtain ⟨a, y, o, rfl, g, h⟩ := h
  cases rx
  rcases h with ⟨rfl, q⟩ | ⟨d, rfl, q⟩
  · cases rs with
    | cons r1 r2 =>
      cases r2
      exact d_get1 hu I g r1 fun w' s' I' r' => ⟨_, H, I', r', q⟩
  · cases rs with
    | cons r1 r2 =>
      cases r2 with
      | cons r2 r3 =>
        cases r3
        exact d_get2 hu I g r1 r2 fun w' s' I' r' => ⟨_, H, I', r', q⟩
theorem call_lenDct : CallR X (.builtin "len") (fun xs H Q => ∃ a kvs, xs = [V.ref a] ∧ Rd H a (.dK kvs) ∧ Q (.int kvs.length) H) := by
  intro pins s σ H xs us Q I rs h
  obtain ⟨a, kvs, rfl, e, q⟩ := h
  cases rs with
  | cons r1 r2 =>
    cases r2
    cases r1
    exact d_len I e fun t s' I' => ⟨.int kvs.length, H, I', ⟨_, rfl⟩, q⟩
end
section
variable {K : PySem.W.Frag} {M : Am} {G Φ : Hp} {μ : Mu} {S : Sto} {H : Hp}
theorem kKey_ok {y : D} {u : V} {k : Key} (q : RD K M G μ y u) (e : kKey y = some k) : u = kV k := by
  cases q <;> first | (cases e; rfl) | cases e
theorem kKey_eq {y : D} {k : Key} (e : kKey y = some k) : y = kD k := by
  cases y <;> first | (cases e; rfl) | cases e
theorem kD_key (k : Key) : kKey (kD k) = some k := by cases k <;> rfl
theorem kKeys_ok : ∀ {ds : List D} {vs : List V} {ks : List Key}, RDs K M G μ ds vs → kKeys ds = some ks → vs = ks.map kV
  | _, _, _, .nil, e => by cases e; rfl
  | d :: ds, _, ks, .cons q r, e => by
    unfold kKeys at e
    split at e
    · rename_i k ks' h1 h2
      cases e
      rw [List.map_cons, ← kKey_ok q h1, ← kKeys_ok r h2]
    · cases e
theorem kKeys_eq : ∀ {ds : List D} {ks : List Key}, kKeys ds = some ks → ds = ks.map kD
  | [], _, e => by cases e; rfl
  | d :: ds, ks, e => by
    unfold kKeys at e
    split at e
    · rename_i k ks' h1 h2
      cases e
      rw [List.map_cons, ← kKey_eq h1, ← kKeys_eq h2]
    · cases e
theorem kKeys_key : ∀ k : List Key, kKeys (k.map kD) = some k
  | [] => rfl
  | k :: ks => by rw [List.map_cons, kKeys, kD_key, kKeys_key ks]
theorem tKey_ok (r : Rel K M G Φ μ S H) {y : D} {u : V} {k : List Key} (q : RD K M G μ y u) (e : tKey y = some k) : ∃ b, u = .ref b ∧ H b = some (.tup (k.map kV)) := by
  cases q with
  | tup h q => exact ⟨_, rfl, by rw [← kKeys_ok q e]; exact (r.g _ _ h).tup⟩
  | _ => cases e
theorem tKey_eq {y : D} {k : List Key} (e : tKey y = some k) : y = .tup (k.map kD) := by
  cases y with
  | tup xs => rw [kKeys_eq (ds := xs) e]
  | _ => cases e
theorem tKey_key (k : List Key) : tKey (.tup (k.map kD)) = some k := kKeys_key k
def OR2 (K : PySem.W.Frag) (M : Am) (G : Hp) (μ : Mu) (o : Option D) (p : Option V) : Prop := (∃ d v, o = some d ∧ p = some v ∧ RD K M G μ d v) ∨ (o = none ∧ p = none)
theorem OR2.isSome {o : Option D} {p : Option V} (h : OR2 K M G μ o p) : o.isSome = p.isSome := by
  rcases h with ⟨d, v, rfl, rfl, _⟩ | ⟨rfl, rfl⟩ <;> rfl
theorem OR2.getD {o : Option D} {p : Option V} {d : D} {v : V} (h : OR2 K M G μ o p) (q : RD K M G μ d v) : RD K M G μ (o.getD d) (p.getD v) := by
  rcases h with ⟨d', v', rfl, rfl, h⟩ | ⟨rfl, rfl⟩
  · exact h
  · exact q
section
variable {κ : Type} [DecidableEq κ] {f : D → Option κ} {g : κ → D}
theorem lookK_ok (hf : ∀ k, f (g k) = some k) (k : κ) : ∀ {kk : List κ} {vs : List D} {ys : List V}, kk.length = ys.length → RDs K M G μ vs ys → OR2 K M G μ (lookK f k (kk.map g) vs) (valV (kk.zip ys) k)
  | [], _, _, _, _ => .inr ⟨rfl, by rw [List.zip_nil_left]; exact valV_nil⟩
  | a :: kk, _, _, hl, .nil => by simp at hl
  | a :: kk, d :: vs, v :: ys, hl, .cons q r => by
    rw [List.map_cons, lookK, hf, List.zip_cons_cons]
    by_cases h : a = k
    · rw [if_pos (by rw [h]), valV_pos (p := (a, v)) h]
      exact .inl ⟨d, v, rfl, rfl, q⟩
    · rw [if_neg (fun z => h (Option.some.inj z)), valV_neg (p := (a, v)) h]
      exact lookK_ok hf k (by simpa using hl) r
theorem repV_ok (hf : ∀ k, f (g k) = some k) (k : κ) {d : D} {v : V} (q : RD K M G μ d v) : ∀ {kk : List κ} {vs : List D} {ys : List V}, kk.length = ys.length → RDs K M G μ vs ys →
    ∃ ys', RDs K M G μ (repV f k d (kk.map g) vs) ys' ∧ kk.length = ys'.length ∧ kk.zip ys' = (kk.zip ys).map (fun kv => if kv.1 = k then (kv.1, v) else kv)
  | [], _, _, _, _ => ⟨[], .nil, rfl, rfl⟩
  | a :: kk, _, _, hl, .nil => by simp at hl
  | a :: kk, d' :: vs, v' :: ys, hl, .cons q' r => by
    obtain ⟨ys', h1, h2, h3⟩ := repV_ok hf k q (by simpa using hl) r
    rw [List.map_cons, repV, hf, List.zip_cons_cons, List.map_cons]
    by_cases h : a = k
    · rw [if_pos (by rw [h])]
      exact ⟨v :: ys', .cons q h1, by simp [h2], by rw [List.zip_cons_cons, h3, if_pos h]⟩
    · rw [if_neg (fun z => h (Option.some.inj z))]
      exact ⟨v' :: ys', .cons q' h1, by simp [h2], by rw [List.zip_cons_cons, h3, if_neg h]⟩
theorem putW_ok (hf : ∀ k, f (g k) = some k) (k : κ) {d : D} {v : V} (q : RD K M G μ d v) {kk : List κ} {vs : List D} {ys : List V} (hl : kk.length = ys.length) (r : RDs K M G μ vs ys) :
    ∃ (kk' : List κ) (ys' : List V), (putW f k (g k) d (kk.map g) vs).1 = kk'.map g ∧ kk'.length = ys'.length ∧ RDs K M G μ (putW f k (g k) d (kk.map g) vs).2 ys' ∧ kk'.zip ys' = putK (kk.zip ys) k v := by
  have ho := lookK_ok (G := G) hf k hl r
  unfold putW putK
  rw [valV_any]
  cases hs : (valV (kk.zip ys) k).isSome with
  | true =>
    rw [if_pos (by rw [ho.isSome, hs]), if_pos rfl]
    obtain ⟨ys', h1, h2, h3⟩ := repV_ok hf k q hl r
    exact ⟨kk, ys', rfl, h2, h1, h3⟩
  | false =>
    rw [if_neg (by rw [ho.isSome, hs]; decide), if_neg (by decide)]
    refine ⟨kk ++ [k], ys ++ [v], by simp, by simp [hl], r.append (.cons q .nil), ?_⟩
    rw [List.zip_append hl]; rfl
end
theorem dctD_ref {n : Nat} {q : Nat × List D × List D} (e : dctD S (.ref n) = some q) : ∃ t ks vs, S[n]? = some (.dct t ks vs) ∧ q = (t, ks, vs) := by
  replace e : (match S[n]? with
    | some (.dct t ks vs) => some (t, ks, vs)
    | _ => none) = some q := e
  split at e
  · rename_i t ks vs hs
    cases e
    exact ⟨t, ks, vs, hs, rfl⟩
  · cases e
theorem dctD_ok (r : Rel K M G Φ μ S H) {x : D} {v : V} {q : Nat × List D × List D} (qx : RD K M G μ x v) (e : dctD S x = some q) : ∃ a, v = .ref a ∧
    ((q.1 = 0 ∧ ∃ (kk : List Key) (ys : List V), q.2.1 = kk.map kD ∧ kk.length = ys.length ∧ RDs K M G μ q.2.2 ys ∧ Rd H a (.dK (kk.zip ys))) ∨
      q.1 = 1 ∧ ∃ (kk : List (List Key)) (ys : List V), q.2.1 = kk.map (fun k => .tup (k.map kD)) ∧ kk.length = ys.length ∧ RDs K M G μ q.2.2 ys ∧ Rd H a (.dT (kk.zip ys))) := by
  cases qx with
  | dK e1 l q1 h => cases e; exact ⟨_, rfl, .inl ⟨rfl, _, _, e1, l, q1, (r.g _ _ h).rd⟩⟩
  | dT e1 l q1 h => cases e; exact ⟨_, rfl, .inr ⟨rfl, _, _, e1, l, q1, (r.g _ _ h).rd⟩⟩
  | @ref n a hm =>
    obtain ⟨t, ks, vs, hs, rfl⟩ := dctD_ref e
    rcases r.look hs hm with ⟨t0, kk, ys, e1, l, q1, h⟩ | ⟨t0, kk, ys, e1, l, q1, h⟩
    · exact ⟨_, rfl, .inl ⟨t0, kk, ys, e1, l, q1, .inl h⟩⟩
    · exact ⟨_, rfl, .inr ⟨t0, kk, ys, e1, l, q1, .inl h⟩⟩
  | non => cases e
  | bl _ => cases e
  | int _ => cases e
  | str _ => cases e
  | tup _ _ => cases e
  | lst _ _ => cases e
  | scr _ => cases e
  | obj _ _ _ => cases e
theorem dGet_ok (r : Rel K M G Φ μ S H) {x y : D} {v u : V} {q : Nat × List D × List D} {o : Option D} (qx : RD K M G μ x v) (qy : RD K M G μ y u) (e : dctD S x = some q) (g : dGet q y = some o) :
    ∃ a p, v = .ref a ∧ DGet H a u p ∧ OR2 K M G μ o p := by
  obtain ⟨a, rfl, h⟩ := dctD_ok r qx e
  obtain ⟨t, ks, vs⟩ := q
  rcases h with ⟨h0, kk, ys, h1, h2, h3, h4⟩ | ⟨h0, kk, ys, h1, h2, h3, h4⟩
  · dsimp only at h0 h1 h3
    subst h0; subst h1
    replace g : (kKey y).map (fun k => lookK kKey k (kk.map kD) vs) = some o := g
    cases hk : kKey y with
    | none => rw [hk] at g; cases g
    | some k =>
      rw [hk] at g; cases g
      exact ⟨a, _, rfl, .inl ⟨_, k, h4, kKey_ok qy hk, rfl⟩, lookK_ok kD_key k h2 h3⟩
  · dsimp only at h0 h1 h3
    subst h0; subst h1
    replace g : (tKey y).map (fun k => lookK tKey k (kk.map (fun k => .tup (k.map kD))) vs) = some o := g
    cases hk : tKey y with
    | none => rw [hk] at g; cases g
    | some k =>
      rw [hk] at g; cases g
      obtain ⟨b, h5, h6⟩ := tKey_ok r qy hk
      exact ⟨a, _, rfl, .inr ⟨_, k, b, h4, h5, h6, rfl⟩, lookK_ok tKey_key k h2 h3⟩
theorem dPut_ok (r : Rel K M G Φ μ S H) {n : Nat} {a : Addr} {t : Nat} {ks vs : List D} {y d : D} {u v : V} {q : List D × List D} (hm : μ n = some a) (hs : S[n]? = some (.dct t ks vs)) (hz : ks.length < sizeLine) (qy : RD K M G μ y u) (qd : RD K M G μ d v)
    (g : dPut (t, ks, vs) y d = some q) : ∃ H', DPut H a u v H' ∧ Rel K M G Φ μ (S.set n (.dct t q.1 q.2)) H' := by
  rcases r.look hs hm with ⟨h0, kk, ys, h1, h2, h3, h4⟩ | ⟨h0, kk, ys, h1, h2, h3, h4⟩
  · subst h0; subst h1
    replace g : (kKey y).map (fun k => putW kKey k y d (kk.map kD) vs) = some q := g
    cases hk : kKey y with
    | none => rw [hk] at g; cases g
    | some k =>
      rw [hk] at g; cases g
      obtain ⟨kk', ys', e1, e2, e3, e4⟩ := putW_ok (G := G) kD_key k qd h2 h3
      rw [← kKey_eq hk] at e1 e3
      refine ⟨_, .inl ⟨_, k, h4, kKey_ok qy hk, ?_, rfl⟩, r.write hs (fun z => nomatch z) hm (.inl ⟨rfl, kk', ys', e1, e2, e3, by rw [upd_same, e4]⟩)⟩
      rw [List.length_map] at hz
      rw [List.length_zip, ← h2]; omega
  · subst h0; subst h1
    replace g : (tKey y).map (fun k => putW tKey k y d (kk.map (fun k => .tup (k.map kD))) vs) = some q := g
    cases hk : tKey y with
    | none => rw [hk] at g; cases g
    | some k =>
      rw [hk] at g; cases g
      obtain ⟨kk', ys', e1, e2, e3, e4⟩ := putW_ok (G := G) tKey_key k qd h2 h3
      rw [← tKey_eq hk] at e1 e3
      obtain ⟨b, h5, h6⟩ := tKey_ok r qy hk
      refine ⟨_, .inr ⟨_, k, b, h4, h5, h6, ?_, rfl⟩, r.write hs (fun z => nomatch z) hm (.inr ⟨rfl, kk', ys', e1, e2, e3, by rw [upd_same, e4]⟩)⟩
      rw [List.length_map] at hz
      rw [List.length_zip, ← h2]; omega
end
/-! ### comparisons -/
def uCmp (K : PySem.W.Frag) : COp → R2
  | .eq => fun x y H Q => rEq x y H Q ∨ rEqD K x y H Q
  | .ne => fun x y H Q => rNe x y H Q ∨ rNeD K x y H Q
  | .lt => fun x y H Q => rI0 (fun i j => .bl (decide (i < j))) x y H Q ∨ (∃ i j, x = .str i ∧ y = .str j ∧ Q (.bl (decide (i.cps.toList < j.cps.toList))) H)
  | .le => fun x y H Q => rI0 (fun i j => .bl (decide (i ≤ j))) x y H Q ∨ (∃ i j, x = .str i ∧ y = .str j ∧ Q (.bl (!decide (j.cps.toList < i.cps.toList))) H)
  | .gt => fun x y H Q => rI0 (fun i j => .bl (decide (j < i))) x y H Q ∨ (∃ i j, x = .str i ∧ y = .str j ∧ Q (.bl (decide (j.cps.toList < i.cps.toList))) H)
  | .ge => fun x y H Q => rI0 (fun i j => .bl (decide (j ≤ i))) x y H Q ∨ (∃ i j, x = .str i ∧ y = .str j ∧ Q (.bl (!decide (i.cps.toList < j.cps.toList))) H)
  | .isin => fun x y H Q => ((∃ i j, x = .str i ∧ y = .str j ∧ Q (.bl (!(Builtin.Str.occurrences j i 0 j.length 1).isEmpty)) H) ∨ rIn K false x y H Q) ∨ rInD K x y H Q ∨ ∃ a o, y = .ref a ∧ DGet H a x o ∧ Q (.bl o.isSome) H
  | .notin => fun x y H Q => ((∃ i j, x = .str i ∧ y = .str j ∧ Q (.bl (!(!(Builtin.Str.occurrences j i 0 j.length 1).isEmpty))) H) ∨ rIn K true x y H Q) ∨ rNotInD K x y H Q ∨ ∃ a o, y = .ref a ∧ DGet H a x o ∧ Q (.bl (!o.isSome)) H
  | .is_ => fun x y H Q => (y = .non ∧ Q (.bl (decide (x = .non))) H) ∨ (∃ a b, x = .bl a ∧ y = .bl b ∧ Q (.bl (decide (a = b))) H)
  | .isnot => fun x y H Q => (y = .non ∧ Q (.bl (!decide (x = .non))) H) ∨ (∃ a b, x = .bl a ∧ y = .bl b ∧ Q (.bl (!decide (a = b))) H)
def COp.op : COp → CmpOp
  | .eq => .Eq | .ne => .NotEq | .lt => .Lt | .le => .LtE | .gt => .Gt | .ge => .GtE | .isin => .In | .notin => .NotIn | .is_ => .Is | .isnot => .IsNot
theorem op_uCmp {X : Cx} (hu : X.A.units + 65 < cLine) : ∀ o : COp, OpR X (compareOp o.op) (uCmp X.K o)
  | .eq => op_eq.or (op_eqD (by omega))
  | .ne => op_ne.or (op_neD (by omega))
  | .lt => op_lt.or op_lt_str
  | .le => op_le.or op_le_str
  | .gt => op_gt.or op_gt_str
  | .ge => op_ge.or op_ge_str
  | .isin => (op_in_str.or op_in_seq).or ((op_inD hu).or (op_inDct (by omega)))
  | .notin => (op_notin_str.or op_notIn_seq).or ((op_notInD hu).or (op_notDct (by omega)))
  | .is_ => op_isN.or op_is_bl
  | .isnot => op_notN.or op_isnot_bl
section
variable {K : PySem.W.Frag} {M : Am} {W : WX} {σ : L2.St} {G Φ : Hp} {μ : Mu} {S : Sto} {H : Hp} {Q : VK}
mutual
theorem pd_dp (r : Rel K M G Φ μ S H) : ∀ (d : D) (v : V) (a : PyData), RD K M G μ d v → pd d = some a → Dp K H v a
  | .non, _, a, .non, e => by cases e; exact .non
  | .bl b, _, a, .bl _, e => by cases e; exact .bl b
  | .int i, _, a, .int _, e => by cases e; exact .int i
  | .str x, _, a, .str _, e => by cases e; exact .str x
  | .tup xs, _, a, .tup h q, e => by
    rw [pd] at e
    cases h2 : pds xs with
    | none => rw [h2] at e; cases e
    | some z => rw [h2] at e; cases e; exact .tup (SqT.of (r.g _ _ h).tup) (pds_dp r xs _ z q h2)
  | .lst xs, _, a, .lst h q, e => by
    rw [pd] at e
    cases h2 : pds xs with
    | none => rw [h2] at e; cases e
    | some z => rw [h2] at e; cases e; exact .lst (SqL.of (r.g _ _ h).lst) (pds_dp r xs _ z q h2)
  | .scr _, _, _, _, e => by cases e
  | .dct _ _ _, _, _, _, e => by cases e
  | .obj _ _ _, _, _, _, e => by cases e
  | .ref _, _, _, _, e => by cases e
theorem pds_dp (r : Rel K M G Φ μ S H) : ∀ (ds : List D) (vs : List V) (as : List PyData), RDs K M G μ ds vs → pds ds = some as → DpAll K H vs as
  | [], _, as, .nil, e => by cases e; exact .nil
  | d :: ds, _, as, .cons h q, e => by
    rw [pds] at e
    cases h1 : pd d with
    | none => rw [h1] at e; cases e
    | some z =>
      cases h2 : pds ds with
      | none => rw [h1, h2] at e; cases e
      | some zs => rw [h1, h2] at e; cases e; exact .cons (pd_dp r d _ z h h1) (pds_dp r ds _ zs q h2)
end
theorem pd1_dp (r : Rel K M G Φ μ S H) {d : D} {v : V} {a : PyData} (q : RD K M G μ d v) (e : pd (res1 S d) = some a) : Dp K H v a := by
  cases d with
  | ref n =>
    rw [res1] at e
    cases h : getL S n with
    | none => rw [h] at e; cases e
    | some xs =>
      rw [h] at e
      cases q with
      | ref h1 =>
        obtain ⟨ys, h2, h3⟩ := r.look (getL_of h) h1
        replace e : (pds xs).map PyData.list = some a := e
        cases h4 : pds xs with
        | none => rw [h4] at e; cases e
        | some z => rw [h4] at e; cases e; exact .lst (SqL.of h2) (pds_dp r xs _ z h3 h4)
  | _ => exact pd_dp r _ _ _ q e
theorem pds1_dp (r : Rel K M G Φ μ S H) : ∀ (ds : List D) (vs : List V) (as : List PyData), RDs K M G μ ds vs → pds (ds.map (res1 S)) = some as → DpAll K H vs as
  | [], _, as, .nil, e => by cases e; exact .nil
  | d :: ds, _, as, .cons h q, e => by
    rw [List.map_cons, pds] at e
    cases h1 : pd (res1 S d) with
    | none => rw [h1] at e; cases e
    | some z =>
      cases h2 : pds (ds.map (res1 S)) with
      | none => rw [h1, h2] at e; cases e
      | some zs => rw [h1, h2] at e; cases e; exact .cons (pd1_dp r h h1) (pds1_dp r ds _ zs q h2)
theorem pd2_dp (r : Rel K M G Φ μ S H) {d : D} {v : V} {a : PyData} (q : RD K M G μ d v) (e : pd (res2 S d) = some a) : Dp K H v a := by
  cases d with
  | ref n =>
    rw [res2] at e
    cases h : getL S n with
    | none => rw [h] at e; cases e
    | some xs =>
      rw [h] at e
      cases q with
      | ref h1 =>
        obtain ⟨ys, h2, h3⟩ := r.look (getL_of h) h1
        replace e : (pds (xs.map (res1 S))).map PyData.list = some a := e
        cases h4 : pds (xs.map (res1 S)) with
        | none => rw [h4] at e; cases e
        | some z => rw [h4] at e; cases e; exact .lst (SqL.of h2) (pds1_dp r xs _ z h3 h4)
  | lst xs =>
    cases q with
    | lst h1 q =>
      replace e : (pds (xs.map (res1 S))).map PyData.list = some a := e
      cases h4 : pds (xs.map (res1 S)) with
      | none => rw [h4] at e; cases e
      | some z => rw [h4] at e; cases e; exact .lst (SqL.of (r.g _ _ h1).lst) (pds1_dp r xs _ z q h4)
  | _ => exact pd_dp r _ _ _ q e
theorem eqD_ok {x y : D} {v u : V} {k : Bool} (r : Rel K M G Φ μ S H) (qx : RD K M G μ x v) (qy : RD K M G μ y u) (e : eqD S x y = some k) :
    (scal v u = true ∧ k = decide (v = u)) ∨ ∃ a b, Dp K H v a ∧ Dp K H u b ∧ SeqAt.shaped a = true ∧ SeqAt.shaped b = true ∧ k = PyData.eqv a b := by
  unfold eqD at e
  split at e
  · cases qx; cases qy; cases e; exact .inl ⟨rfl, by simp⟩
  · cases qx; cases qy; cases e; exact .inl ⟨rfl, by simp⟩
  · cases qx; cases qy; cases e; exact .inl ⟨rfl, by simp⟩
  · cases qx; cases qy; cases e; exact .inl ⟨rfl, by simp⟩
  · split at e
    · rename_i a b h1 h2
      split at e
      · rename_i c
        cases e
        exact .inr ⟨a, b, pd2_dp r qx h1, pd2_dp r qy h2, c.1, c.2, rfl⟩
      · cases e
    · cases e
theorem flatD_ok {x : D} {v : V} (q : RD K M G μ x v) (f : flatD x = true) : flatV v = true := by
  cases q <;> first | rfl | cases f
theorem flats_ok : ∀ {xs : List D} {vs : List V}, RDs K M G μ xs vs → xs.all flatD = true → vs.all flatV = true
  | _, _, .nil, _ => rfl
  | _, _, .cons h q, f => by
    rw [List.all_cons, Bool.and_eq_true] at f ⊢
    exact ⟨flatD_ok h f.1, flats_ok q f.2⟩
theorem eqF_ok {x y : D} {v u : V} (qx : RD K M G μ x v) (qy : RD K M G μ y u) (f : flatD x = true) (g : flatD y = true) : eqF x y = eqV v u := by
  cases qx <;> cases qy <;> first | rfl | cases f | cases g
theorem anyF_ok {x : D} {v : V} (qx : RD K M G μ x v) (f : flatD x = true) : ∀ {ys : List D} {us : List V}, RDs K M G μ ys us → ys.all flatD = true → (ys.any fun y => eqF y x) = inV v us
  | _, _, .nil, _ => rfl
  | _, _, .cons h q, g => by
    rw [List.all_cons, Bool.and_eq_true] at g
    unfold inV
    rw [List.any_cons, List.any_cons, eqF_ok h qx g.1 f]
    exact congrArg _ (anyF_ok qx f q g.2)
theorem inD_ok {x y : D} {v u : V} {k : Bool} (r : Rel K M G Φ μ S H) (qx : RD K M G μ x v) (qy : RD K M G μ y u) (e : inD S x y = some k) :
    ((∃ i j, v = .str i ∧ u = .str j ∧ k = !(Builtin.Str.occurrences j i 0 j.length 1).isEmpty) ∨
      ∃ p xs, u = .ref p ∧ (SqL K H p xs ∨ SqT K H p xs) ∧ flatV v = true ∧ xs.all flatV = true ∧ k = inV v xs) ∨
      (∃ d ds, Dp K H v d ∧ Dp K H u (.list ds) ∧ SeqAt.shaped d = true ∧ SeqAt.shaped (.list ds) = true ∧ k = ds.any fun z => PyData.eqv z d) ∨ ∃ a o, u = .ref a ∧ DGet H a v o ∧ k = o.isSome := by
  unfold inD at e
  split at e
  · cases qx; cases qy; cases e; exact .inl (.inl ⟨_, _, rfl, rfl, rfl⟩)
  · split at e
    · rename_i c
      rw [Bool.and_eq_true] at c
      cases e
      cases qy with
      | tup h q => exact .inl (.inr ⟨_, _, rfl, .inr (SqT.of (r.g _ _ h).tup), flatD_ok qx c.1, flats_ok q c.2, anyF_ok qx c.1 q c.2⟩)
    · cases e
  · split at e
    · rename_i q hq
      cases hg : dGet q x with
      | none => rw [hg] at e; cases e
      | some o =>
        rw [hg] at e; cases e
        obtain ⟨a, p, h1, h2, h3⟩ := dGet_ok r qy qx hq hg
        exact .inr (.inr ⟨a, p, h1, h2, h3.isSome⟩)
    · split at e
      · rename_i a b h1 h2
        split at e
        · rename_i c
          cases e
          exact .inr (.inl ⟨a, b, pd_dp r _ _ _ qx h1, pd2_dp r qy h2, c.1, c.2, rfl⟩)
        · cases e
      · cases e
theorem isD_ok {x y : D} {v u : V} {k : Bool} (qx : RD K M G μ x v) (qy : RD K M G μ y u) (e : isD x y = some k) :
    (u = .non ∧ k = decide (v = .non)) ∨ ∃ a b, v = .bl a ∧ u = .bl b ∧ k = decide (a = b) := by
  cases qx <;> cases qy <;> first | (cases e; exact .inr ⟨_, _, rfl, rfl, rfl⟩) | (cases e; exact .inl ⟨rfl, by simp⟩) | cases e
theorem cmpD_ok {o : COp} {x y : D} {v u : V} {k : Bool} (r : Rel K M G Φ μ S H) (qx : RD K M G μ x v) (qy : RD K M G μ y u) (e : cmpD o x y S = some k) (q : Q (.bl k) H) : uCmp K o v u H Q := by
  cases o with
  | eq =>
    rcases eqD_ok r qx qy e with ⟨h1, rfl⟩ | ⟨a, b, h1, h2, h3, h4, rfl⟩
    · exact .inl ⟨h1, q⟩
    · exact .inr ⟨a, b, h1, h2, h3, h4, q⟩
  | ne =>
    replace e : (eqD S x y).map not = some k := e
    cases h : eqD S x y with
    | none => rw [h] at e; cases e
    | some z =>
      rw [h] at e; cases e
      rcases eqD_ok r qx qy h with ⟨h1, rfl⟩ | ⟨a, b, h1, h2, h3, h4, rfl⟩
      · exact .inl ⟨h1, q⟩
      · exact .inr ⟨a, b, h1, h2, h3, h4, q⟩
  | isin =>
    rcases inD_ok r qx qy e with (⟨i, j, h1, h2, rfl⟩ | ⟨p, xs, h1, h2, h3, h4, rfl⟩) | ⟨a, b, h1, h2, h3, h4, rfl⟩ | ⟨a, o, h1, h2, rfl⟩
    · exact .inl (.inl ⟨i, j, h1, h2, q⟩)
    · exact .inl (.inr ⟨p, xs, h1, h2, h3, h4, by rw [if_neg (by decide)]; exact q⟩)
    · exact .inr (.inl ⟨a, b, h1, h2, h3, h4, q⟩)
    · exact .inr (.inr ⟨a, o, h1, h2, q⟩)
  | notin =>
    replace e : (inD S x y).map not = some k := e
    cases h : inD S x y with
    | none => rw [h] at e; cases e
    | some z =>
      rw [h] at e; cases e
      rcases inD_ok r qx qy h with (⟨i, j, h1, h2, rfl⟩ | ⟨p, xs, h1, h2, h3, h4, rfl⟩) | ⟨a, b, h1, h2, h3, h4, rfl⟩ | ⟨a, o, h1, h2, rfl⟩
      · exact .inl (.inl ⟨i, j, h1, h2, q⟩)
      · exact .inl (.inr ⟨p, xs, h1, h2, h3, h4, by rw [if_pos rfl]; exact q⟩)
      · exact .inr (.inl ⟨a, b, h1, h2, h3, h4, q⟩)
      · exact .inr (.inr ⟨a, o, h1, h2, q⟩)
  | is_ =>
    rcases isD_ok qx qy e with ⟨h1, rfl⟩ | ⟨a, b, h1, h2, rfl⟩
    · exact .inl ⟨h1, q⟩
    · exact .inr ⟨a, b, h1, h2, q⟩
  | isnot =>
    replace e : (isD x y).map not = some k := e
    cases h : isD x y with
    | none => rw [h] at e; cases e
    | some z =>
      rw [h] at e; cases e
      rcases isD_ok qx qy h with ⟨h1, rfl⟩ | ⟨a, b, h1, h2, rfl⟩
      · exact .inl ⟨h1, q⟩
      · exact .inr ⟨a, b, h1, h2, q⟩
  | lt =>
    replace e : ltD .lt x y = some k := e
    cases qx <;> cases qy <;> first | (cases e; exact .inl ⟨_, _, rfl, rfl, q⟩) | (cases e; exact .inr ⟨_, _, rfl, rfl, q⟩) | cases e
  | le =>
    replace e : ltD .le x y = some k := e
    cases qx <;> cases qy <;> first | (cases e; exact .inl ⟨_, _, rfl, rfl, q⟩) | (cases e; exact .inr ⟨_, _, rfl, rfl, q⟩) | cases e
  | gt =>
    replace e : ltD .gt x y = some k := e
    cases qx <;> cases qy <;> first | (cases e; exact .inl ⟨_, _, rfl, rfl, q⟩) | (cases e; exact .inr ⟨_, _, rfl, rfl, q⟩) | cases e
  | ge =>
    replace e : ltD .ge x y = some k := e
    cases qx <;> cases qy <;> first | (cases e; exact .inl ⟨_, _, rfl, rfl, q⟩) | (cases e; exact .inr ⟨_, _, rfl, rfl, q⟩) | cases e
/-! ### truth, subscripts, slices, isinstance, built-ins -/
theorem truD_ok {x : D} {v : V} {k : Bool} (r : Rel K M G Φ μ S H) (q : RD K M G μ x v) (e : truD S x = some k) : TruV K v H k := by
  have seq : ∀ d : D, RD K M G μ d v → (seqD S d).map (fun xs => !xs.isEmpty) = some k → TruV K v H k := fun d q e => by
    cases h : seqD S d with
    | none => rw [h] at e; cases e
    | some xs =>
      rw [h] at e; cases e
      obtain ⟨p, ys, rfl, h1, h2⟩ := seqD_ok r q h
      have hl : (!xs.isEmpty) = !ys.isEmpty := by
        cases h2 <;> rfl
      rcases h1 with h1 | h1
      · exact .inl ⟨ys, h1, hl⟩
      · exact .inr (.inl ⟨ys, h1, hl⟩)
  cases q with
  | non => cases e; exact rfl
  | bl b => cases e; exact rfl
  | int i => cases e; exact rfl
  | str x =>
    simp only [truD] at e
    split at e
    · rename_i c; cases e; exact ⟨c, rfl⟩
    · cases e
  | tup h q => exact seq _ (.tup h q) e
  | lst h q => exact seq _ (.lst h q) e
  | scr h => exact seq _ (.scr h) e
  | ref h => exact seq _ (.ref h) e
  | dK _ _ _ _ => cases e
  | dT _ _ _ _ => cases e
  | obj _ _ _ => cases e
def uIx (K : PySem.W.Frag) : R2 := fun x y H Q => rIx K x y H Q ∨ ∃ a v, x = .ref a ∧ DGet H a y (some v) ∧ Q v H
theorem ix_uIx {X : Cx} (hu : X.A.units + 65 < cLine) : IxR X (uIx X.K) := ix_seq.or (ix_dct (by omega))
theorem ixD_ok {x i : D} {v u : V} {d : D} (r : Rel K M G Φ μ S H) (qx : RD K M G μ x v) (qi : RD K M G μ i u) (e : ixD S x i = some d) (h : ∀ z, RD K M G μ d z → Q z H) : uIx K v u H Q := by
  unfold ixD at e
  split at e
  · rename_i z k
    cases qx; cases qi
    split at e
    · rename_i c
      cases hc : atI z.cps.toList k with
      | none => rw [hc] at e; cases e
      | some cc => rw [hc] at e; cases e; exact .inl (.inr (.inr ⟨z, k, cc, rfl, rfl, c, hc, h _ (.str _)⟩))
    · cases e
  · split at e
    · rename_i q hq
      split at e
      · rename_i d' hg
        cases e
        obtain ⟨a, p, h1, h2, h3⟩ := dGet_ok r qx qi hq hg
        rcases h3 with ⟨d1, v1, e1, e2, q1⟩ | ⟨e1, _⟩
        · cases e1
          exact .inr ⟨a, v1, h1, e2 ▸ h2, h _ q1⟩
        · cases e1
      · cases e
    · split at e
      · rename_i k xs hs _
        cases qi
        obtain ⟨p, ys, rfl, h1, h2⟩ := seqD_ok r qx hs
        obtain ⟨z, h3, h4⟩ := atI_RDs h2 e
        rcases h1 with h1 | h1
        · exact .inl (.inl ⟨p, ys, k, z, rfl, rfl, h1, h3, h z h4⟩)
        · exact .inl (.inr (.inl ⟨p, ys, k, z, rfl, rfl, h1, h3, h z h4⟩))
      · cases e
def uSl (K : PySem.W.Frag) : V → Option Int → Option Int → Hp → VK → Prop := fun x lo hi H Q => (rSlS x lo hi H Q ∨ rSlL K x lo hi H Q) ∨ rSlA K x lo hi H Q
theorem sl_uSl {X : Cx} : SlR X (uSl X.K) := (sl_str.or sl_list).or sl_tupA
theorem cutD_RDs {xs : List D} {ys : List V} (q : RDs K M G μ xs ys) (lo hi : Option Int) : RDs K M G μ (cutD xs lo hi) (cutV ys lo hi) := by
  unfold cutD cutV
  rw [q.length]
  exact (q.drop _).take _
theorem cutD_all {xs : List D} {lo hi : Option Int} (h : HT.sIx xs.length 0 lo = 0 ∧ HT.sIx xs.length xs.length hi = xs.length) : cutD xs lo hi = xs := by
  unfold cutD
  rw [h.1, h.2, List.drop_zero, Nat.sub_zero, List.take_length]
theorem slD_ok {m : Bool} {x : D} {v : V} {lo hi : Option Int} (r : Rel K M G Φ μ S H) (q : RD K M G μ x v) (h : Res K M W σ G Φ μ (slD m x lo hi S) (rD K M) Q) : uSl K v lo hi H Q := by
  unfold slD at h
  split at h
  · cases q
    cases m with
    | true => exact h.elim
    | false =>
      simp only [Bool.false_eq_true, if_false] at h
      split at h
      · rename_i c; exact .inl (.inl ⟨_, rfl, c, h.now r (.str _)⟩)
      · exact h.elim
  · cases q with
    | tup h1 q =>
      rename_i xs a ys
      cases m with
      | true => exact h.elim
      | false =>
        refine .inr ⟨_, _, rfl, SqT.of (r.g _ _ h1).tup, fun z => ?_, fun _ => res_tup h r (cutD_RDs q lo hi)⟩
        rw [← q.length] at z
        rw [cutD_all z] at h
        exact h.now r (.tup h1 q)
  · cases q with
    | scr h1 => exact .inl (.inr ⟨_, _, rfl, r.sq h1, res_mkL h r (cutD_RDs (RDs.ints _) lo hi)⟩)
  · split at h
    · rename_i xs e
      obtain ⟨p, ys, rfl, h1, h2⟩ := lstD_ok r q e
      exact .inl (.inr ⟨p, ys, rfl, SqL.of h1, res_mkL h r (cutD_RDs h2 lo hi)⟩)
    · exact h.elim
def TyN.n : TyN → String
  | .int => "int" | .bool => "bool" | .str => "str" | .tuple => "tuple" | .list => "list"
theorem isiD_ok {x : D} {v : V} {t : TyN} {k : Bool} (r : Rel K M G Φ μ S H) (q : RD K M G μ x v) (e : isiD S x t = some k) (h : Q (.bl k) H) : rIsi K [v, .ty t.n] H Q := by
  cases q with
  | non => cases e; exact ⟨_, _, _, _, _, rfl, .ty _, .base .non, kit_ty (by cases t <;> decide +kernel), h⟩
  | bl b => cases e; exact ⟨_, _, _, _, _, rfl, .ty _, .base (.bl b), kit_ty (by cases t <;> decide +kernel), h⟩
  | int i => cases e; exact ⟨_, _, _, _, _, rfl, .ty _, .base (.int i), kit_ty (by cases t <;> decide +kernel), h⟩
  | str z => cases e; exact ⟨_, _, _, _, _, rfl, .ty _, .base (.str z), kit_ty (by cases t <;> decide +kernel), h⟩
  | tup h1 q => cases e; exact ⟨_, _, _, _, _, rfl, .ty _, .base (.tup (r.g _ _ h1).tup), kit_ty (by cases t <;> decide +kernel), h⟩
  | lst h1 q => cases e; exact ⟨_, _, _, _, _, rfl, .ty _, .base (.lst (r.g _ _ h1).lst), kit_ty (by cases t <;> decide +kernel), h⟩
  | ref h1 =>
    rename_i n a
    cases hg : getL S n with
    | none => simp only [isiD, hg] at e; cases e
    | some xs =>
      simp only [isiD, hg] at e
      obtain ⟨ys, h2, h3⟩ := r.look (getL_of hg) h1
      cases e
      exact ⟨_, _, _, _, _, rfl, .ty _, .base (.lst h2), kit_ty (by cases t <;> decide +kernel), h⟩
  | _ => cases e
end

/-! ### built-ins -/
def BI.v : BI → Value
  | .len => .builtin "len" | .int => .type "int" | .str => .type "str" | .tuple => .type "tuple" | .sum => .builtin "sum" | .all => .builtin "all" | .max => .builtin "max" | .min => .builtin "min" | .abs => .builtin "abs"
def BI.x : BI → Str
  | .len => "len" | .int => "int" | .str => "str" | .tuple => "tuple" | .sum => "sum" | .all => "all" | .max => "max" | .min => "min" | .abs => "abs"
def uBi (K : PySem.W.Frag) : BI → List V → Hp → VK → Prop
  | .len => fun xs H Q => ((∃ a kvs, xs = [V.ref a] ∧ Rd H a (.dK kvs) ∧ Q (.int kvs.length) H) ∨ ∃ p ys, xs = [.ref p] ∧ (SqL K H p ys ∨ SqT K H p ys) ∧ Q (.int ys.length) H) ∨ (∃ z, xs = [.str z] ∧ z.length ≤ sizeLine ∧ Q (.int z.length) H)
  | .int => fun xs H Q => ((∃ i, xs = [.int i] ∧ Q (.int i) H) ∨ ∃ k, xs = [.bl k] ∧ Q (.int (if k then 1 else 0)) H) ∨ (∃ a n, xs = [.str a] ∧ PySem.intText? a = some n ∧ a.length ≤ 640 ∧ Q (.int n) H)
  | .str => fun xs H Q => ∃ i, xs = [.int i] ∧ i.natAbs.log2 < 1920 ∧ Q (.str (toString i)) H
  | .tuple => fun xs H Q => ∃ p ys, xs = [.ref p] ∧ ((SqL K H p ys ∧ ∀ l, H l = none → Q (.ref l) (upd H l (.tup ys))) ∨ (SqT K H p ys ∧ Q (.ref p) H))
  | .sum => fun xs H Q => rSum K xs H Q ∨ rSumT K xs H Q
  | .all => rAll K
  | .max => fun xs H Q => (∃ i j, xs = [.int i, .int j] ∧ Q (.int (if j > i then j else i)) H) ∨ rMax K xs H Q
  | .min => fun xs H Q => (∃ i j, xs = [.int i, .int j] ∧ Q (.int (if j < i then j else i)) H) ∨ rMin K xs H Q
  | .abs => fun xs H Q => ∃ i, xs = [.int i] ∧ Q (.int (if i < 0 then -i else i)) H
theorem call_uBi {X : Cx} (hc : X.calm = true) : ∀ b : BI, CallR X b.v (uBi X.K b)
  | .len => (call_lenDct.or call_len_seq).or call_len_str
  | .int => call_int1.or call_int_str
  | .str => call_str_int
  | .tuple => call_tuple_of
  | .sum => (cr_sum hc).or (cr_sumT hc)
  | .all => cr_all hc
  | .max => (call_max2 hc).or (cr_max hc)
  | .min => (call_min2 hc).or (cr_min hc)
  | .abs => call_abs
theorem foldl_max_mem : ∀ (ns : List Int) (n : Int), ns.foldl max n ∈ n :: ns ∧ ∀ y ∈ n :: ns, y ≤ ns.foldl max n
  | [], n => by simp
  | x :: ns, n => by
    obtain ⟨h1, h2⟩ := foldl_max_mem ns (max n x)
    rw [List.foldl_cons]
    refine ⟨?_, fun y hy => ?_⟩
    · rcases List.mem_cons.mp h1 with h | h
      · rw [h]
        by_cases c : n ≤ x
        · rw [Int.max_eq_right c]; simp
        · rw [Int.max_eq_left (by omega)]; simp
      · exact List.mem_cons_of_mem _ (List.mem_cons_of_mem _ h)
    · have h0 := h2 (max n x) (List.mem_cons_self ..)
      rcases List.mem_cons.mp hy with rfl | hy
      · have := Int.le_max_left y x; omega
      · rcases List.mem_cons.mp hy with rfl | hy
        · have := Int.le_max_right n y; omega
        · exact h2 y (List.mem_cons_of_mem _ hy)
theorem foldl_min_mem : ∀ (ns : List Int) (n : Int), ns.foldl min n ∈ n :: ns ∧ ∀ y ∈ n :: ns, ns.foldl min n ≤ y
  | [], n => by simp
  | x :: ns, n => by
    obtain ⟨h1, h2⟩ := foldl_min_mem ns (min n x)
    rw [List.foldl_cons]
    refine ⟨?_, fun y hy => ?_⟩
    · rcases List.mem_cons.mp h1 with h | h
      · rw [h]
        by_cases c : n ≤ x
        · rw [Int.min_eq_left c]; simp
        · rw [Int.min_eq_right (by omega)]; simp
      · exact List.mem_cons_of_mem _ (List.mem_cons_of_mem _ h)
    · have h0 := h2 (min n x) (List.mem_cons_self ..)
      rcases List.mem_cons.mp hy with rfl | hy
      · have := Int.min_le_left y x; omega
      · rcases List.mem_cons.mp hy with rfl | hy
        · have := Int.min_le_right n y; omega
        · exact h2 y (List.mem_cons_of_mem _ hy)
theorem maxI_eq {n m : Int} {ns : List Int} (hm : m ∈ n :: ns) (hy : ∀ y ∈ n :: ns, y ≤ m) : m = ns.foldl max n := by
  obtain ⟨h1, h2⟩ := foldl_max_mem ns n
  have := hy _ h1
  have := h2 _ hm
  omega
theorem minI_eq {n m : Int} {ns : List Int} (hm : m ∈ n :: ns) (hy : ∀ y ∈ n :: ns, m ≤ y) : m = ns.foldl min n := by
  obtain ⟨h1, h2⟩ := foldl_min_mem ns n
  have := hy _ h1
  have := h2 _ hm
  omega
section
variable {K : PySem.W.Frag} {M : Am} {W : WX} {σ : L2.St} {G Φ : Hp} {μ : Mu} {S : Sto} {H : Hp} {Q : VK}
theorem lstInts_ok {d : D} {v : V} {ns : List Int} (r : Rel K M G Φ μ S H) (q : RD K M G μ d v) (e : (lstD S d).bind asInts = some ns) : ∃ a, v = .ref a ∧ SqL K H a (ns.map V.int) := by
  cases h : lstD S d with
  | none => rw [h] at e; cases e
  | some xs =>
    rw [h] at e
    obtain ⟨p, ys, rfl, h1, h2⟩ := lstD_ok r q h
    obtain rfl := asInts_ok e
    obtain rfl := h2.of_ints
    exact ⟨p, rfl, SqL.of h1⟩
theorem lstBls_ok {d : D} {v : V} {ns : List Bool} (r : Rel K M G Φ μ S H) (q : RD K M G μ d v) (e : (lstD S d).bind asBls = some ns) : ∃ a, v = .ref a ∧ SqL K H a (ns.map V.bl) := by
  cases h : lstD S d with
  | none => rw [h] at e; cases e
  | some xs =>
    rw [h] at e
    obtain ⟨p, ys, rfl, h1, h2⟩ := lstD_ok r q h
    obtain rfl := asBls_ok e
    obtain rfl := h2.of_bls
    exact ⟨p, rfl, SqL.of h1⟩
theorem len_ok {d : D} {v : V} {n : Int} (r : Rel K M G Φ μ S H) (q : RD K M G μ d v) (e : (seqD S d).map (fun xs => D.int xs.length) = some (.int n)) (h : Q (.int n) H) : uBi K .len [v] H Q := by
  cases hs : seqD S d with
  | none => rw [hs] at e; cases e
  | some xs =>
    rw [hs] at e; cases e
    obtain ⟨p, ys, rfl, h1, h2⟩ := seqD_ok r q hs
    exact .inl (.inr ⟨p, ys, rfl, h1, by rw [← h2.length]; exact h⟩)
theorem tupl_ok {d : D} {v : V} (r : Rel K M G Φ μ S H) (q : RD K M G μ d v) (h : Res K M W σ G Φ μ (okO ((lstD S d).map .tup) S) (rD K M) Q) : uBi K .tuple [v] H Q := by
  cases hs : lstD S d with
  | none => rw [hs] at h; exact h.elim
  | some xs =>
    rw [hs] at h
    obtain ⟨p, ys, rfl, h1, h2⟩ := lstD_ok r q hs
    exact ⟨p, ys, rfl, .inl ⟨SqL.of h1, res_tup h r h2⟩⟩
theorem biD_ok {b : BI} {ds : List D} {vs : List V} (r : Rel K M G Φ μ S H) (q : RDs K M G μ ds vs) (h : Res K M W σ G Φ μ (okO (biD b ds S) S) (rD K M) Q) : uBi K b vs H Q := by
  unfold biD at h
  split at h
  · cases q with
    | cons q1 q2 =>
      cases q2; cases q1
      split at h
      · rename_i c; exact .inr ⟨_, rfl, c, h.now r (.int _)⟩
      · exact h.elim
  · cases q with
    | cons q1 q2 =>
      cases q2
      rename_i d _ v
      cases hq : dctD S d with
      | some p =>
        rw [hq] at h
        obtain ⟨a, rfl, hk⟩ := dctD_ok r q1 hq
        rcases hk with ⟨h0, kk, ys, h1, h2, h3, h4⟩ | ⟨h0, kk, ys, h1, h2, h3, h4⟩
        · dsimp only at h
          rw [if_pos h0, h1] at h
          have hl : (kk.map kD).length = (kk.zip ys).length := by rw [List.length_map, List.length_zip, ← h2, Nat.min_self]
          rw [hl] at h
          exact .inl (.inl ⟨a, _, rfl, h4, h.now r (.int _)⟩)
        · dsimp only at h
          rw [if_neg (by rw [h0]; decide)] at h
          exact h.elim
      | none =>
        rw [hq] at h
        cases hs : seqD S d with
        | none => rw [hs] at h; exact h.elim
        | some xs =>
          rw [hs] at h
          exact len_ok r q1 (n := xs.length) (by rw [hs]; rfl) (h.now r (.int _))
  · cases q with
    | cons q1 q2 => cases q2; cases q1; exact .inl (.inl ⟨_, rfl, h.now r (.int _)⟩)
  · cases q with
    | cons q1 q2 => cases q2; cases q1; exact .inl (.inr ⟨_, rfl, h.now r (.int _)⟩)
  · cases q with
    | cons q1 q2 =>
      cases q2; cases q1
      split at h
      · rename_i a c
        cases hi : PySem.intText? a with
        | none => rw [hi] at h; exact h.elim
        | some n => rw [hi] at h; exact .inr ⟨_, n, rfl, hi, c, h.now r (.int n)⟩
      · exact h.elim
  · cases q with
    | cons q1 q2 =>
      cases q2; cases q1
      split at h
      · rename_i c; exact ⟨_, rfl, c, h.now r (.str _)⟩
      · exact h.elim
  · cases q with
    | cons q1 q2 =>
      cases q2
      cases q1 with
      | tup h1 q => exact ⟨_, _, rfl, .inr ⟨SqT.of (r.g _ _ h1).tup, h.now r (.tup h1 q)⟩⟩
  · cases q with
    | cons q1 q2 =>
      cases q2
      exact tupl_ok r q1 h
  · cases q with
    | cons q1 q2 =>
      cases q2
      rename_i xs v
      cases q1 with
      | tup h1 q =>
        cases hs : asInts xs with
        | none => rw [hs] at h; exact h.elim
        | some ns =>
          rw [hs] at h
          obtain rfl := asInts_ok hs
          obtain rfl := q.of_ints
          exact .inr ⟨_, ns, rfl, SqT.of (r.g _ _ h1).tup, h.now r (.int _)⟩
  · cases q with
    | cons q1 q2 =>
      cases q2
      rename_i d hne v
      cases hs : (lstD S d).bind asInts with
      | none => rw [hs] at h; exact h.elim
      | some ns =>
        rw [hs] at h
        obtain ⟨a, rfl, h1⟩ := lstInts_ok r q1 hs
        exact .inl ⟨a, ns, rfl, h1, h.now r (.int _)⟩
  · cases q with
    | cons q1 q2 =>
      cases q2
      rename_i d v
      cases hs : (lstD S d).bind asBls with
      | none => rw [hs] at h; exact h.elim
      | some ns =>
        rw [hs] at h
        obtain ⟨a, rfl, h1⟩ := lstBls_ok r q1 hs
        exact ⟨a, ns, rfl, h1, h.now r (.bl _)⟩
  · cases q with
    | cons q1 q2 =>
      cases q2 with
      | cons q2 q3 => cases q3; cases q1; cases q2; exact .inl ⟨_, _, rfl, h.now r (.int _)⟩
  · cases q with
    | cons q1 q2 =>
      cases q2
      rename_i d v
      cases hs : (lstD S d).bind asInts with
      | none => rw [hs] at h; exact h.elim
      | some ns =>
        rw [hs] at h
        cases ns with
        | nil => exact h.elim
        | cons n ns =>
          obtain ⟨a, rfl, h1⟩ := lstInts_ok r q1 hs
          refine .inr ⟨a, n :: ns, rfl, h1, by simp, fun m hm hy => ?_⟩
          rw [maxI_eq hm hy]
          exact h.now r (.int _)
  · cases q with
    | cons q1 q2 =>
      cases q2
      rename_i d v
      cases hs : (lstD S d).bind asInts with
      | none => rw [hs] at h; exact h.elim
      | some ns =>
        rw [hs] at h
        cases ns with
        | nil => exact h.elim
        | cons n ns =>
          obtain ⟨a, rfl, h1⟩ := lstInts_ok r q1 hs
          refine .inr ⟨a, n :: ns, rfl, h1, by simp, fun m hm hy => ?_⟩
          rw [minI_eq hm hy]
          exact h.now r (.int _)
  · cases q with
    | cons q1 q2 =>
      cases q2 with
      | cons q2 q3 => cases q3; cases q1; cases q2; exact .inl ⟨_, _, rfl, h.now r (.int _)⟩
  · cases q with
    | cons q1 q2 => cases q2; cases q1; exact ⟨_, rfl, h.now r (.int _)⟩
  · exact h.elim
end
/-! ### built-ins that make a list -/
theorem insI_perm (i : Int) : ∀ js : List Int, (insI i js).Perm (i :: js)
  | [] => .refl _
  | j :: js => by
    unfold insI
    split
    · exact .refl _
    · exact ((insI_perm i js).cons j).trans (.swap i j js)
theorem sortI_perm : ∀ is : List Int, (sortI is).Perm is
  | [] => .refl _
  | i :: is => (insI_perm i _).trans ((sortI_perm is).cons i)
theorem insI_sorted (i : Int) : ∀ js : List Int, js.Pairwise (· ≤ ·) → (insI i js).Pairwise (· ≤ ·)
  | [], _ => by simp [insI]
  | j :: js, h => by
    rw [List.pairwise_cons] at h
    unfold insI
    split
    · rename_i c
      exact List.pairwise_cons.mpr ⟨fun z hz => by
        rcases List.mem_cons.mp hz with rfl | hz
        · exact c
        · exact Int.le_trans c (h.1 z hz), List.pairwise_cons.mpr h⟩
    · rename_i c
      exact List.pairwise_cons.mpr ⟨fun z hz => by
        rcases List.mem_cons.mp ((insI_perm i js).mem_iff.mp hz) with rfl | hz
        · omega
        · exact h.1 z hz, insI_sorted i js h.2⟩
theorem sortI_sorted : ∀ is : List Int, (sortI is).Pairwise (· ≤ ·)
  | [] => .nil
  | i :: is => insI_sorted i _ (sortI_sorted is)
theorem sorted_unique : ∀ {as bs : List Int}, as.Perm bs → as.Pairwise (· ≤ ·) → bs.Pairwise (· ≤ ·) → as = bs := fun {as bs} h h1 h2 =>
  List.Perm.eq_of_pairwise (fun a b _ _ q1 q2 => Int.le_antisymm q1 q2) h1 h2 h
def BF.v : BF → Value
  | .list => .type "list" | .sorted => .builtin "sorted"
def BF.x : BF → Str
  | .list => "list" | .sorted => "sorted"
def uBf (K : PySem.W.Frag) : BF → List V → Hp → VK → Prop
  | .list => fun xs H Q => ∃ p ys, xs = [.ref p] ∧ (SqL K H p ys ∨ SqT K H p ys) ∧ ∀ l, H l = none → Q (.ref l) (upd H l (.lst ys))
  | .sorted => fun vs H Q => (rSortedI K vs H Q ∨ rSortD K vs H Q) ∨ rSortT K vs H Q
theorem call_uBf {X : Cx} (hc : X.calm = true) (hu : X.A.units + 65 < cLine) : ∀ b : BF, CallR X b.v (uBf X.K b)
  | .list => call_list_of
  | .sorted => fun pins s σ H xs us Q I r h => by
    rcases h with (h | h) | h
    · exact cr_sortedI pins s σ H xs us Q I r h
    · exact cr_sortD hu pins s σ H xs us Q I r h
    · exact cr_sortT hc hu pins s σ H xs us Q I r h
section
variable {K : PySem.W.Frag} {M : Am} {W : WX} {σ : L2.St} {G Φ : Hp} {μ : Mu} {S : Sto} {H : Hp} {Q : VK}
def keyD (d : D) : PyData := (pd d).getD .none
/-- a tuple of the heap stands still -/
theorem Rel.adopt {b : Addr} {xs : List V} (r : Rel K M G Φ μ S H) (h : H b = some (.tup xs)) : ∃ G1, Gr Φ G μ G1 μ ∧ Rel K M G1 Φ μ S H ∧ G1 b = some (.tup xs) := by
  have hf : Φ b = none := by
    cases e : Φ b with
    | none => rfl
    | some o =>
      have := r.f b o e
      rw [h] at this
      cases this
      exact absurd e (r.ft b xs)
  cases hg : G b with
  | some u =>
    have := r.g b u hg
    rcases this with z | ⟨z, o, z2⟩
    · rw [h] at z; cases z
      exact ⟨G, .refl, r, hg⟩
    · rw [h] at z2; cases z2
  | none =>
    have gg : ∀ a w, G a = some w → upd G b (.tup xs) a = some w := fun a w e => by
      rw [upd_ne (fun z => by rw [z, hg] at e; cases e)]; exact e
    refine ⟨upd G b (.tup xs), ⟨gg, fun a h1 h2 => ?_, fun _ _ h => h⟩, ⟨fun a w e => ?_, r.f, fun n ob e => ?_, fun n a ob e hd em => ?_, r.inj, r.ub, r.th, fun n a em h => r.fm n a em (gnone_of gg h), r.ft, fun a o e hg' => ?_, fun n a e em => ?_⟩, upd_same⟩
    · by_cases ha : a = b
      · subst ha; exact absurd hf h1
      · rw [upd_ne ha] at h2; exact h2
    · by_cases ha : a = b
      · subst ha; rw [upd_same] at e; cases e; exact .inl h
      · rw [upd_ne ha] at e; exact r.g a w e
    · obtain ⟨a, em, ho⟩ := r.s n ob e
      exact ⟨a, em, ho.grow gg (fun _ _ h => h)⟩
    · obtain ⟨h1, h2⟩ := r.gm n a ob e hd em
      obtain ⟨a', em', ho⟩ := r.s n ob e
      rw [em] at em'; cases em'
      have ha : a ≠ b := fun z => by
        subst z
        cases ob with
        | lst xs => obtain ⟨ys, q, _⟩ := ho; rw [h] at q; cases q
        | dct t ks vs => rcases ho with ⟨_, _, _, _, _, _, q⟩ | ⟨_, _, _, _, _, _, q⟩ <;> rw [h] at q <;> cases q
        | ins c ns vs => obtain ⟨_, _, _, _, q⟩ := ho; rw [h] at q; cases q
        | dead => exact hd rfl
      exact ⟨by rw [upd_ne ha]; exact h1, h2⟩
    · by_cases ha : a = b
      · subst ha; rw [hf] at e; cases e
      · rw [upd_ne ha] at hg'; exact r.fg a o e hg'
    · by_cases ha : a = b
      · subst ha; rw [upd_same]; exact fun z => nomatch z
      · rw [upd_ne ha]; exact r.dg n a e em
theorem Rel.adopts : ∀ (bs : List (Addr × List V)) {G : Hp}, Rel K M G Φ μ S H → (∀ b ∈ bs, H b.1 = some (.tup b.2)) → ∃ G1, Gr Φ G μ G1 μ ∧ Rel K M G1 Φ μ S H ∧ ∀ b ∈ bs, G1 b.1 = some (.tup b.2)
  | [], G, r, _ => ⟨G, .refl, r, fun b h => by cases h⟩
  | b :: bs, G, r, h => by
    obtain ⟨G1, g1, r1, e1⟩ := r.adopt (h b (List.mem_cons_self ..))
    obtain ⟨G2, g2, r2, e2⟩ := Rel.adopts bs r1 fun c hc => h c (List.mem_cons_of_mem _ hc)
    refine ⟨G2, g1.trans g2, r2, fun c hc => ?_⟩
    rcases List.mem_cons.mp hc with rfl | hc
    · exact g2.g _ _ e1
    · exact e2 c hc
theorem zip_RDs : ∀ {ds : List D} {vs : List V}, RDs K M G μ ds vs → ∀ t ∈ ds.zip vs, RD K M G μ t.1 t.2
  | _, _, .nil, t, h => by cases h
  | _, _, .cons q qs, t, h => by
    rcases List.mem_cons.mp h with rfl | h
    · exact q
    · exact zip_RDs qs t h
theorem RDs_zip : ∀ (ts : List (D × V)), (∀ t ∈ ts, RD K M G μ t.1 t.2) → RDs K M G μ (ts.map Prod.fst) (ts.map Prod.snd)
  | [], _ => .nil
  | t :: ts, h => .cons (h t (List.mem_cons_self ..)) (RDs_zip ts fun u hu => h u (List.mem_cons_of_mem _ hu))
/-- sorted alike -/
theorem sort_zip {β : Type} (f : β → V) (k : β → PyData) : ∀ (ds : List D) (bs : List β), ds.length = bs.length → bs.map k = ds.map keyD →
    ∃ ts : List (D × β), ts.Perm (ds.zip bs) ∧ ts.map Prod.fst = ds.mergeSort leD ∧ ts.map Prod.snd = bs.mergeSort (PySem.W.dataLe false k) := by
  intro ds bs hl hk
  refine ⟨(ds.zip bs).mergeSort fun t u => leD t.1 u.1, List.mergeSort_perm _ _, ?_, ?_⟩
  · rw [List.map_mergeSort (s := leD) (fun a _ b _ => rfl), List.map_fst_zip (by omega)]
  · rw [List.map_mergeSort (s := PySem.W.dataLe false k) (fun a ha b hb => ?_), List.map_snd_zip (by omega)]
    have kk : ∀ t ∈ ds.zip bs, k t.2 = keyD t.1 := fun t ht => by
      obtain ⟨i, hi, e⟩ := List.getElem_of_mem ht
      rw [List.length_zip] at hi
      rw [List.getElem_zip] at e
      have h1 : (bs.map k)[i]? = (ds.map keyD)[i]? := by rw [hk]
      rw [List.getElem?_map, List.getElem?_map, List.getElem?_eq_getElem (by omega), List.getElem?_eq_getElem (by omega)] at h1
      rw [← e]
      exact Option.some.inj h1
    show PySem.W.dataLe false keyD a.1 b.1 = PySem.W.dataLe false k a.2 b.2
    unfold PySem.W.dataLe PySem.W.sortLe
    simp only [kk a ha, kk b hb]
theorem bfD_ok {b : BF} {m : Bool} {ds : List D} {vs : List V} (r : Rel K M G Φ μ S H) (q : RDs K M G μ ds vs) (h : Res K M W σ G Φ μ (bfD b m ds S) (rD K M) Q) : uBf K b vs H Q := by
  unfold bfD at h
  split at h
  · cases q with
    | cons q1 q2 =>
      cases q2
      split at h
      · rename_i ys hs
        obtain ⟨p, us, rfl, h1, h2⟩ := seqD_ok r q1 hs
        exact ⟨p, us, rfl, h1, res_mkL h r h2⟩
      · exact h.elim
  · cases q with
    | cons q1 q2 =>
      cases q2
      split at h
      · rename_i ds hs
        obtain ⟨p, ys, rfl, h1, h2⟩ := lstD_ok r q1 hs
        split at h
        · rename_i ns hi
          have := asInts_ok hi
          subst this
          have := RDs.of_ints h2
          subst this
          refine .inl (.inl ⟨p, ns, rfl, SqL.of h1, fun ns' p hp hw hn => ?_⟩)
          have e : ns' = sortI ns := sorted_unique (hp.trans (sortI_perm ns).symm) hw (sortI_sorted ns)
          subst e
          exact res_mkL h r (RDs.ints _) p hn
        · split at h
          · rename_i ok
            obtain ⟨o1, o2, o3, o4⟩ := ok
            have hl := h2.length
            have z1 : ((ds.zip ys).map fun t => ((t.2, keyD t.1) : VP)).map Prod.fst = ys := by
              rw [List.map_map]
              exact List.map_snd_zip (by omega)
            have z2 : ((ds.zip ys).map fun t => ((t.2, keyD t.1) : VP)).map Prod.snd = ds.map keyD := by
              rw [List.map_map]
              have : (Prod.snd ∘ fun t : D × V => ((t.2, keyD t.1) : VP)) = keyD ∘ Prod.fst := rfl
              rw [this, ← List.map_map, List.map_fst_zip (by omega)]
            refine .inl (.inr ⟨p, (ds.zip ys).map fun t => (t.2, keyD t.1), rfl, by rw [z1]; exact SqL.of h1, fun z hz => ?_, by rw [z2]; exact o2, by rw [z2]; exact o3, fun p hp => ?_⟩)
            · obtain ⟨t, ht, rfl⟩ := List.mem_map.mp hz
              have qt := zip_RDs h2 t ht
              obtain ⟨a, ha, hd⟩ := o1 t.1 (List.of_mem_zip ht).1
              have : keyD t.1 = a := by unfold keyD; rw [ha]; rfl
              show Dp K H t.2 (keyD t.1) ∧ (keyD t.1).depth ≤ 50
              rw [this]
              exact ⟨pd_dp r _ _ _ qt ha, hd⟩
            · obtain ⟨ts, t1, t2, t3⟩ := sort_zip (β := VP) Prod.fst Prod.snd ds ((ds.zip ys).map fun t => (t.2, keyD t.1)) (by rw [List.length_map, List.length_zip]; omega) z2
              have qs : RDs K M G μ (ds.mergeSort leD) ((((ds.zip ys).map fun t => ((t.2, keyD t.1) : VP)).mergeSort (PySem.W.dataLe false Prod.snd)).map Prod.fst) := by
                rw [← t2, ← t3, List.map_map]
                have := RDs_zip (K := K) (M := M) (G := G) (μ := μ) (ts.map fun t => (t.1, t.2.1)) (fun u hu => by
                  obtain ⟨t, ht, rfl⟩ := List.mem_map.mp hu
                  have ht' := t1.mem_iff.mp ht
                  obtain ⟨i, hi, e⟩ := List.getElem_of_mem ht'
                  rw [List.length_zip, List.length_map, List.length_zip] at hi
                  rw [List.getElem_zip, List.getElem_map, List.getElem_zip] at e
                  rw [← e]
                  exact zip_RDs h2 _ (by rw [List.mem_iff_getElem]; exact ⟨i, by rw [List.length_zip]; omega, List.getElem_zip⟩))
                rw [List.map_map, List.map_map] at this
                exact this
              exact res_mkL h r qs p hp
          · exact h.elim
      · split at h
        · rename_i ks vs' hdc
          split at h
          · rename_i ok
            obtain ⟨o1, o2, o3, o4⟩ := ok
            obtain ⟨a, rfl, hd⟩ := dctD_ok r q1 hdc
            rcases hd with ⟨t0, _⟩ | ⟨t1, kk, ys, e1, e2, e3, e4⟩
            · cases t0
            · have e1 : ks = kk.map fun k => .tup (k.map kD) := e1
              subst e1
              have kd : ∀ k : List Key, pd (.tup (k.map kD)) = some (keyP k) := fun k => by
                have : ∀ k : List Key, pds (k.map kD) = some (k.map fun q => match q with
                    | .inl i => PyData.int i
                    | .inr x => .str x) := fun k => by
                  induction k with
                  | nil => rfl
                  | cons q k ih => cases q <;> (rw [List.map_cons, pds]; simp only [kD, pd, ih]; rfl)
                rw [pd, this]; rfl
              have kds : (kk.map fun k => D.tup (k.map kD)).map keyD = kk.map keyP := by
                rw [List.map_map]
                refine List.map_congr_left fun k _ => ?_
                show (pd (.tup (k.map kD))).getD .none = _
                rw [kd]; rfl
              have kvz : (kk.zip ys).map (fun z => keyP z.1) = kk.map keyP := by
                have : (fun z : List Key × V => keyP z.1) = keyP ∘ Prod.fst := rfl
                rw [this, ← List.map_map, List.map_fst_zip (by omega)]
              have o2 : PySem.W.AllAlike ((kk.map fun k => D.tup (k.map kD)).map keyD) := o2
              have o3 : PySem.W.Sortable ((kk.map fun k => D.tup (k.map kD)).map keyD) := o3
              rw [kds] at o2 o3
              rw [List.length_map] at o4
              refine .inr ⟨a, kk.zip ys, rfl, e4, by rw [List.length_zip]; omega, by rw [kvz]; exact o2, by rw [kvz]; exact o3, fun p bs hp hb1 hb2 => ?_⟩
              · rw [kvz] at hb1
                have hlb : bs.length = kk.length := by
                  have := congrArg List.length hb1
                  rw [List.length_map, List.length_map] at this
                  exact this
                -- the keys' own tuples
                have hkeys : ∀ (i : Nat) (k : List Key) (b : Addr × PyData), kk[i]? = some k → bs[i]? = some b → H b.1 = some (.tup (k.map kV)) := fun i k b hk hb => by
                  have hy : ∃ y, ys[i]? = some y := by
                    have := (List.getElem?_eq_some_iff.mp hk).1
                    exact ⟨ys[i], List.getElem?_eq_getElem (by omega)⟩
                  obtain ⟨y, hy⟩ := hy
                  have hz : (kk.zip ys)[i]? = some (k, y) := by rw [List.getElem?_zip_eq_some]; exact ⟨hk, hy⟩
                  have hc : (bs.map Prod.fst)[i]? = some b.1 := by rw [List.getElem?_map, hb]; rfl
                  obtain ⟨b', q1, q2⟩ := paired_get hb2 hz
                  rw [hc] at q1
                  cases q1
                  exact q2
                obtain ⟨G1, g1, r1, hG⟩ := Rel.adopts ((kk.zip bs).map fun t => (t.2.1, t.1.map kV)) r (fun c hc => by
                  obtain ⟨t, ht, rfl⟩ := List.mem_map.mp hc
                  obtain ⟨i, hi, e⟩ := List.getElem_of_mem ht
                  rw [List.length_zip] at hi
                  rw [List.getElem_zip] at e
                  rw [← e]
                  exact hkeys i _ _ (List.getElem?_eq_getElem (by omega)) (List.getElem?_eq_getElem (by omega)))
                obtain ⟨ts, t1, t2, t3⟩ := sort_zip (β := Addr × PyData) (fun b => .ref b.1) Prod.snd (kk.map fun k => D.tup (k.map kD)) bs (by rw [List.length_map, hlb]) (by rw [kds]; exact hb1)
                have qs : RDs K M G1 μ ((kk.map fun k => D.tup (k.map kD)).mergeSort leD) ((bs.mergeSort (PySem.W.dataLe false Prod.snd)).map fun b => V.ref b.1) := by
                  rw [← t2, ← t3, List.map_map]
                  have := RDs_zip (K := K) (M := M) (G := G1) (μ := μ) (ts.map fun t => (t.1, V.ref t.2.1)) (fun u hu => by
                    obtain ⟨t, ht, rfl⟩ := List.mem_map.mp hu
                    have ht' := t1.mem_iff.mp ht
                    obtain ⟨i, hi, e⟩ := List.getElem_of_mem ht'
                    rw [List.length_zip, List.length_map] at hi
                    rw [List.getElem_zip, List.getElem_map] at e
                    rw [← e]
                    have hG := hG (bs[i].1, kk[i].map kV) (List.mem_map.mpr ⟨(kk[i], bs[i]), by rw [List.mem_iff_getElem]; exact ⟨i, by rw [List.length_zip]; omega, List.getElem_zip⟩, rfl⟩)
                    have keyRD : ∀ k : List Key, RDs K M G1 μ (k.map kD) (k.map kV) := fun k => by
                      induction k with
                      | nil => exact .nil
                      | cons q k ih =>
                        cases q with
                        | inl i => exact .cons (.int i) ih
                        | inr x => exact .cons (.str x) ih
                    exact .tup hG (keyRD _))
                  rw [List.map_map, List.map_map] at this
                  exact this
                exact res_mkL (Res.mono g1 h) r1 qs p hp
          · exact h.elim
        · exact h.elim
  · exact h.elim
end
theorem asStrs_eq : ∀ {xs : List D} {ys : List Str}, asStrs xs = some ys → xs = ys.map D.str
  | [], ys, h => by cases h; rfl
  | .str x :: r, ys, h => by
    unfold asStrs at h
    cases e : asStrs r with
    | none => rw [e] at h; cases h
    | some zs => rw [e] at h; cases h; rw [List.map_cons, asStrs_eq e]
  | .non :: _, _, h => by simp [asStrs] at h
  | .bl _ :: _, _, h => by simp [asStrs] at h
  | .int _ :: _, _, h => by simp [asStrs] at h
  | .tup _ :: _, _, h => by simp [asStrs] at h
  | .lst _ :: _, _, h => by simp [asStrs] at h
  | .scr _ :: _, _, h => by simp [asStrs] at h
  | .dct _ _ _ :: _, _, h => by simp [asStrs] at h
  | .obj _ _ _ :: _, _, h => by simp [asStrs] at h
  | .ref _ :: _, _, h => by simp [asStrs] at h
section
variable {K : PySem.W.Frag} {M : Am} {W : WX} {σ : L2.St} {G Φ : Hp} {μ : Mu} {S : Sto} {H : Hp} {Q : VK}
theorem seqStrs_ok {d : D} {v : V} {ys : List Str} (r : Rel K M G Φ μ S H) (q : RD K M G μ d v) (h : (seqD S d).bind asStrs = some ys) : ∃ p, v = .ref p ∧ (SqL K H p (ys.map V.str) ∨ SqT K H p (ys.map V.str)) := by
  cases e : seqD S d with
  | none => rw [e] at h; cases h
  | some xs =>
    rw [e] at h
    have hx := asStrs_eq h
    subst hx
    obtain ⟨p, us, e1, h1, h2⟩ := seqD_ok r q e
    rw [RDs.of_strs h2] at h1
    exact ⟨p, e1, h1⟩
end
/-! ### methods that make a new list -/
def MF.T : MF → String
  | .split => "str"
def MF.x : MF → Str
  | .split => "split"
def MF.id : MF → String
  | .split => "str.split"
def uMf : MF → V → List V → Hp → VK → Prop
  | .split => fun x xs H Q => ∃ a b, x = .str a ∧ xs = [.str b] ∧ (b.length == 0) = false ∧ a.length + 2 ≤ sizeLine ∧ rNewStrs (Txt.split a b) H Q
theorem mt_uMf {X : Cx} : ∀ b : MF, MtR X b.id (uMf b)
  | .split => mt_split
section
variable {K : PySem.W.Frag} {M : Am} {W : WX} {σ : L2.St} {G Φ : Hp} {μ : Mu} {S : Sto} {H : Hp} {Q : VK}
theorem tyF_ok {b : MF} {x : D} {v : V} (q : RD K M G μ x v) (h : tyF b x = true) : tyV K b.T v H := by
  unfold tyF at h
  split at h
  · cases q; exact rfl
  · cases h
theorem RDs.strs : ∀ ns : List Str, RDs K M G μ (ns.map D.str) (ns.map V.str)
  | [] => .nil
  | n :: ns => .cons (.str n) (RDs.strs ns)
theorem mfD_ok {b : MF} {m : Bool} {x : D} {v : V} {ds : List D} {vs : List V} (r : Rel K M G Φ μ S H) (qx : RD K M G μ x v) (q : RDs K M G μ ds vs) (h : Res K M W σ G Φ μ (mfD b m x ds S) (rD K M) Q) : uMf b v vs H Q := by
  unfold mfD at h
  split at h
  · cases qx
    cases q with
    | cons q1 q2 =>
      cases q2; cases q1
      split at h
      · rename_i c
        exact ⟨_, _, rfl, rfl, c.1, c.2, res_mkL h r (RDs.strs _)⟩
      · exact h.elim
  · exact h.elim
end
/-! ### len(set(list of ints)) -/
theorem ints_of_vals : ∀ {ns : List Int} {us : List Value}, Vals (ns.map V.int) us → PyProof.Rows.IntsAre us ns
  | [], _, .nil => .nil
  | m :: ms, _, .cons h rest => by
    obtain ⟨tk, rfl⟩ := h
    exact .cons m tk (ints_of_vals rest)
def tLens (K : PySem.W.Frag) (te : TE) : TE := fun σ H Q => te σ H fun x H1 => ∃ (b : Addr) (ms : List Int), x = .ref b ∧ SqL K H1 b (ms.map V.int) ∧ ms.length < 4000 ∧ Q (.int ((PyProof.Rows.firstMet (fun i => ms.getD i 0) ms.length).length : Nat)) H1
theorem pe_lens {X : Cx} {a : Expr} {te : TE} {p1 p2 p3 p4 : Pos} (hc : X.calm = true) (g1 : Gl X "len") (m1 : X.mg "len" = none) (g2 : Gl X "set") (m2 : X.mg "set" = none) (he : PE X a te) (hn : starEach [a] X.env = (false, eval a X.env) :: starEach [] X.env) :
    PE X (.Call (.Name "len" p1) [.Call (.Name "set" p2) [a] [] p3] [] p4) (tLens X.K te) := by
  constructor
  intro pins s σ H Q I h
  refine Call_ (ld_blt I g1 m1 (show bootBuiltins "len" = some (.builtin "len") from by decide +kernel) (PyProof.Rows.callWith_builtin1 (PyProof.Rows.args_cons ?_ rfl) rfl rfl))
  refine Call_ (ld_blt I g2 m2 (show bootBuiltins "set" = some (.type "set") from by decide +kernel) (PyProof.Rows.callWith_type1 (PyProof.Rows.args_cons (thn (he.run pins s σ H _ I h) fun v t1 hv => PyProof.Rows.args_nil ?_) hn) hn rfl))
  obtain ⟨x, H1, J, rx, b, ms, rfl, hq, hl, q1⟩ := hv
  cases rx
  obtain ⟨its, rv, pl, _⟩ := J.list hq
  have sz : its.toArray.size = ms.length := by rw [List.size_toArray, ← rv.length, List.length_map]
  refine call_set_list (J.ok.hd hc) pl.isList (by rw [List.toList_toArray]; exact ints_of_vals rv) (by rw [sz]; unfold scanBound; omega) fun h' tk hS hk => PyProof.Rows.args_nil ?_
  rw [sz] at hS
  obtain ⟨o, es, ep, t, ho, hex, hd, _, _, hlt, hf, en⟩ := hS
  have J2 : Inv X pins σ H1 { t1 with heap := h', toks := tk } := J.kept fun c o' e => hk c o' (Heap.lt_size e) e
  refine call_len_set ho hex hd hf ?_ ⟨.int ((PyProof.Rows.firstMet (fun i => ms.getD i 0) ms.length).length : Nat), H1, J2.tok _, ⟨_, by rw [en]⟩, q1⟩
  unfold scanBound at hlt
  omega
/-! ### methods -/
def ME.T : ME → String
  | .append => "list" | .extend => "list" | .pop => "list" | .reverse => "list" | .index => "str" | .startswith => "str" | .find => "str" | .join => "str" | .get => "dict" | .count => "list" | .dpop => "dict"
def ME.x : ME → Str
  | .append => "append" | .extend => "extend" | .pop => "pop" | .reverse => "reverse" | .index => "index" | .startswith => "startswith" | .find => "find" | .join => "join" | .get => "get" | .count => "count" | .dpop => "pop"
def ME.id : ME → String
  | .append => "list.append" | .extend => "list.extend" | .pop => "list.pop" | .reverse => "list.reverse" | .index => "str.index" | .startswith => "str.startswith" | .find => "str.find" | .join => "str.join" | .get => "dict.get" | .count => "list.count" | .dpop => "dict.pop"
def rCountD (K : PySem.W.Frag) : V → List V → Hp → VK → Prop := fun x xs H Q => ∃ (a : Addr) (y : V) (d : PyData) (ds : List PyData), x = V.ref a ∧ xs = [y] ∧ Dp K H (V.ref a) (.list ds) ∧ Dp K H y d ∧
  SeqAt.shaped (.list ds) = true ∧ SeqAt.shaped d = true ∧ Q (.int (ds.countP fun z => PyData.eqv z d : Nat)) H
theorem mt_countD {X : Cx} (hu : X.A.units + 65 < cLine) : MtR X "list.count" (rCountD X.K) := by
  intro pins s σ H x xs v us Q I rx rxs h
  obtain ⟨a, y, d, ds, rfl, rfl, hl, hy, sl, sd, q⟩ := h
  cases rx
  cases rxs with
  | cons ry rt =>
    rename_i uy ut
    cases rt
    obtain ⟨bs, r1⟩ := Dp.reads I d y uy hy ry
    have hxs : PyData.canLayAll0 ds = true := SeqAt.canLay_of_shaped sl
    have hroom : X.A.units + 1 + min (PyData.depthAll ds) d.depth < cLine := room_in_shaped sd hu
    cases hl with
    | lst hs ha =>
      obtain ⟨its, rv, ⟨⟨cls, dd, data, sls⟩, n, ho, hc, hdn, hdt⟩, hlen⟩ := I.list hs
      simp only at hc hdt
      subst hc hdt
      obtain ⟨as, h4⟩ := Dp.readsAll I ds _ its ha rv
      have hmap : its.map (SeqAt.readOf s.heap) = ds := SeqAt.readsAll_map ds its as hxs h4
      have ec : its.toArray.toList.countP (fun u => PyData.eqv (SeqAt.readOf s.heap u) d) = ds.countP fun z => PyData.eqv z d := by
        rw [← hmap, List.countP_map] <;> rfl
      refine call_meets PySem.F.slot_list_count ⟨_, ho, rfl⟩ PySem.F.entry_list_count (PySem.F.args_list_count_2 _ _)
        (SeqAt.list_countAt a its.toArray n dd sls uy (fun u => PyData.eqv (SeqAt.readOf s.heap u) d)) ⟨ho, SeqAt.items_eqAt (vs := its.toArray) (show ReadsAll s.heap its.toArray.toList ds as from h4) r1 hxs (SeqAt.canLay_of_shaped sd) hroom, ?_⟩
      refine ⟨.int (ds.countP fun z => PyData.eqv z d : Nat), H, I.tok _, ⟨s.toks, ?_⟩, q⟩
      show Value.int ((its.toArray.toList.countP _ : Nat) : Int) s.toks = _
      rw [ec]
def uMe (K : PySem.W.Frag) : ME → V → List V → Hp → VK → Prop
  | .append => rAppend
  | .startswith => fun x xs H Q => ∃ a b, x = .str a ∧ xs = [.str b] ∧ Q (.bl (Txt.startswith a b)) H
  | .pop => rPopAt
  | .extend => rExtend
  | .find => fun x xs H Q => (∃ a b, x = .str a ∧ xs = [.str b] ∧ Q (.int (Txt.find a b)) H) ∨ ∃ (a b : Str) (i : Int), x = .str a ∧ xs = [.str b, .int i] ∧ Q (.int (Txt.find3 a b i)) H
  | .join => fun x xs H Q => ∃ a p, ∃ ys : List Str, x = .str a ∧ xs = [.ref p] ∧ (SqL K H p (ys.map V.str) ∨ SqT K H p (ys.map V.str)) ∧ (ys.map (·.length)).sum + ys.length * a.length ≤ 16777216 ∧ Q (.str (Txt.join a ys)) H
  | .get => fun x xs H Q => ∃ a y o, x = .ref a ∧ DGet H a y o ∧ ((xs = [y] ∧ Q (o.getD .non) H) ∨ ∃ d, xs = [y, d] ∧ Q (o.getD d) H)
  | .index => fun x xs H Q => ∃ a b i rest, x = .str a ∧ xs = [.str b] ∧ Builtin.Str.occurrences a b 0 a.length 1 = i :: rest ∧ Q (.int (i : Nat)) H
  | .count => rCountD K
  | _ => fun _ _ _ _ => False
theorem mt_uMe {X : Cx} (hu : X.A.units + 65 < cLine) : ∀ b : ME, MtR X b.id (uMe X.K b)
  | .append => mt_append
  | .startswith => mt_startswith
  | .extend => mt_extend
  | .pop => mt_popAt
  | .reverse => fun _ _ _ _ _ _ _ _ _ _ _ _ h => h.elim
  | .index => mt_sindex
  | .find => MtR.or mt_find mt_find3
  | .join => mt_join
  | .get => mt_get (by omega)
  | .count => mt_countD hu
  | .dpop => fun _ _ _ _ _ _ _ _ _ _ _ _ h => h.elim
/-- .. a dict may be locked, too -/
def tyV' (K : PySem.W.Frag) (T : String) (x : V) (H : Hp) : Prop := tyV K T x H ∨ (T = "dict" ∧ ∃ p, x = .ref p ∧ ((∃ kvs, Rd H p (.dK kvs)) ∨ ∃ kvs, Rd H p (.dT kvs)))
theorem tyV'_is {X : Cx} {pins : List (Addr × Obj)} {σ : L2.St} {H : Hp} {s : Shared} {T : String} {x : V} {v : Value} (I : Inv X pins σ H s) (r : RelV x v) (ty : tyV' X.K T x H) :
    s.TypeIs v T ∧ ∀ a, v = .ref a → ∃ ob, s.heap.get? a = some ob ∧ ob.dict = none := by
  rcases ty with ty | ⟨rfl, p, rfl, hk⟩
  · exact tyV_is I r ty
  · have fz : ∀ o, s.heap.get? p = some o → o.ExactDict → s.TypeIs v "dict" ∧ ∀ a, v = .ref a → ∃ ob, s.heap.get? a = some ob ∧ ob.dict = none := fun o e ex => by
      cases r
      refine ⟨⟨o, e, ex.1⟩, fun a e2 => ?_⟩
      cases e2
      exact ⟨o, e, ex.2.1⟩
    rcases hk with ⟨kvs, h | ⟨o, h⟩⟩ | ⟨kvs, h | ⟨o, h⟩⟩
    · exact tyV_is I r (.inr (.inr (.inl ⟨rfl, .inl ⟨_, h⟩⟩)))
    · obtain ⟨_, e, ex, _⟩ := I.frzK h
      exact fz _ e ex
    · exact tyV_is I r (.inr (.inr (.inl ⟨rfl, .inr ⟨_, h⟩⟩)))
    · obtain ⟨_, e, ex, _⟩ := I.frzT h
      exact fz _ e ex
def tBM' (K : PySem.W.Frag) (T : String) (r : V → List V → Hp → VK → Prop) (to : TE) (t : TA) : TE := fun σ H Q => to σ H fun x H1 => tyV' K T x H1 ∧ t σ H1 fun xs H2 => r x xs H2 Q
theorem pe_bm' {X : Cx} {o e : Expr} {es : List Expr} {to : TE} {t : TA} {name : Str} {apos cpos : Pos} {T id : String} {r : V → List V → Hp → VK → Prop} (pa : PlainAttrs T) (slot : Slot T name id) (hty : typeOf (.builtin id) = pure (.type "method_descriptor")) (hm : MtR X id r) (ho : PE X o to) (ha : PA X (e :: es) t)
    (hbase : attributeBase o name X.env (eval o X.env) = eval o X.env)
    (hfew : ((backTo cpos (starEach (e :: es) X.env)).all (fun x => !x.1) && (backToKw cpos (keywordEach [] X.env)).all (fun x => x.1.isSome)
      && decide ((e :: es).length + ([] : List Keyword).length + (if ([] : List Keyword).isEmpty then 0 else 1) < 30)) = true)
    (hline : (apos.endLine == cpos.line) = true) (hs : starEach (e :: es) X.env = (false, eval e X.env) :: starEach es X.env) (hplain : (backTo cpos (starEach es X.env)).any (·.1) = false) :
    PE X (.Call (.Attribute o name apos) (e :: es) [] cpos) (tBM' X.K T r to t) := by
  refine ⟨fun pins s σ H Q I h => ?_⟩
  refine wpAny_Call_method_late hbase hfew hline rfl (thn (ho.run pins s σ H _ I h) fun v s1 ⟨x, H1, I1, r1, ty, q1⟩ => ?_)
  obtain ⟨h1, h2⟩ := tyV'_is I1 r1 ty
  refine ⟨T, id, pa, slot, hty, h1, h2, ?_⟩
  have hA := ha.run cpos pins s1 σ H1 _ I1 q1
  rw [hs] at hA ⊢
  refine Calls.callWith_builtin (by show (false || (backTo cpos (starEach es X.env)).any (·.1)) = false; rw [hplain] <;> rfl) (Calls.evalArgs_plain ?_)
  exact thn hA fun us s2 ⟨vs, H2, I2, r2, q2⟩ => hm pins s2 σ H2 x vs v us Q I2 r1 r2 q2
section
variable {K : PySem.W.Frag} {M : Am} {W : WX} {σ : L2.St} {G Φ : Hp} {μ : Mu} {S : Sto} {H : Hp} {Q : VK}
theorem tyM_ok {b : ME} {x : D} {v : V} (r : Rel K M G Φ μ S H) (q : RD K M G μ x v) (h : tyM b x S = true) : tyV' K b.T v H := by
  unfold tyM at h
  split at h
  · rename_i n
    cases q with
    | ref hm =>
      cases hg : getL S n with
      | none => rw [hg] at h; cases h
      | some xs =>
        obtain ⟨ys, h1, h2⟩ := r.look (getL_of hg) hm
        exact .inl (.inl ⟨rfl, ys, SqL.of h1⟩)
  · rename_i n
    cases q with
    | ref hm =>
      cases hg : getL S n with
      | none => rw [hg] at h; cases h
      | some xs =>
        obtain ⟨ys, h1, h2⟩ := r.look (getL_of hg) hm
        exact .inl (.inl ⟨rfl, ys, SqL.of h1⟩)
  · rename_i n
    cases q with
    | ref hm =>
      cases hg : getL S n with
      | none => rw [hg] at h; cases h
      | some xs =>
        obtain ⟨ys, h1, h2⟩ := r.look (getL_of hg) hm
        exact .inl (.inl ⟨rfl, ys, SqL.of h1⟩)
  · cases q; exact .inl rfl
  · cases q; exact .inl rfl
  · cases q; exact .inl rfl
  · rename_i n
    cases hd : dctD S (.ref n) with
    | none => rw [hd] at h; cases h
    | some p =>
      cases q with
      | ref hm =>
        obtain ⟨t, ks, vs, hs, rfl⟩ := dctD_ref hd
        rcases r.look hs hm with ⟨t0, kk, ys, e1, l, q1, h⟩ | ⟨t0, kk, ys, e1, l, q1, h⟩
        · exact .inl (.inr (.inr (.inl ⟨rfl, .inl ⟨_, h⟩⟩)))
        · exact .inl (.inr (.inr (.inl ⟨rfl, .inr ⟨_, h⟩⟩)))
  · cases q with
    | dK e1 l q1 h => exact .inr ⟨rfl, _, rfl, .inl ⟨_, (r.g _ _ h).rd⟩⟩
    | dT e1 l q1 h => exact .inr ⟨rfl, _, rfl, .inr ⟨_, (r.g _ _ h).rd⟩⟩
  · cases q; exact .inl rfl
  · rename_i n
    cases q with
    | ref hm =>
      cases hg : getL S n with
      | none => rw [hg] at h; cases h
      | some xs =>
        obtain ⟨ys, h1, h2⟩ := r.look (getL_of hg) hm
        exact .inl (.inl ⟨rfl, ys, SqL.of h1⟩)
  · cases q with
    | lst h1 q => exact .inl (.inl ⟨rfl, _, SqL.of (r.g _ _ h1).lst⟩)
  · cases h
theorem meD_ok {b : ME} {x : D} {v : V} {ds : List D} {vs : List V} (r : Rel K M G Φ μ S H) (qx : RD K M G μ x v) (q : RDs K M G μ ds vs) (h : Res K M W σ G Φ μ (meD b x ds S) (rD K M) Q) : uMe K b v vs H Q := by
  unfold meD at h
  split at h
  · rename_i n y
    cases qx with
    | ref hm =>
      cases q with
      | cons q1 q2 =>
        cases q2
        split at h
        · rename_i zs hg
          split at h
          · rename_i c
            obtain ⟨ys, h1, h2⟩ := r.look (getL_of hg) hm
            have r' := r.write (getL_of hg) (fun z => nomatch z) hm (ob' := .lst (zs ++ [y])) (u := .lst (ys ++ [_])) ⟨_, upd_same, h2.append (.cons q1 .nil)⟩
            exact ⟨_, ys, _, rfl, rfl, h1, by rw [← h2.length]; exact c, h.now r' .non⟩
          · exact h.elim
        · exact h.elim
  · cases qx
    cases q with
    | cons q1 q2 => cases q2; cases q1; exact ⟨_, _, rfl, rfl, h.now r (.bl _)⟩
  · rename_i n i
    cases qx with
    | ref hm =>
      cases q with
      | cons q1 q2 =>
        cases q2; cases q1
        split at h
        · rename_i zs hg
          split at h
          · rename_i k hk
            split at h
            · rename_i y hy
              split at h
              · rename_i c
                obtain ⟨ys, h1, h2⟩ := r.look (getL_of hg) hm
                obtain ⟨v, hv, rv⟩ := h2.get hy
                obtain ⟨i1, i2, i3, i4⟩ := ixN_seq hk
                rw [sizeLine_eq] at c
                have r' := r.write (getL_of hg) (fun z => nomatch z) hm (ob' := .lst (zs.eraseIdx k)) (u := .lst (ys.eraseIdx k)) ⟨_, upd_same, h2.eraseIdx k⟩
                exact ⟨_, ys, i, k, v, rfl, rfl, h1, by omega, by omega, by rw [← h2.length]; exact i1, hv, h.now r' rv⟩
              · exact h.elim
            · exact h.elim
          · exact h.elim
        · exact h.elim
  · rename_i n d
    cases qx with
    | ref hm =>
      cases q with
      | cons q1 q2 =>
        cases q2
        split at h
        · rename_i zs ys hg hl
          split at h
          · rename_i c
            obtain ⟨us, h1, h2⟩ := r.look (getL_of hg) hm
            obtain ⟨b, ws, rfl, h3, h4⟩ := lstD_ok r q1 hl
            have r' := r.write (getL_of hg) (fun z => nomatch z) hm (ob' := .lst (zs ++ ys)) (u := .lst (us ++ ws)) ⟨_, upd_same, h2.append h4⟩
            exact ⟨_, b, us, ws, rfl, rfl, h1, h3, by rw [← h2.length, ← h4.length]; exact c, h.now r' .non⟩
          · exact h.elim
        · exact h.elim
  · cases qx
    cases q with
    | cons q1 q2 => cases q2; cases q1; exact .inl ⟨_, _, rfl, rfl, h.now r (.int _)⟩
  · cases qx
    cases q with
    | cons q1 q2 =>
      cases q2 with
      | cons q2 q3 => cases q3; cases q1; cases q2; exact .inr ⟨_, _, _, rfl, rfl, h.now r (.int _)⟩
  · rename_i a d
    cases qx
    cases q with
    | cons q1 q2 =>
      cases q2
      cases hs : (seqD S d).bind asStrs with
      | none => rw [hs] at h; exact h.elim
      | some ys =>
        rw [hs] at h
        dsimp only at h
        split at h
        · rename_i c
          obtain ⟨p, e, h1⟩ := seqStrs_ok r q1 hs
          exact ⟨_, p, ys, rfl, by rw [e], h1, c, h.now r (.str _)⟩
        · exact h.elim
  · rename_i y
    split at h
    · rename_i p hp
      cases q with
      | cons q1 q2 =>
        cases q2
        cases hg : dGet p y with
        | none => rw [hg] at h; exact h.elim
        | some o =>
          rw [hg] at h
          obtain ⟨a, pv, e1, e2, e3⟩ := dGet_ok r qx q1 hp hg
          exact ⟨a, _, pv, e1, e2, .inl ⟨rfl, h.now r (e3.getD .non)⟩⟩
    · exact h.elim
  · rename_i y d
    split at h
    · rename_i p hp
      cases q with
      | cons q1 q2 =>
        cases q2 with
        | cons q2 q3 =>
          cases q3
          cases hg : dGet p y with
          | none => rw [hg] at h; exact h.elim
          | some o =>
            rw [hg] at h
            obtain ⟨a, pv, e1, e2, e3⟩ := dGet_ok r qx q1 hp hg
            exact ⟨a, _, pv, e1, e2, .inr ⟨_, rfl, h.now r (e3.getD q2)⟩⟩
    · exact h.elim
  · cases qx
    cases q with
    | cons q1 q2 =>
      cases q2; cases q1
      split at h
      · rename_i i rest ho
        exact ⟨_, _, i, rest, rfl, rfl, ho, h.now r (.int _)⟩
      · exact h.elim
  · rename_i y
    cases q with
    | cons q1 q2 =>
      cases q2
      split at h
      · rename_i a b ha hb
        split at h
        · rename_i c
          have d1 := pd_dp r _ _ _ q1 ha
          have d2 := pd2_dp r qx hb
          obtain ⟨p, rfl⟩ : ∃ p, v = .ref p := by cases d2; exact ⟨_, rfl⟩
          exact ⟨p, _, a, b, rfl, rfl, d2, d1, c.2, c.1, h.now r (.int _)⟩
        · exact h.elim
      · exact h.elim
  · exact h.elim
end
end Ip
/-! ## enumerate of a tuple -/
namespace Ip
open PySem PySem.Spec PyProof.Rows L2
open PySem.AutoSeq1 (wpAny_loadPart')
theorem meets_enum_tup (l : Addr) (items : Array Value) (n : Nat) (dct : Option Addr) (sl : Array (Option Value)) :
    Meets (Builtin.«enumerate.__new__» ⟨[.type "enumerate", .ref l], []⟩) (fun _ R s => s.heap.get? l = some { cls := .type "tuple", dict := dct, data := .seq items n, slots := sl } ∧
      R (.ok (.ret (.ref (s.heap.push { cls := .type "tuple_iterator", data := .fields #[.ref l, .int 0 0] }).objs.size)))
        { s with heap := (s.heap.push { cls := .type "tuple_iterator", data := .fields #[.ref l, .int 0 0] }).push { cls := .type "enumerate", data := .fields #[.none, .bool false, .ref s.heap.objs.size, rawInt 0, .none, .none] } }) :=
  .of_wp fun prog w A R s h => by
    obtain ⟨hp, g, d, tk, os⟩ := s
    obtain ⟨hl, h⟩ := h
    have hsub := sub_enumerate
    have hT : Heap.IsTuple (Shared.heap ⟨hp, g, d, tk, os⟩) l items := ⟨_, hl, rfl, n, rfl⟩
    wp_walk using wpAny_loadPart' hl
    refine wpAny_stack_any fun st => wpAny_pure ?_
    split
    · rename_i c _ _ _ _ _
      cases hcc : (c == Value.type "enumerate")
      · wp_walk using wpAny_loadPart' hl, wpAny_pyIter_tuple hT
        exact ⟨_, rfl, h⟩
      · wp_walk using wpAny_loadPart' hl, wpAny_pyIter_tuple hT
        exact ⟨_, rfl, h⟩
    · wp_walk using wpAny_loadPart' hl, wpAny_pyIter_tuple hT
      exact ⟨_, rfl, h⟩
section
variable {prog : Program} {w : World} {A : Around} {E : Value → Shared → Prop} {s : Shared}
theorem call_enum_tup {l : Addr} {items : Array Value} {Q : Value → Shared → Prop} (hL : s.heap.IsTuple l items)
    (h : ∀ h', IsEnum h' (s.heap.objs.size + 1) s.heap.objs.size 0 .none → h'.IsTupleIter s.heap.objs.size l 0 → h'.objs.size = s.heap.objs.size + 2 →
      (∀ b o, s.heap.get? b = some o → h'.get? b = some o) → Q (.ref (s.heap.objs.size + 1)) { s with heap := h' }) :
    wpAny (model prog w) A (call (.type "enumerate") [.ref l]) Q E s := by
  obtain ⟨⟨c, dct, dt, sl⟩, hl, hc, n, hd⟩ := hL
  replace hc : c = .type "tuple" := hc
  replace hd : dt = .seq items n := hd
  subst hc hd
  refine callType_new F.called_enumerate (by decide) (F.typeCall_enumerate_1 _) (F.newCall_enumerate_1 _) (fun obj => F.args_object_init_2 obj _) F.entry_enumerate_new
    (meets_enum_tup l items n dct sl) ⟨hl, ?_⟩
  have hz : (s.heap.push { cls := .type "tuple_iterator", data := .fields #[.ref l, .int 0 0] }).objs.size = s.heap.objs.size + 1 := Heap.size_push ..
  show _ ∧ _
  rw [hz]
  have he : IsEnum ((s.heap.push { cls := .type "tuple_iterator", data := .fields #[.ref l, .int 0 0] }).push
      { cls := .type "enumerate", data := .fields #[.none, .bool false, .ref s.heap.objs.size, rawInt 0, .none, .none] }) (s.heap.objs.size + 1) s.heap.objs.size 0 .none := by
    have q := Heap.get?_push_size (s.heap.push { cls := .type "tuple_iterator", data := .fields #[.ref l, .int 0 0] })
      (o := { cls := .type "enumerate", data := .fields #[.none, .bool false, .ref s.heap.objs.size, rawInt 0, .none, .none] }) rfl
    rw [hz] at q; exact q
  exact ⟨⟨_, he, rfl⟩, h _ he ⟨_, Heap.get?_push_of_some _ (Heap.get?_push_size _ rfl), rfl, rfl⟩ (by rw [Heap.size_push, hz]) fun b o x => Heap.get?_push_of_some _ (Heap.get?_push_of_some _ x)⟩
end
/-- the items of the tuple at a, each in a new pair -/
def Iet (K : PySem.W.Frag) (a : Addr) (n : Nat) : It :=
  ⟨fun i H => i < n ∧ ∃ (xs : List V) (x : V), SqT K H a xs ∧ xs[i]? = some x, fun i H v H' => ∃ T x, v = .ref T ∧ H T = none ∧ H' = upd H T (.tup [.int (i : Nat), x]) ∧ ∀ xs, SqT K H a xs → xs[i]? = some x, fun i H => n ≤ i ∧ ∃ xs : List V, SqT K H a xs ∧ xs.length = n⟩
theorem turn_iet {P : Program} {w : World} {K : PySem.W.Frag} {elts : List Expr} {kk : Nat} {tpos : Pos} (a e it : Addr) (n : Nat) :
    Turn P w K (.Tuple elts kk tpos) (Iet K a n) [e, it] e (fun i h => i ≤ n ∧ (∃ old, IsEnum h e it ((i : Nat) : Int) old) ∧ h.IsTupleIter it a i ∧ e ≠ it ∧ a ≠ it ∧ a ≠ e) where
  mem := by simp
  obj := fun i h st b hb => by
    obtain ⟨_, ⟨old, he⟩, ⟨o, ho, hc, hd⟩, _⟩ := st
    have e' : b = e ∨ b = it := by simpa using hb
    rcases e' with z | z
    · rw [z]; exact ⟨_, he, fun v q => nomatch q⟩
    · rw [z]; exact ⟨o, ho, fun v q => by rw [hd] at q; cases q⟩
  keep := fun i h h' st k => let ⟨hn, ⟨old, he⟩, hi, hne⟩ := st; ⟨hn, ⟨old, k e (by simp) _ he⟩, hi.at fun o q => k it (by simp) o q, hne⟩
  item := by
    intro X hP hw hK hc i pins s σ H E I hf st hg
    subst hP hw hK
    obtain ⟨_, ⟨old, he⟩, hit, hne, ha1, ha2⟩ := st
    obtain ⟨hin, xs, x, hq, hx⟩ := hg
    obtain ⟨its, rv, p, hz⟩ := I.tuple hq
    obtain ⟨u, hu, ru⟩ := rv.get hx
    have hel : e < s.heap.objs.size := Heap.lt_size he
    have hil : it < s.heap.objs.size := by obtain ⟨_, q, _⟩ := hit; exact Heap.lt_size q
    have hlt : i < its.toArray.size := by
      rw [List.size_toArray]; exact (List.getElem?_eq_some_iff.mp hu).1
    refine wpAny_pyNext_enum_itemD (Draws.tuple (A := X.A.in1) (I.ok.hd hc) it a ha1 its.toArray) he ⟨hit, show s.heap.IsTuple a its.toArray from p⟩ hlt hne (by simp; exact ⟨hne, fun z => ha2 z.symm⟩) fun x' h' tk hpx ho hst hT hsz hk => ?_
    have hxu : x' = u := by
      have : its[i]? = some x' := by simpa using hpx
      rw [hu] at this; exact (Option.some.inj this).symm
    subst hxu
    refine ⟨_, rfl, wpAny_letOwnedTupleGo_enum (s := { s with heap := h', toks := tk + 1 }) ho fun h'' he' sb => ?_⟩
    have hT2 : h''.get? s.heap.objs.size = some { cls := .type "tuple", data := .seq #[.int i tk, x'] } := (sb.2 _ (Nat.ne_of_gt hel)).trans hT
    have new : ObjOk X.prog X.w (upd H s.heap.objs.size (.tup [.int (i : Nat), x])) h'' s.heap.objs.size (.tup [.int (i : Nat), x]) :=
      ⟨by show 2 ≤ sizeLine; decide, [.int i tk, x'], .cons ⟨_, rfl⟩ (.cons ru .nil), ⟨_, hT2, rfl, _, rfl⟩⟩
    have I1 : Inv X pins σ (upd H s.heap.objs.size (.tup [.int (i : Nat), x])) { s with heap := h'', toks := tk + 1 } :=
      I.turnedNew (ch := [e, it]) (fun b ob hb q => (sb.2 b (fun z => hb (by simp [z]))).trans (hk b ob (fun z => hb (by simp [z])) (fun z => hb (by simp [z])) q)) hf (Nat.le_refl _) new
    refine ⟨.ref s.heap.objs.size, _, I1, rfl, ⟨_, x, rfl, I.hok.fresh (Nat.le_refl _), rfl, fun ys hy => by rw [I.tuple_inj hy hq]; exact hx⟩, ⟨hin, ⟨x', ?_⟩, hst.1.at fun o q => (sb.2 it (Ne.symm hne)).trans q, hne, ha1, ha2⟩, fun b hb => ?_⟩
    · have e1 : ((i + 1 : Nat) : Int) = (i : Int) + 1 := by omega
      rw [e1]; exact he'
    · have hb' : b < s.heap.objs.size := by
        have e' : b = e ∨ b = it := by simpa using hb
        rcases e' with z | z
        · rw [z]; exact hel
        · rw [z]; exact hil
      rw [upd_ne (Nat.ne_of_lt hb')]
      exact (hf b hb).1
  done := by
    intro X hP hw hK hc i pins s σ H E I hf st hg
    subst hP hw hK
    obtain ⟨hin, ⟨old, he⟩, hit, hne, ha1, ha2⟩ := st
    obtain ⟨hni, xs, hq, hx⟩ := hg
    obtain ⟨its, rv, p, hz⟩ := I.tuple hq
    obtain ⟨f0, f1, f2, f3, f4, f5⟩ := hf it (by simp)
    have hl := rv.length
    have hi : i = its.toArray.size := by rw [List.size_toArray]; omega
    subst hi
    exact wpAny_pyNext_enum_endD (Draws.tuple (A := X.A.in1) (I.ok.hd hc) it a ha1 its.toArray) he ⟨hit, show s.heap.IsTuple a its.toArray from p⟩ fun h' eb => ⟨rfl, I.turned (t' := s.toks) (fun b o hb q => eb b o hb q) f0 f1 f3 f4 f5⟩
  self := fun A i s Q E st h => let ⟨_, ⟨_, he⟩, _⟩ := st; wpAny_pyIter_enum he h
def iEnumT (K : PySem.W.Frag) (ta : TA) : TI := fun σ H R => ta σ H fun vs H1 => ∃ a xs, vs = [.ref a] ∧ SqT K H1 a xs ∧ R (Iet K a xs.length) H1
theorem pi_enumT {X : Cx} {e : Expr} {ta : TA} {p pos tpos : Pos} {elts : List Expr} {kk : Nat} (hg : Gl X "enumerate") (hm : X.mg "enumerate" = none) (ha : PA X [e] ta) (hs : starEach [e] X.env = [(false, eval e X.env)]) :
    PI X (.Tuple elts kk tpos) (.Call (.Name "enumerate" p) [e] [] pos) (iEnumT X.K ta) := by
  refine ⟨fun pins s σ H R I h => ?_⟩
  refine Call_ (ld_blt I hg hm boot_enumerate (PyProof.Rows.callWith_type1 (thn (ha.run pos pins s σ H _ I h) fun us s1 ⟨vs, H1, I1, r1, q1⟩ => ?_) hs rfl))
  obtain ⟨a, xs, ex, hq, q⟩ := q1
  subst ex
  cases r1 with
  | cons r rr =>
    cases rr
    cases r
    obtain ⟨its, rv, p', hz⟩ := I1.tuple hq
    have pt : s1.heap.IsTuple a its.toArray := p'
    have hal : a < s1.heap.objs.size := by obtain ⟨o, ho, _⟩ := pt; exact Heap.lt_size ho
    refine call_enum_tup pt fun h' he hit hsz hk => wpAny_pyIter_enum he ?_
    have I2 : Inv X pins σ H1 { s1 with heap := h' } := I1.kept (t' := s1.toks) hk
    refine ⟨s1.heap.objs.size + 1, [s1.heap.objs.size + 1, s1.heap.objs.size], _, _, H1, rfl, I2, turn_iet a (s1.heap.objs.size + 1) s1.heap.objs.size xs.length, ⟨Nat.zero_le _, ⟨.none, he⟩, hit, Nat.succ_ne_self _, Nat.ne_of_lt hal, Nat.ne_of_lt (Nat.lt_succ_of_lt hal)⟩, fun b hb => ?_, q⟩
    have e' : b = s1.heap.objs.size + 1 ∨ b = s1.heap.objs.size := by simpa using hb
    have hle : s1.heap.objs.size ≤ b := by
      rcases e' with z | z
      · rw [z]; exact Nat.le_add_right _ _
      · rw [z]; exact Nat.le_refl _
    exact I1.fpOk hle (I1.hok.fresh hle)
end Ip
/-! ## The text against the language; its meaning is the function's -/
namespace Ip
open PySem PySem.Spec PyProof.Rows L2

def Cst.v : Cst → V
  | .non => .non
  | .bl b => .bl b
  | .int i => .int i
  | .str x => .str x
structure Txt where
  F : List Fn
  T : Tab
  cn : List Str
  xn : List Str
  cl : List Cl
structure Sys extends Txt where
  M : Am
  fa : Nat → Addr
  fd : Nat → FuncData
def spI (Y : Sys) (K : PySem.W.Frag) (k i : Nat) : Sp := fun vs H Q E => ∃ G Φ μ S ds, Rel K Y.M G Φ μ S H ∧ RDs K Y.M G μ ds vs ∧ Res K Y.M (fun c d _ H => E c d H) [] G Φ μ (callK Y.F Y.T k i ds S) (rD K Y.M) Q
def bNames : List Str := ["len", "int", "str", "tuple", "sum", "all", "max", "min", "abs", "range", "isinstance", "bool", "enumerate", "list", "sorted", "set"]
structure Facts (Y : Sys) (P : Program) (w : World) (K : PySem.W.Frag) (mg : Str → Option Value) (base : Heap) (k : Nat) : Prop where
  fn : ∀ (i : Nat) (f : Fn), Y.F[i]? = some f → f.name ≠ ("" : Str) → mg f.name = some (.ref (Y.fa i)) ∧ PySem.W.keepIn K (.ref (Y.fa i)) = true ∧ Binds K (Y.fd i) f.ps []
  ok : ∀ (i : Nat) (f : Fn), Y.F[i]? = some f → FnOk P w K mg base (L2.CX P w) (2 * k) (Y.fa i) (Y.fd i) f.ps (spI Y K k i)
  cs : ∀ (i : Nat) (x : Str), Y.cn[i]? = some x → ∃ c : Cst, Y.T.consts[i]? = some c.d ∧ ∃ u, mg x = some u ∧ RelV c.v u
  xs : ∀ (i : Nat) (x : Str), Y.xn[i]? = some x → mg x = some (.ref (Y.M.exc i)) ∧ PySem.W.keepIn K (.ref (Y.M.exc i)) = true ∧ PySem.W.excIn K (Y.M.exc i) [.type "ValueError", .type "Exception", .type "BaseException", .type "object"] "ValueError.__new__" = true ∧
    PySem.W.subIn K (.ref (Y.M.exc i)) (.type "BaseException") = some true ∧ PySem.W.typeIn K (.ref (Y.M.exc i)) = some (.type "type")
  free : ∀ x ∈ bNames, mg x = none
  bd : ∀ (i : Nat) (f : Fn), Y.F[i]? = some f → Binds K (Y.fd i) f.ps []
  cl : ∀ (c : Nat) (q : Cl), Y.cl[c]? = some q → Cls K (Y.M.cls c) ∧ mg q.name = some (.ref (Y.M.cls c)) ∧ Mk K (Y.M.cls c) (Y.fa q.ini) ∧ (∀ f ∈ q.fs, NoAttr K (Y.M.cls c) f) ∧ ∀ m i, (m, i) ∈ q.ms → Meth K (Y.M.cls c) m (Y.fa i)
  xm : ∀ (i j : Nat) (b : Bool), Y.T.sub i j = some b → PySem.W.exmOne K (.ref (Y.M.exc i)) (.ref (Y.M.exc j)) = some b ∧ PySem.W.kitOne K (.ref (Y.M.exc i)) (.ref (Y.M.exc j)) = some b ∧ ExcC K (Y.M.exc i)
structure XOk (Y : Sys) (k : Nat) (X : Cx) (W : WX) : Prop where
  calm : X.calm = true
  kind : X.env.scope.kind = .function
  nd : X.N.Nodup
  room : Room (2 * k + 1) X.A
  tk : Takes X W
  po : PassesOwn (model X.prog X.w) X.A X.env X.xe
  facts : Facts Y X.prog X.w X.K X.mg X.base k

/-! ### the checker -/
def meB : ME → Bool
  | .append => true
  | .startswith => true
  | .pop => true
  | .extend => true
  | .find => true
  | .join => true
  | .get => true
  | .index => true
  | .count => true
  | _ => false
def glB (sc : Scope) (x : Str) : Bool := sc.names.lookup x == some .globalImplicit
def visB (sc : Scope) (x : Str) : Bool := match sc.names.lookup x with
  | some .local => true
  | some .cell => true
  | some .free => true
  | _ => false
def locB (sc : Scope) (x : Str) : Bool := match sc.names.lookup x with
  | some .local => true
  | some .cell => true
  | _ => false
def plainIxB : Expr → Bool
  | .Slice .. => false
  | _ => true
def noStar : Expr → Bool
  | .Starred .. => false
  | _ => true
def baseB : Expr → Bool
  | .Call .. => false
  | _ => true
def cstB : Cst → Const → Bool
  | .non, .none => true
  | .bl a, .bool b => a == b
  | .int a, .int b => a == b
  | .str a, .str b => a == b
  | _, _ => false
def Cst.key : Cst → Option Key
  | .int i => some (.inl i)
  | .str x => some (.inr x)
  | _ => none
def dctB (t : Nat) (ks vs : List Cst) : Bool := (ks.length == vs.length) && ((ks.isEmpty && decide (t ≤ 1)) || ((t == 0) && (ks.all (fun k => k.key.isSome) && (decide ((ks.map Cst.key).Nodup) && decide (ks.length ≤ 15)))))
def okKs : List Cst → List (Option Expr) → Bool
  | [], [] => true
  | k :: ks, some (.Constant c _ _) :: es => cstB k c && okKs ks es
  | _, _ => false
def okVs : List Cst → List Expr → Bool
  | [], [] => true
  | k :: ks, .Constant c _ _ :: es => cstB k c && okVs ks es
  | _, _ => false
def isTupE : Expr → Bool
  | .Tuple .. => true
  | _ => false
def nameIs (sc : Scope) (x : Str) : Expr → Bool
  | .Name y _ => y == x && glB sc x && !(x == ("__debug__" : Str))
  | _ => false
def notSet : Expr → Bool
  | .Set .. => false
  | _ => true
mutual
def Tg.slots : Tg → List Nat
  | .n i => [i]
  | .t ts => ts.slots
def Tgs.slots : Tgs → List Nat
  | .nil => []
  | .cons t r => t.slots ++ r.slots
end
def nmOk (x : Str) : Bool := !(x == ("__debug__" : Str)) && !(x == ("__classdict__" : Str))
mutual
def okT (N : List Str) (cb : Str → Bool) : Tg → Scope → Expr → Bool
  | .n i, sc, e => match e with
    | .Name x _ => decide (N[i]? = some x) && (decide (sc.names.lookup x = some .local) || (decide (sc.names.lookup x = some .cell) && cb x))
    | _ => false
  | .t ts, sc, e => match e with
    | .Tuple es _ _ => okTs N cb ts sc es
    | _ => false
def okTs (N : List Str) (cb : Str → Bool) : Tgs → Scope → List Expr → Bool
  | .nil, _, es => es.isEmpty
  | .cons t r, sc, es => match es with
    | e :: es => noStar e && okT N cb t sc e && okTs N cb r sc es
    | [] => false
end
/-- has the class the attribute, the method, this __init__? -/
def attB (Y : Txt) (c : Nat) (f : Str) : Bool := match Y.cl[c]? with
  | some q => q.fs.contains f
  | none => false
def mclB (Y : Txt) (c f : Nat) (m : Str) : Bool := match Y.cl[c]?, Y.F[f]? with
  | some q, some _ => q.ms.contains (m, f)
  | _, _ => false
def mkB (Y : Txt) (c f : Nat) (x : Str) : Bool := match Y.cl[c]?, Y.F[f]? with
  | some q, some _ => decide (q.name = x) && decide (q.ini = f)
  | _, _ => false
mutual
def okE (Y : Txt) (N : List Str) : Ex → Scope → Expr → Bool
  | .c k, _, e => match e with
    | .Constant c _ _ => cstB k c
    | _ => false
  | .v i, sc, e => match e with
    | .Name x _ => decide (N[i]? = some x) && visB sc x && nmOk x
    | _ => false
  | .g n, sc, e => match e with
    | .Name x _ => decide (Y.cn[n]? = some x) && glB sc x && nmOk x
    | _ => false
  | .bin o _ a b, sc, e => match e with
    | .BinOp l op r _ => decide (op = o.op) && okE Y N a sc l && okE Y N b sc r
    | _ => false
  | .neg a, sc, e => match e with
    | .UnaryOp .USub l _ => okE Y N a sc l
    | _ => false
  | .cmp o a b, sc, e => match e with
    | .Compare l [op] [r] _ => decide (op = o.op) && okE Y N a sc l && okE Y N b sc r && notSet r
    | _ => false
  | .not a, sc, e => match e with
    | .UnaryOp .Not l _ => okE Y N a sc l
    | _ => false
  | .and a b, sc, e => match e with
    | .BoolOp .And [x, y] _ => okE Y N a sc x && okE Y N b sc y
    | .BoolOp .And (x :: y :: z :: r) pos => okE Y N a sc x && okE Y N b sc (.BoolOp .And (y :: z :: r) pos)
    | _ => false
  | .or a b, sc, e => match e with
    | .BoolOp .Or [x, y] _ => okE Y N a sc x && okE Y N b sc y
    | .BoolOp .Or (x :: y :: z :: r) pos => okE Y N a sc x && okE Y N b sc (.BoolOp .Or (y :: z :: r) pos)
    | _ => false
  | .ite t a b, sc, e => match e with
    | .IfExp c l r _ => okE Y N t sc c && okE Y N a sc l && okE Y N b sc r
    | _ => false
  | .tup es, sc, e => match e with
    | .Tuple xs _ _ => okEs Y N es sc xs
    | _ => false
  | .lst _ es, sc, e => match e with
    | .List xs _ => okEs Y N es sc xs
    | _ => false
  | .dct _ t ks vs, _, e => match e with
    | .Dict keys values _ => dctB t ks vs && (okKs ks keys && okVs vs values)
    | _ => false
  | .ix a i, sc, e => match e with
    | .Subscript l r _ => okE Y N a sc l && okE Y N i sc r && plainIxB r
    | _ => false
  | .sl _ a lo hi, sc, e => match e with
    | .Subscript l (.Slice x y none _) _ => okE Y N a sc l && okP Y N lo sc x && okP Y N hi sc y
    | _ => false
  | .call f _ es, sc, e => match e with
    | .Call (.Name x _) (y :: ys) [] _ => (match Y.F[f]? with
      | some fn => decide (fn.name = x) && !(x == ("" : Str))
      | none => false) && glB sc x && nmOk x && okEs Y N es sc (y :: ys)
    | _ => false
  | .bi b es, sc, e => match e with
    | .Call (.Name x _) (y :: ys) [] _ => decide (x = b.x) && glB sc x && okEs Y N es sc (y :: ys)
    | _ => false
  | .bf b _ es, sc, e => match e with
    | .Call (.Name x _) (y :: ys) [] _ => decide (x = b.x) && glB sc x && okEs Y N es sc (y :: ys)
    | _ => false
  | .me b o es, sc, e => match e with
    | .Call (.Attribute l x apos) (y :: ys) [] cpos => meB b && decide (x = b.x) && baseB l && (apos.endLine == cpos.line) && decide (ys.length < 29) && okE Y N o sc l && okEs Y N es sc (y :: ys)
    | _ => false
  | .mf b _ o es, sc, e => match e with
    | .Call (.Attribute l x apos) (y :: ys) [] cpos => decide (x = b.x) && baseB l && (apos.endLine == cpos.line) && decide (ys.length < 29) && okE Y N o sc l && okEs Y N es sc (y :: ys)
    | _ => false
  | .lens a, sc, e => match e with
    | .Call (.Name x _) [.Call (.Name y _) [l] [] _] [] _ => decide (x = "len") && glB sc x && decide (y = "set") && glB sc y && noStar l && okE Y N a sc l
    | _ => false
  | .isi a t, sc, e => match e with
    | .Call (.Name x _) [l, .Name y _] [] _ => decide (x = "isinstance") && glB sc x && decide (y = PySem.Str.ofString t.n) && glB sc y && noStar l && okE Y N a sc l
    | _ => false
  | .att c o f, sc, e => match e with
    | .Attribute l x _ => decide (x = f) && baseB l && attB Y c f && okE Y N o sc l
    | _ => false
  | .mcl c f m _ o es, sc, e => match e with
    | .Call (.Attribute l x apos) ys [] cpos => decide (x = m) && baseB l && (apos.endLine == cpos.line) && decide (ys.length < 29) && mclB Y c f m && okE Y N o sc l && okEs Y N es sc ys
    | _ => false
  | .mk c f _ es, sc, e => match e with
    | .Call (.Name x _) (y :: ys) [] _ => mkB Y c f x && glB sc x && nmOk x && okEs Y N es sc (y :: ys)
    | _ => false
  | .fze x, sc, e => okE Y N x sc e
  | .rev m x, sc, e => match e with
    | .Subscript l (.Slice none none (some (.UnaryOp .USub (.Constant (.int 1) _ _) _)) _) _ => okE Y N x sc l
    | _ => false
  | .lc _ own tg it cond x, sc, e => match e with
    | .ListComp elt [⟨t, iter, ifs, 0⟩] scope _ => blkC N sc scope own && notSet iter && okI Y N it sc iter t && okT N (fun x => scope.names.lookup x == some .cell) tg (relS scope sc) t && (tg.slots.all fun i => (own.map (·.2)).contains i) &&
        okC Y N cond (relS scope sc) ifs && okE Y N x (relS scope sc) elt
    | _ => false
  | .lc2 _ own tg it cond vs tg1 it1 cond1 x, sc, e => match e with
    | .ListComp elt [⟨t, iter, ifs, 0⟩, ⟨t1, iter1, ifs1, 0⟩] scope _ => blkC N sc scope own && notSet iter && okI Y N it sc iter t && okT N (fun x => scope.names.lookup x == some .cell) tg (relS scope sc) t && (tg.slots.all fun i => (own.map (·.2)).contains i) &&
        okC Y N cond (relS scope sc) ifs && (notSet iter1 && okI Y N it1 (relS scope sc) iter1 t1 && okT N (fun x => scope.names.lookup x == some .cell) tg1 (relS scope sc) t1 && (tg1.slots.all fun i => vs.contains i) && (vs.all fun i => (own.map (·.2)).contains i) &&
        okC Y N cond1 (relS scope sc) ifs1 && okE Y N x (relS scope sc) elt)
    | _ => false
def okEs (Y : Txt) (N : List Str) : Exs → Scope → List Expr → Bool
  | .nil, _, es => es.isEmpty
  | .cons x r, sc, es => match es with
    | e :: es => noStar e && okE Y N x sc e && okEs Y N r sc es
    | [] => false
def okP (Y : Txt) (N : List Str) : Oe → Scope → Option Expr → Bool
  | .no, _, e => e.isNone
  | .so x, sc, e => match e with
    | some e => okE Y N x sc e
    | none => false
def okC (Y : Txt) (N : List Str) : Oe → Scope → List Expr → Bool
  | .no, _, e => e.isEmpty
  | .so x, sc, e => match e with
    | [e] => okE Y N x sc e
    | _ => false
-- the iterable, and the target
def okI (Y : Txt) (N : List Str) : Itr → Scope → Expr → Expr → Bool
  | .of x, sc, e, _ => okE Y N x sc e
  | .rng1 a, sc, e, _ => match e with
    | .Call (.Name x _) [l] [] _ => decide (x = "range") && glB sc x && noStar l && okE Y N a sc l
    | _ => false
  | .rng2 a b, sc, e, _ => match e with
    | .Call (.Name x _) [l, r] [] _ => decide (x = "range") && glB sc x && noStar l && noStar r && okE Y N a sc l && okE Y N b sc r
    | _ => false
  | .enum a, sc, e, tg => match e with
    | .Call (.Name x _) [l] [] _ => decide (x = "enumerate") && glB sc x && noStar l && isTupE tg && okE Y N a sc l
    | _ => false
end
/-! ### small facts of syntax -/
theorem starEach_no {e : Expr} (h : noStar e = true) (es : List Expr) (env : Env) : starEach (e :: es) env = (false, eval e env) :: starEach es env := by
  cases e <;> first | rfl | cases h
theorem attributeBase_no {e : Expr} (h : baseB e = true) (f : Str) (env : Env) (w : Sem Value) : attributeBase e f env w = w := by
  cases e <;> first | rfl | cases h
theorem plainIx_no {e : Expr} (h : plainIxB e = true) : ∀ o i, subscripted e false o i = operate [o, i] (getItem o i) := by
  intro o i
  cases e <;> first | rfl | cases h
theorem marks_no {e : Expr} (h : notSet e = true) (op : CmpOp) : behindInMarks op e = false := by
  cases e <;> first | rfl | cases h
theorem folded_no {e : Expr} (h : notSet e = true) (env : Env) (x : Value) : foldedSetIterable e env x = pure x := by
  cases e <;> first | rfl | cases h
theorem glB_ok {X : Cx} {x : Str} (h : glB X.env.scope x = true) : Gl X x := beq_iff_eq.mp h
theorem visB_ok {sc : Scope} {x : Str} (h : visB sc x = true) : Vis sc x := by
  unfold visB at h
  split at h
  · rename_i e; exact .inl e
  · rename_i e; exact .inr (.inl e)
  · rename_i e; exact .inr (.inr e)
  · cases h
theorem nmOk_1 {x : Str} (h : nmOk x = true) : (x == ("__debug__" : Str)) = false := by
  unfold nmOk at h
  rw [Bool.and_eq_true] at h
  simpa using h.1
theorem nmOk_2 {x : Str} (h : nmOk x = true) : (x == ("__classdict__" : Str)) = false := by
  unfold nmOk at h
  rw [Bool.and_eq_true] at h
  simpa using h.2
def allNo : List Expr → Bool
  | [] => true
  | e :: es => noStar e && allNo es
theorem backTo_no : ∀ (es : List Expr) (env : Env) (pos : Pos), allNo es = true → (backTo pos (starEach es env)).any (·.1) = false
  | [], _, _, _ => rfl
  | e :: es, env, pos, h => by
    unfold allNo at h
    rw [Bool.and_eq_true] at h
    rw [starEach_no h.1]
    show (false || (backTo pos (starEach es env)).any (·.1)) = false
    rw [backTo_no es env pos h.2]
    rfl
theorem backTo_all : ∀ (es : List Expr) (env : Env) (pos : Pos), allNo es = true → (backTo pos (starEach es env)).all (fun x => !x.1) = true
  | [], _, _, _ => rfl
  | e :: es, env, pos, h => by
    unfold allNo at h
    rw [Bool.and_eq_true] at h
    rw [starEach_no h.1]
    show ((!false) && (backTo pos (starEach es env)).all (fun x => !x.1)) = true
    rw [backTo_all es env pos h.2]
    rfl
theorem okEs_no {Y : Txt} {N : List Str} {sc : Scope} : ∀ (xs : Exs) (es : List Expr), okEs Y N xs sc es = true → allNo es = true
  | .nil, es, h => by
    cases es with
    | nil => rfl
    | cons _ _ => simp [okEs] at h
  | .cons x r, es, h => by
    cases es with
    | nil => simp [okEs] at h
    | cons e es =>
      simp only [okEs, Bool.and_eq_true] at h
      unfold allNo
      rw [h.1.1, okEs_no r es h.2]
      rfl
theorem _root_.L2.PW.of_pt {X : Cx} {op : BoolOp} {es : List Expr} {pos : Pos} {t : TT} (h : PT X (.BoolOp op es pos) t) : PW X (.BoolOp op es pos) t := by
  refine ⟨fun whole pins s σ H Q I q => ?_⟩
  have := h.run pins s σ H Q I q
  rw [PySem.isTrue] at this ⊢
  exact this
theorem _root_.L2.PE.imp {X : Cx} {e : Expr} {t t' : TE} (h : PE X e t) (f : ∀ σ H Q, t' σ H Q → t σ H Q) : PE X e t' := ⟨fun pins s σ H Q I q => h.run pins s σ H Q I (f σ H Q q)⟩
theorem _root_.L2.PT.imp {X : Cx} {e : Expr} {t t' : TT} (h : PT X e t) (f : ∀ σ H Q, t' σ H Q → t σ H Q) : PT X e t' := ⟨fun pins s σ H Q I q => h.run pins s σ H Q I (f σ H Q q)⟩
theorem _root_.L2.PA.imp {X : Cx} {e : List Expr} {t t' : TA} (h : PA X e t) (f : ∀ σ H Q, t' σ H Q → t σ H Q) : PA X e t' := ⟨fun pos pins s σ H Q I q => h.run pos pins s σ H Q I (f σ H Q q)⟩
theorem _root_.L2.PI.imp {X : Cx} {tg e : Expr} {t t' : TI} (h : PI X tg e t) (f : ∀ σ H R, t' σ H R → t σ H R) : PI X tg e t' := ⟨fun pins s σ H R I q => h.run pins s σ H R I (f σ H R q)⟩
theorem _root_.L2.PI.or {X : Cx} {tg e : Expr} {t t' : TI} (h : PI X tg e t) (h' : PI X tg e t') : PI X tg e (fun σ H R => t σ H R ∨ t' σ H R) :=
  ⟨fun pins s σ H R I q => q.elim (h.run pins s σ H R I) (h'.run pins s σ H R I)⟩

/-! ### readings by the function -/
def tG (K : PySem.W.Frag) (M : Am) (W : WX) {α β : Type} (R : Hp → Mu → α → β → Prop) (ev : En → Sto → Option (Ro α)) : L2.St → Hp → (β → Hp → Prop) → Prop := fun σ H Q =>
  ∃ G Φ μ S env, Rel K M G Φ μ S H ∧ EnR K M G μ env σ ∧ Res K M W σ G Φ μ (ev env S) R Q
section
variable {K : PySem.W.Frag} {M : Am} {W : WX} {σ : L2.St} {H : Hp}
/-- what comes first, and what is left -/
theorem tG_bind {α β γ δ : Type} {Ra : Hp → Mu → α → β → Prop} {Rc : Hp → Mu → γ → δ → Prop} {ev : En → Sto → Option (Ro α)} {f : En → α → Sto → Option (Ro γ)} {Q : δ → Hp → Prop}
    (h : tG K M W Rc (fun env S => bnd (ev env S) (f env)) σ H Q) :
    tG K M W Ra ev σ H fun b H1 => ∃ G Φ μ S env a, Rel K M G Φ μ S H1 ∧ EnR K M G μ env σ ∧ Ra G μ a b ∧ Res K M W σ G Φ μ (f env a S) Rc Q := by
  obtain ⟨G, Φ, μ, S, env, r, er, res⟩ := h
  refine ⟨G, Φ, μ, S, env, r, er, res.bind.imp ?_⟩
  rintro b H1 ⟨G1, μ1, S1, a, gr, r1, ra, res1⟩
  exact ⟨G1, Φ, μ1, S1, env, a, r1, er.grow gr, ra, res1⟩
/-- the second part, the first one's value known -/
theorem tG_go {α γ β δ : Type} {G Φ : Hp} {μ : Mu} {S : Sto} {env : En} {Ra : Hp → Mu → α → β → Prop} {Rc : Hp → Mu → γ → δ → Prop} {ev : En → Sto → Option (Ro α)} {f : α → Sto → Option (Ro γ)} {Q : δ → Hp → Prop}
    (r : Rel K M G Φ μ S H) (er : EnR K M G μ env σ) (res : Res K M W σ G Φ μ (bnd (ev env S) f) Rc Q) : tG K M W Ra ev σ H (Mid K M W σ G Φ μ f Ra Rc Q) :=
  ⟨G, Φ, μ, S, env, r, er, res.bind⟩
end
abbrev tX (K : PySem.W.Frag) (M : Am) (W : WX) (ev : En → Sto → Option (Ro D)) : TE := tG K M W (rD K M) ev
abbrev tXs (K : PySem.W.Frag) (M : Am) (W : WX) (ev : En → Sto → Option (Ro (List D))) : TA := tG K M W (rDs K M) ev
abbrev tXt (K : PySem.W.Frag) (M : Am) (W : WX) (ev : En → Sto → Option (Ro Bool)) : TT := tG K M W rB ev
abbrev rO : Hp → Mu → Option Int → Option Int → Prop := fun _ _ a b => a = b
/-- J walks just these items -/
def Walks (K : PySem.W.Frag) (M : Am) (J : It) (G : Hp) (μ : Mu) (xs : List D) : Prop :=
  ∀ G1 Φ1 μ1 S1 H1, (∀ a u, G a = some u → G1 a = some u) → (∀ n a, μ n = some a → μ1 n = some a) → Rel K M G1 Φ1 μ1 S1 H1 → ∀ i,
    (i < xs.length → J.go i H1) ∧ (xs.length ≤ i → J.stop i H1) ∧ ∀ d v H2, xs[i]? = some d → J.yld i H1 v H2 → ∃ G2, Gr Φ1 G1 μ1 G2 μ1 ∧ Rel K M G2 Φ1 μ1 S1 H2 ∧ RD K M G2 μ1 d v
abbrev rW (K : PySem.W.Frag) (M : Am) : Hp → Mu → List D → It → Prop := fun G μ xs J => Walks K M J G μ xs
section
variable {K : PySem.W.Frag} {M : Am} {G Φ H : Hp} {μ : Mu} {S : Sto}
theorem walks_lst {a : Addr} {xs : List D} {ys : List V} (h : G a = some (.lst ys)) (q : RDs K M G μ xs ys) : Walks K M (Itl K a) G μ xs := by
  intro G1 Φ1 μ1 S1 H1 g m r i
  have h1 : H1 a = some (.lst ys) := (r.g _ _ (g _ _ h)).lst
  refine ⟨fun hi => ?_, fun hi => ⟨ys, SqL.of h1, by rw [← q.length]; exact hi⟩, fun d v H2 e hy => ?_⟩
  · obtain ⟨v, hv, _⟩ := q.get (List.getElem?_eq_getElem hi)
    exact ⟨ys, v, SqL.of h1, hv⟩
  · obtain ⟨rfl, hy⟩ := hy
    obtain ⟨v', hv, rv⟩ := q.get e
    rw [hy ys (SqL.of h1)] at hv
    cases hv
    exact ⟨G1, .refl, r, RD.grow g m _ _ rv⟩
theorem walks_tup {a : Addr} {xs : List D} {ys : List V} (h : G a = some (.tup ys)) (q : RDs K M G μ xs ys) : Walks K M (Itt K a) G μ xs := by
  intro G1 Φ1 μ1 S1 H1 g m r i
  have h1 : H1 a = some (.tup ys) := (r.g _ _ (g _ _ h)).tup
  refine ⟨fun hi => ?_, fun hi => ⟨ys, SqT.of h1, by rw [← q.length]; exact hi⟩, fun d v H2 e hy => ?_⟩
  · obtain ⟨v, hv, _⟩ := q.get (List.getElem?_eq_getElem hi)
    exact ⟨ys, v, SqT.of h1, hv⟩
  · obtain ⟨rfl, hy⟩ := hy
    obtain ⟨v', hv, rv⟩ := q.get e
    rw [hy ys (SqT.of h1)] at hv
    cases hv
    exact ⟨G1, .refl, r, RD.grow g m _ _ rv⟩
theorem walks_ent {a : Addr} {xs : List D} {ys : List V} (h : G a = some (.tup ys)) (q : RDs K M G μ xs ys) : Walks K M (Iet K a ys.length) G μ (enF 0 xs) := by
  intro G1 Φ1 μ1 S1 H1 g m r i
  have h1 : H1 a = some (.tup ys) := (r.g _ _ (g _ _ h)).tup
  rw [enF_len]
  refine ⟨fun hi => ?_, fun hi => ⟨by rw [← q.length]; exact hi, ys, SqT.of h1, rfl⟩, fun d v H2 e hy => ?_⟩
  · obtain ⟨v, hv, _⟩ := q.get (List.getElem?_eq_getElem hi)
    exact ⟨by rw [← q.length]; exact hi, ys, v, SqT.of h1, hv⟩
  · obtain ⟨T, x, rfl, hT, rfl, hy⟩ := hy
    rw [enF_get] at e
    cases hx : xs[i]? with
    | none => rw [hx] at e; cases e
    | some d' =>
      rw [hx] at e; cases e
      obtain ⟨v', hv, rv⟩ := q.get hx
      rw [hy ys (SqT.of h1)] at hv
      obtain rfl : x = v' := Option.some.inj hv
      obtain ⟨r', g'⟩ := r.still (u := .tup [.int (i : Nat), x]) hT
      refine ⟨_, g', r', .tup upd_same (.cons ?_ (.cons (RD.grow g'.g g'.m _ _ (RD.grow g m _ _ rv)) .nil))⟩
      rw [Nat.zero_add]
      exact .int _
theorem walks_enl {a : Addr} {xs : List D} {ys : List V} (h : G a = some (.lst ys)) (q : RDs K M G μ xs ys) : Walks K M (Ite K a) G μ (enF 0 xs) := by
  intro G1 Φ1 μ1 S1 H1 g m r i
  have h1 : H1 a = some (.lst ys) := (r.g _ _ (g _ _ h)).lst
  rw [enF_len]
  refine ⟨fun hi => ?_, fun hi => ⟨ys, SqL.of h1, by rw [← q.length]; exact hi⟩, fun d v H2 e hy => ?_⟩
  · obtain ⟨v, hv, _⟩ := q.get (List.getElem?_eq_getElem hi)
    exact ⟨ys, v, SqL.of h1, hv⟩
  · obtain ⟨T, x, rfl, hT, rfl, hy⟩ := hy
    rw [enF_get] at e
    cases hx : xs[i]? with
    | none => rw [hx] at e; cases e
    | some d' =>
      rw [hx] at e; cases e
      obtain ⟨v', hv, rv⟩ := q.get hx
      rw [hy ys (SqL.of h1)] at hv
      obtain rfl : x = v' := Option.some.inj hv
      obtain ⟨r', g'⟩ := r.still (u := .tup [.int (i : Nat), x]) hT
      refine ⟨_, g', r', .tup upd_same (.cons ?_ (.cons (RD.grow g'.g g'.m _ _ (RD.grow g m _ _ rv)) .nil))⟩
      rw [Nat.zero_add]
      exact .int _
theorem walks_str (z : Str) : Walks K M (Its z) G μ (z.cps.toList.map fun c => .str ⟨#[c]⟩) := by
  intro G1 Φ1 μ1 S1 H1 g m r i
  have hl : (z.cps.toList.map fun c => D.str ⟨#[c]⟩).length = z.cps.size := by simp
  refine ⟨fun hi => by rw [hl] at hi; exact hi, fun hi => by rw [hl] at hi; exact hi, fun d v H2 e hy => ?_⟩
  obtain ⟨rfl, c, hc, rfl⟩ := hy
  rw [List.getElem?_map, Array.getElem?_toList, hc] at e
  cases e
  exact ⟨G1, .refl, r, .str _⟩
theorem walks_rng {i j : Int} {xs : List D} (h : rngD i j = some xs) : (-(2 ^ 62) ≤ i ∧ i < 2 ^ 62 ∧ -(2 ^ 62) ≤ j ∧ j < 2 ^ 62) ∧ Walks K M (L2.Itr i (j - i).toNat) G μ xs := by
  unfold rngD at h
  split at h
  · rename_i c
    cases h
    refine ⟨c, fun G1 Φ1 μ1 S1 H1 g m r n => ?_⟩
    have hl : ((List.range (j - i).toNat).map fun (k : Nat) => D.int (i + k)).length = (j - i).toNat := by simp
    refine ⟨fun hi => by rw [hl] at hi; exact hi, fun hi => by rw [hl] at hi; exact hi, fun d v H2 e hy => ?_⟩
    obtain ⟨rfl, rfl⟩ := hy
    have hn : n < (j - i).toNat := by
      have := (List.getElem?_eq_some_iff.mp e).1
      rw [hl] at this; exact this
    rw [List.getElem?_map, List.getElem?_range hn] at e
    cases e
    exact ⟨G1, .refl, r, .int _⟩
  · cases h
end
/-! ### targets -/
mutual
def gT (K : PySem.W.Frag) : Tg → TG
  | .n i => gName i
  | .t ts => gTup K ts.len (gTs K ts)
def gTs (K : PySem.W.Frag) : Tgs → TGs
  | .nil => gNil
  | .cons t r => gCons (gT K t) (gTs K r)
def Tgs.len : Tgs → Nat
  | .nil => 0
  | .cons _ r => r.len + 1
end
theorem assignEach_no {e : Expr} (h : noStar e = true) (es : List Expr) (env : Env) : assignEach (e :: es) env = (false, assign e env) :: assignEach es env := by
  cases e <;> first | rfl | cases h
theorem okTs_len {N : List Str} {cb : Str → Bool} {sc : Scope} {env : Env} : ∀ (ts : Tgs) (es : List Expr), okTs N cb ts sc es = true → (assignEach es env).length = ts.len ∧ (assignEach es env).findIdx? (·.1) = none
  | .nil, es, h => by
    cases es with
    | nil => exact ⟨rfl, rfl⟩
    | cons _ _ => simp [okTs] at h
  | .cons t r, es, h => by
    cases es with
    | nil => simp [okTs] at h
    | cons e es =>
      simp only [okTs, Bool.and_eq_true] at h
      rw [assignEach_no h.1.1]
      obtain ⟨h1, h2⟩ := okTs_len (env := env) r es h.2
      exact ⟨by rw [List.length_cons, h1, Tgs.len], by rw [List.findIdx?_cons, h2]; rfl⟩
mutual
theorem sndT {X : Cx} {cb : Str → Bool} (hcb : ∀ x, cb x = true → X.fn x = true) (hc : X.calm = true) (nd : X.N.Nodup) : ∀ (t : Tg) (e : Expr), okT X.N cb t X.env.scope e = true → PG X e (gT X.K t)
  | .n i, e, h => by
    cases e with
    | Name x pos =>
      simp only [okT, Bool.and_eq_true, decide_eq_true_eq, Bool.or_eq_true] at h
      rw [gT]
      rcases h.2 with h2 | h2
      · exact pg_name nd h.1 (.inl h2) (.inr h2)
      · exact pg_name nd h.1 (.inr h2.1) (.inl (hcb _ h2.2))
    | _ => simp [okT] at h
  | .t ts, e, h => by
    cases e with
    | Tuple es k pos =>
      simp only [okT] at h
      rw [gT]
      exact pg_tup hc (sndTs hcb hc nd ts _ h) (okTs_len ts _ h).1 (okTs_len ts _ h).2
    | _ => simp [okT] at h
theorem sndTs {X : Cx} {cb : Str → Bool} (hcb : ∀ x, cb x = true → X.fn x = true) (hc : X.calm = true) (nd : X.N.Nodup) : ∀ (ts : Tgs) (es : List Expr), okTs X.N cb ts X.env.scope es = true → PGs X es (gTs X.K ts)
  | .nil, es, h => by
    cases es with
    | nil => rw [gTs]; exact pgs_nil
    | cons _ _ => simp [okTs] at h
  | .cons t r, es, h => by
    cases es with
    | nil => simp [okTs] at h
    | cons e es =>
      simp only [okTs, Bool.and_eq_true] at h
      rw [gTs]
      exact pgs_cons (sndT hcb hc nd t e h.1.2) (sndTs hcb hc nd r es h.2) (by rw [assignEach_no h.1.1]; rfl)
end
section
variable {K : PySem.W.Frag} {M : Am} {G Φ H : Hp} {μ : Mu} {S : Sto}
mutual
theorem gT_ok (r : Rel K M G Φ μ S H) : ∀ (t : Tg) (d : D) (v : V) (env env' : En) (σ : L2.St) (Q : L2.St → Hp → Prop), RD K M G μ d v → EnR K M G μ env σ → asgT t d env = some env' →
    (∀ σ', EnR K M G μ env' σ' → σ'.length = σ.length → (∀ j, j ∉ t.slots → σ'[j]? = σ[j]?) → Q σ' H) → gT K t v σ H Q
  | .n i, d, v, env, env', σ, Q, q, er, e, h => by
    rw [asgT] at e
    cases e
    rw [gT]
    exact h _ (er.set q) (List.length_set ..) fun j hj => by
      rw [Tg.slots, List.mem_singleton] at hj
      exact List.getElem?_set_ne (fun z => hj z.symm)
  | .t ts, d, v, env, env', σ, Q, q, er, e, h => by
    cases d with
    | tup xs =>
      rw [asgT] at e
      cases q with
      | tup h1 q =>
        rw [gT]
        have hl := gTs_len ts xs env env' e
        refine ⟨_, _, rfl, SqT.of (r.g _ _ h1).tup, by rw [← q.length]; exact hl, gTs_ok r ts xs _ env env' σ Q q er e fun σ' e' l f => h σ' e' l fun j hj => f j (by rw [Tg.slots] at hj; exact hj)⟩
    | _ => rw [asgT] at e <;> first | cases e | (intro xs hx; cases hx)
theorem gTs_ok (r : Rel K M G Φ μ S H) : ∀ (ts : Tgs) (ds : List D) (vs : List V) (env env' : En) (σ : L2.St) (Q : L2.St → Hp → Prop), RDs K M G μ ds vs → EnR K M G μ env σ → asgTs ts ds env = some env' →
    (∀ σ', EnR K M G μ env' σ' → σ'.length = σ.length → (∀ j, j ∉ ts.slots → σ'[j]? = σ[j]?) → Q σ' H) → gTs K ts vs σ H Q
  | .nil, ds, vs, env, env', σ, Q, q, er, e, h => by
    cases q with
    | nil => rw [asgTs] at e; cases e; rw [gTs]; exact ⟨rfl, h σ er rfl fun _ _ => rfl⟩
    | cons _ _ => rw [asgTs] at e <;> first | cases e | simp
  | .cons t r', ds, vs, env, env', σ, Q, q, er, e, h => by
    cases q with
    | nil => rw [asgTs] at e <;> first | cases e | simp
    | cons q1 q2 =>
      rw [asgTs] at e
      rename_i d ds v vs
      cases h1 : asgT t d env with
      | none => rw [h1] at e; cases e
      | some env1 =>
        rw [h1] at e
        rw [gTs]
        refine ⟨_, _, rfl, gT_ok r t d v env env1 σ _ q1 er h1 fun σ1 e1 l1 f1 => gTs_ok r r' ds vs env1 env' σ1 Q q2 e1 e fun σ2 e2 l2 f2 => h σ2 e2 (l2.trans l1) fun j hj => ?_⟩
        rw [Tgs.slots, List.mem_append, not_or] at hj
        rw [f2 j hj.2, f1 j hj.1]
theorem gTs_len : ∀ (ts : Tgs) (ds : List D) (env env' : En), asgTs ts ds env = some env' → ds.length = ts.len
  | .nil, [], _, _, _ => by rw [Tgs.len]; rfl
  | .nil, _ :: _, _, _, e => by rw [asgTs] at e <;> first | cases e | simp
  | .cons t r, [], _, _, e => by rw [asgTs] at e <;> first | cases e | simp
  | .cons t r, d :: ds, env, env', e => by
    rw [asgTs] at e
    cases h1 : asgT t d env with
    | none => rw [h1] at e; cases e
    | some env1 =>
      rw [h1] at e
      rw [List.length_cons, Tgs.len, gTs_len r ds env1 env' e]
end
end
end Ip
/-! ## Objects: their attributes, methods, making -/
namespace Ip
open PySem PySem.Spec PyProof.Rows L2

section
variable {X : Cx} {CX : CXT} {k : Nat} {f C : Addr} {fd : FuncData} {ps : List Str} {sp : Sp} {E : L2.St → XK} {x m : Str} {p pos apos : Pos} {e o : Expr} {es : List Expr} {ta : TE} {t : TA}
/-- o.m(..); what is raised is wished for at the caller's slots -/
def tMethS (C : Addr) (m : Str) (sp : Sp) (E : L2.St → XK) (ta : TE) (t : TA) : TE := fun σ H Q => ta σ H fun x H1 => ∃ a dx fs, x = .ref a ∧ H1 a = some (.ins C dx fs) ∧ fs.lookup m = none ∧
  t σ H1 fun vs H2 => sp (x :: vs) H2 Q (E σ)
def tMakeS (C : Addr) (sp : Sp) (E : L2.St → XK) (t : TA) : TE := fun σ H Q => t σ H fun vs H1 => ∀ x dx, H1 x = none → H1 dx = none → dx ≠ x →
  sp (.ref x :: vs) (upd (upd H1 dx (.own x)) x (.ins C dx [])) (fun v H2 => v = .non ∧ Q (.ref x) H2) (E σ)
theorem meth_tree {env : Env} {args : List Expr} (h : baseB o = true) (hl : (apos.endLine == pos.line) = true) (hf : methodCallForm (args.length + ([] : List Keyword).length) (backTo pos (starEach args env)) (backToKw pos (keywordEach [] env)) = true) :
    ∃ pl : Sem Bool, eval (.Call (.Attribute o m apos) args [] pos) env = (do
      let ov ← eval o env
      standAt apos.atName
      let (f, first) ← holding [ov] (getMethod ov m pl)
      callWith pos f first (backTo pos (starEach args env)) (backToKw pos (keywordEach [] env))) := by
  refine ⟨do return (← importBound o env).getD true, ?_⟩
  show (do
    let ov ← attributeBase o m env (eval o env)
    standAt apos.atName
    methodCall o m apos pos env ov (args.length + ([] : List Keyword).length) (backTo pos (starEach args env)) (backToKw pos (keywordEach [] env))) = _
  rw [attributeBase_no h]
  unfold methodCall
  rw [hf]
  unfold calleeOf methodCallPos
  rw [hl]
  rfl
theorem pe_methW (he : PE X o ta) (hbase : baseB o = true) (c : Cls X.K C) (hm : Meth X.K C m f) (F : FnOk X.prog X.w X.K X.mg X.base CX k f fd ps sp) (hr : Room k X.A) (hb : Binds X.K fd ps []) (hx : ∀ σ, PassesAt CX X σ (E σ)) (ha : PA X es t)
    (hl : (apos.endLine == pos.line) = true) (hf : methodCallForm (es.length + ([] : List Keyword).length) (backTo pos (starEach es X.env)) (backToKw pos (keywordEach [] X.env)) = true)
    (hst : es = [] ∧ t = tNil ∨ ∃ e r, es = e :: r ∧ starEach (e :: r) X.env = (false, eval e X.env) :: starEach r X.env ∧ (backTo pos (starEach r X.env)).any (·.1) = false) :
    PE X (.Call (.Attribute o m apos) es [] pos) (tMethS C m sp E ta t) := by
  refine ⟨fun pins s σ H Q I h => ?_⟩
  obtain ⟨pl, ht⟩ := meth_tree (m := m) (apos := apos) (pos := pos) (env := X.env) (args := es) hbase hl hf
  refine PySem.W.methodCall_KW (pl := pl) (thn (he.run pins s σ H _ I h) fun u s1 ⟨x, H1, I1, rx, a, dx, fs, ex, ea, l, q⟩ => ?_) ht
  subst ex
  obtain rfl : u = Value.ref a := rx
  refine getmeth_ok I1 ea c hm l ?_
  rcases hst with ⟨rfl, rfl⟩ | ⟨e, r, rfl, hst, hpl⟩
  · exact PySem.W.callWith_K0 (first := [.ref a]) I1.kIn hm.kp (run_fnS (us := [.ref a]) (vs := [.ref a]) F hr hb (hx σ) I1 (.cons rfl .nil) q)
  · refine PySem.W.callWith_K (first := [.ref a]) (h₀ := X.base) I1.ok.mod.kin hm.kp (thn (ha.run pos pins s1 σ H1 _ I1 q) fun us s2 ⟨vs, H2, I2, r, q2⟩ => ⟨I2.kIn, ?_⟩) hst hpl
    exact run_fnS (us := .ref a :: us) (vs := .ref a :: vs) F hr hb (hx σ) I2 (.cons rfl r) q2
theorem run_makeS {pins : List (Addr × Obj)} {σ : L2.St} {H : Hp} {s : Shared} {Q : VK} {us : List Value} {vs : List V} (M : Mk X.K C f) (F : FnOk X.prog X.w X.K X.mg X.base CX k f fd ps sp) (hr : Room (k + 1) X.A) (hb : Binds X.K fd ps [])
    (hx : PassesAt CX X σ (E σ)) (I : Inv X pins σ H s) (r : Vals vs us)
    (h : ∀ x dx, H x = none → H dx = none → dx ≠ x → sp (.ref x :: vs) (upd (upd H dx (.own x)) x (.ins C dx [])) (fun v H2 => v = .non ∧ Q (.ref x) H2) (E σ)) :
    wpAny (model X.prog X.w) X.A (call (.ref C) us) (EP X pins σ Q) X.xe s := by
  have hq := h (s.heap.objs.size + 1) s.heap.objs.size (I.hok.fresh (Nat.le_succ _)) (I.hok.fresh (Nat.le_refl _)) (Nat.ne_of_lt (Nat.lt_succ_self _))
  have I2 := Inv.made (C := C) I
  have r2 : Vals (V.ref (s.heap.objs.size + 1) :: vs) (Value.ref (s.heap.objs.size + 1) :: us) := .cons rfl r
  have hl : (Value.ref (s.heap.objs.size + 1) :: us ++ []).length = ps.length := by
    have e := r2.length
    rw [F.len _ _ _ _ hq] at e
    rw [List.append_nil]
    exact e.symm
  have hbb := hb _ (Value.ref (s.heap.objs.size + 1) :: us) I2.kIn hl
  rw [List.append_nil] at hbb
  refine wpAny_call (make_map (f := f) I.kIn M.makes M.init (beq_iff_eq.mp M.fn) (codeAny_mono (F.run _ X.stack _ _ ⟨Value.ref (s.heap.objs.size + 1) :: us, []⟩ (Value.ref (s.heap.objs.size + 1) :: us) _ _ (E σ) (hr.make C us [])
    (I2.env0.make C us []) hbb r2 hq) fun r s' hq' => ?_))
  cases r with
  | error e => exact hx pins _ _ e s' I2 hq'
  | ok fl =>
    cases fl with
    | ret u =>
      obtain ⟨v, H', I3, rv, ev, q3⟩ := I2.after hq'
      subst ev
      exact ⟨rv, ⟨V.ref (s.heap.objs.size + 1), H', I3, rfl, q3⟩⟩
    | next => exact False.elim hq'
    | brk => exact False.elim hq'
    | cont => exact False.elim hq'
theorem pe_makeS (M : Mk X.K C f) (F : FnOk X.prog X.w X.K X.mg X.base CX k f fd ps sp) (hr : Room (k + 1) X.A) (hg : Gl X x) (hm : X.mg x = some (.ref C)) (hb : Binds X.K fd ps []) (hx : ∀ σ, PassesAt CX X σ (E σ))
    (ha : PA X (e :: es) t) (hdb : (x == ("__debug__" : Str)) = false) (he : starEach (e :: es) X.env = (false, eval e X.env) :: starEach es X.env) (hpl : (backTo pos (starEach es X.env)).any (·.1) = false) :
    PE X (.Call (.Name x p) (e :: es) [] pos) (tMakeS C sp E t) := by
  refine ⟨fun pins s σ H Q I h => ?_⟩
  refine wpAny_Call_Name_kw (ld_glob I hg hm ?_ hdb)
  refine PySem.W.callWith_K (h₀ := X.base) I.ok.mod.kin M.kp (thn (ha.run pos pins s σ H _ I h) fun us s1 ⟨vs, H1, I1, r, q⟩ => ⟨I1.kIn, ?_⟩) he hpl
  exact run_makeS M F hr hb (hx σ) I1 r q
end

section
variable {K : PySem.W.Frag} {M : Am} {G Φ : Hp} {μ : Mu} {S : Sto} {H : Hp}
/-- a thing of the store stands still from now on -/
theorem Rel.freeze {n : Nat} {a : Addr} {ob : Ob} {u : HO} (r : Rel K M G Φ μ S H) (hs : S[n]? = some ob) (hd : ob ≠ .dead) (hn : μ n = some a) (hu : H a = some u) :
    Rel K M (upd G a u) Φ μ (S.set n .dead) H ∧ Gr Φ G μ (upd G a u) μ := by
  obtain ⟨hg, hf⟩ := r.gm n a ob hs hd hn
  have hl : n < S.length := (List.getElem?_eq_some_iff.mp hs).1
  have gg : ∀ b w, G b = some w → upd G a u b = some w := fun b w e => by
    rw [upd_ne (fun z => by rw [z, hg] at e; cases e)]; exact e
  refine ⟨⟨fun b w e => ?_, r.f, fun m o e => ?_, fun m b o e hd' em => ?_, r.inj, fun m b e => ?_, r.th, fun n a em h => r.fm n a em (gnone_of gg h), r.ft, fun b o e hg' => by
    by_cases hb : b = a
    · subst hb; rw [hf] at e; cases e
    · rw [upd_ne hb] at hg'; exact r.fg b o e hg', fun m b e em => by
    by_cases hm : n = m
    · subst hm
      rw [hn] at em; cases em
      rw [upd_same]; exact fun z => nomatch z
    · rw [List.getElem?_set_ne hm] at e
      by_cases hb : b = a
      · subst hb; rw [upd_same]; exact fun z => nomatch z
      · rw [upd_ne hb]; exact r.dg m b e em⟩, gg, fun b h1 h2 => ?_, fun _ _ h => h⟩
  · by_cases hb : b = a
    · subst hb; rw [upd_same] at e; cases e; exact .inl hu
    · rw [upd_ne hb] at e; exact r.g b w e
  · by_cases hm : n = m
    · subst hm
      rw [List.getElem?_set_self hl] at e; cases e
      exact ⟨a, hn, trivial⟩
    · rw [List.getElem?_set_ne hm] at e
      obtain ⟨b, em, h⟩ := r.s m o e
      exact ⟨b, em, h.grow gg (fun _ _ h => h)⟩
  · by_cases hm : n = m
    · subst hm
      rw [List.getElem?_set_self hl] at e; cases e
      exact absurd rfl hd'
    · rw [List.getElem?_set_ne hm] at e
      obtain ⟨h1, h2⟩ := r.gm m b o e hd' em
      have hb : b ≠ a := fun z => hm (r.inj n m a hn (by rw [em, z]))
      exact ⟨by rw [upd_ne hb]; exact h1, h2⟩
  · rw [List.length_set]; exact r.ub m b e
  · by_cases hb : b = a
    · subst hb; exact absurd hf h1
    · rw [upd_ne hb] at h2; exact h2
theorem mapF_ok {f : D → Sto → Option (D × Sto)}
    (hf : ∀ (d : D) (v : V) (S : Sto) (d' : D) (S' : Sto) (G : Hp), Rel K M G Φ μ S H → RD K M G μ d v → f d S = some (d', S') → ∃ G1, Gr Φ G μ G1 μ ∧ Rel K M G1 Φ μ S' H ∧ RD K M G1 μ d' v) :
    ∀ (ds : List D) (vs : List V) (S : Sto) (ds' : List D) (S' : Sto) (G : Hp), Rel K M G Φ μ S H → RDs K M G μ ds vs → mapF f ds S = some (ds', S') → ∃ G1, Gr Φ G μ G1 μ ∧ Rel K M G1 Φ μ S' H ∧ RDs K M G1 μ ds' vs
  | [], _, S, _, _, G, r, .nil, e => by
    rw [mapF] at e; cases e
    exact ⟨G, .refl, r, .nil⟩
  | d :: ds, v :: vs, S, ds', S', G, r, .cons q qs, e => by
    rw [mapF] at e
    split at e
    · rename_i d1 S1 h1
      obtain ⟨G1, g1, r1, q1⟩ := hf d v S _ _ G r q h1
      split at e
      · rename_i ds2 S2 h2
        cases e
        obtain ⟨G2, g2, r2, q2⟩ := mapF_ok hf ds vs S1 _ _ G1 r1 (RDs.grow g1.g g1.m _ _ qs) h2
        exact ⟨G2, g1.trans g2, r2, .cons (RD.grow g2.g g2.m _ _ q1) q2⟩
      · cases e
    · cases e
theorem frz_ok : ∀ (k : Nat) (d : D) (v : V) (S : Sto) (d' : D) (S' : Sto) (G : Hp), Rel K M G Φ μ S H → RD K M G μ d v → frz k d S = some (d', S') → ∃ G1, Gr Φ G μ G1 μ ∧ Rel K M G1 Φ μ S' H ∧ RD K M G1 μ d' v
  | 0, _, _, _, _, _, _, _, _, e => by rw [frz] at e; cases e
  | k + 1, d, v, S, d', S', G, r, q, e => by
    have still : (if d.pure then some (d, S) else none) = some (d', S') → ∃ G1, Gr Φ G μ G1 μ ∧ Rel K M G1 Φ μ S' H ∧ RD K M G1 μ d' v := fun e => by
      split at e
      · cases e; exact ⟨G, .refl, r, q⟩
      · cases e
    cases d with
    | ref n =>
      cases q with
      | ref hm =>
        rename_i a
        rw [frz] at e
        split at e
        · rename_i xs hs
          obtain ⟨ys, h1, h2⟩ := r.look hs hm
          split at e
          · rename_i zs S1 hz
            obtain ⟨G1, g1, r1, q1⟩ := mapF_ok (frz_ok k) _ _ _ _ _ _ r h2 hz
            split at e
            · rename_i ws hw
              cases e
              obtain ⟨r2, g2⟩ := r1.freeze hw (fun z => nomatch z) hm h1
              exact ⟨_, g1.trans g2, r2, .lst upd_same (RDs.grow g2.g g2.m _ _ q1)⟩
            · cases e
          · cases e
        · rename_i t ks xs hs
          split at e
          · rename_i zs S1 hz
            rcases r.look hs hm with ⟨t0, kk, ys, e1, l, h2, h1⟩ | ⟨t0, kk, ys, e1, l, h2, h1⟩
            · subst t0
              obtain ⟨G1, g1, r1, q1⟩ := mapF_ok (frz_ok k) _ _ _ _ _ _ r h2 hz
              split at e
              · rename_i ws hw
                cases e
                obtain ⟨r2, g2⟩ := r1.freeze hw (fun z => nomatch z) hm h1
                exact ⟨_, g1.trans g2, r2, .dK e1 l (RDs.grow g2.g g2.m _ _ q1) upd_same⟩
              · cases e
            · subst t0
              obtain ⟨G1, g1, r1, q1⟩ := mapF_ok (frz_ok k) _ _ _ _ _ _ r h2 hz
              split at e
              · rename_i ws hw
                cases e
                obtain ⟨r2, g2⟩ := r1.freeze hw (fun z => nomatch z) hm h1
                exact ⟨_, g1.trans g2, r2, .dT e1 l (RDs.grow g2.g g2.m _ _ q1) upd_same⟩
              · cases e
          · cases e
        · rename_i c ns xs hs
          obtain ⟨dx, ys, l, h2, h1⟩ := r.look hs hm
          split at e
          · rename_i zs S1 hz
            obtain ⟨G1, g1, r1, q1⟩ := mapF_ok (frz_ok k) _ _ _ _ _ _ r h2 hz
            split at e
            · rename_i ws hw
              cases e
              obtain ⟨r2, g2⟩ := r1.freeze hw (fun z => nomatch z) hm h1
              exact ⟨_, g1.trans g2, r2, .obj l (RDs.grow g2.g g2.m _ _ q1) upd_same⟩
            · cases e
          · cases e
        · cases e
    | lst xs =>
      rw [frz] at e
      cases q with
      | lst h1 h2 =>
        split at e
        · cases e; exact ⟨G, .refl, r, .lst h1 h2⟩
        · split at e
          · rename_i zs S1 hz
            cases e
            obtain ⟨G1, g1, r1, q1⟩ := mapF_ok (frz_ok k) _ _ _ _ _ _ r h2 hz
            exact ⟨G1, g1, r1, .lst (g1.g _ _ h1) q1⟩
          · cases e
    | tup xs =>
      rw [frz] at e
      cases q with
      | tup h1 h2 =>
        split at e
        · cases e; exact ⟨G, .refl, r, .tup h1 h2⟩
        · split at e
          · rename_i zs S1 hz
            cases e
            obtain ⟨G1, g1, r1, q1⟩ := mapF_ok (frz_ok k) _ _ _ _ _ _ r h2 hz
            exact ⟨G1, g1, r1, .tup (g1.g _ _ h1) q1⟩
          · cases e
    | non => exact still (by simpa only [frz] using e)
    | bl b => exact still (by simpa only [frz] using e)
    | int b => exact still (by simpa only [frz] using e)
    | str b => exact still (by simpa only [frz] using e)
    | scr b => exact still (by simpa only [frz] using e)
    | dct t ks vs => exact still (by simpa only [frz] using e)
    | obj c ns vs => exact still (by simpa only [frz] using e)
/-! ### attributes -/
theorem insD_ok (r : Rel K M G Φ μ S H) {x : D} {v : V} {c : Nat} {ns : List Str} {vs : List D} (q : RD K M G μ x v) (e : insD S x = some (c, ns, vs)) : ∃ a dx ys, v = .ref a ∧ H a = some (.ins (M.cls c) dx (ns.zip ys)) ∧ ns.length = ys.length ∧ RDs K M G μ vs ys := by
  unfold insD at e
  split at e
  · cases e
    cases q with
    | obj l q h => exact ⟨_, _, _, rfl, (r.g _ _ h).ins, l, q⟩
  · rename_i n
    split at e
    · rename_i c' ns' vs' hs
      cases e
      cases q with
      | ref hm =>
        obtain ⟨dx, ys, l, q, h⟩ := r.look hs hm
        exact ⟨_, dx, ys, rfl, h, l, q⟩
    · cases e
  · cases e
theorem fldL_ok {f : Str} {d : D} : ∀ {ns : List Str} {vs : List D} {ys : List V}, RDs K M G μ vs ys → fldL f ns vs = some d → ∃ v, (ns.zip ys).lookup f = some v ∧ RD K M G μ d v
  | [], _, _, _, e => by rw [fldL] at e <;> first | cases e | simp
  | n :: ns, _, _, .nil, e => by rw [fldL] at e <;> first | cases e | simp
  | n :: ns, _, _, .cons q qs, e => by
    rw [fldL] at e
    rw [List.zip_cons_cons, List.lookup_cons]
    by_cases h : n = f
    · rw [if_pos h] at e
      cases e
      subst h
      rw [beq_self_eq_true]
      exact ⟨_, rfl, q⟩
    · rw [if_neg h] at e
      rw [show (f == n) = false from beq_eq_false_iff_ne.mpr fun z => h z.symm]
      exact fldL_ok qs e
theorem mth_no {m : Str} : ∀ {ns : List Str} {ys : List V}, (ns.all fun n => decide (n ≠ m)) = true → (ns.zip ys).lookup m = none
  | [], _, _ => rfl
  | n :: ns, [], _ => rfl
  | n :: ns, y :: ys, h => by
    rw [List.all_cons, Bool.and_eq_true, decide_eq_true_eq] at h
    rw [List.zip_cons_cons, List.lookup_cons, show (m == n) = false from beq_eq_false_iff_ne.mpr fun z => h.1 z.symm]
    exact mth_no h.2
theorem putA_ok {f : Str} {d : D} {v : V} (q : RD K M G μ d v) : ∀ {ns : List Str} {vs : List D} {ys : List V}, ns.length = ys.length → RDs K M G μ vs ys →
    ∃ zs, (putA f d ns vs).1.length = zs.length ∧ RDs K M G μ (putA f d ns vs).2 zs ∧ putF f v (ns.zip ys) = (putA f d ns vs).1.zip zs
  | [], [], [], _, .nil => ⟨[v], rfl, .cons q .nil, rfl⟩
  | n :: ns, x :: vs, y :: ys, hl, .cons h r => by
    obtain ⟨zs, h1, h2, h3⟩ := putA_ok q (ns := ns) (by simpa using hl) r
    rw [putA, List.zip_cons_cons, putF]
    by_cases e : n = f
    · rw [if_pos e, if_pos e]
      exact ⟨v :: ys, by simpa using hl, .cons q r, by rw [List.zip_cons_cons]⟩
    · rw [if_neg e, if_neg e]
      exact ⟨y :: zs, by simpa using h1, .cons h h2, by rw [h3, List.zip_cons_cons]⟩
  | [], _, _ :: _, hl, _ => by cases hl
  | _ :: _, _, [], hl, _ => by cases hl
end
end Ip
/-! ## Soundness of expressions -/
namespace Ip
open PySem PySem.Spec PyProof.Rows L2

section
variable {K : PySem.W.Frag} {M : Am} {G G' Φ : Hp} {μ μ' : Mu}
theorem RD.up {d : D} {v : V} (q : RD K M G μ d v) (g : Gr Φ G μ G' μ') : RD K M G' μ' d v := RD.grow g.g g.m _ _ q
theorem RDs.up {d : List D} {v : List V} (q : RDs K M G μ d v) (g : Gr Φ G μ G' μ') : RDs K M G' μ' d v := RDs.grow g.g g.m _ _ q
mutual
theorem RD.pure : ∀ (d : D) (v : V), RD K M G μ d v → d.pure = true → RD K M G μ' d v
  | .non, _, .non, _ => .non
  | .bl b, _, .bl _, _ => .bl b
  | .int i, _, .int _, _ => .int i
  | .str x, _, .str _, _ => .str x
  | .tup xs, _, .tup h r, p => .tup h (RDs.pure xs _ r (by rw [D.pure] at p; exact p))
  | .lst xs, _, .lst h r, p => .lst h (RDs.pure xs _ r (by rw [D.pure] at p; exact p))
  | .scr ns, _, .scr h, _ => .scr h
  | .dct _ ks vs, _, .dK e l r h, p => .dK e l (RDs.pure vs _ r (by rw [D.pure, Bool.and_eq_true] at p; exact p.2)) h
  | .dct _ ks vs, _, .dT e l r h, p => .dT e l (RDs.pure vs _ r (by rw [D.pure, Bool.and_eq_true] at p; exact p.2)) h
  | .obj c ns vs, _, .obj l r h, p => .obj l (RDs.pure vs _ r (by rw [D.pure] at p; exact p)) h
  | .ref n, _, .ref h, p => by rw [D.pure] at p; cases p
theorem RDs.pure : ∀ (ds : List D) (vs : List V), RDs K M G μ ds vs → pures ds = true → RDs K M G μ' ds vs
  | [], _, .nil, _ => .nil
  | d :: ds, _, .cons h r, p => by
    rw [pures, Bool.and_eq_true] at p
    exact .cons (RD.pure d _ h p.1) (RDs.pure ds _ r p.2)
end
end
theorem tG.imp {K : PySem.W.Frag} {M : Am} {W : WX} {α β : Type} {R : Hp → Mu → α → β → Prop} {ev : En → Sto → Option (Ro α)} {σ : L2.St} {H : Hp} {Q Q' : β → Hp → Prop} (h : tG K M W R ev σ H Q) (f : ∀ b H, Q b H → Q' b H) : tG K M W R ev σ H Q' := by
  obtain ⟨G, Φ, μ, S, env, r, er, res⟩ := h
  exact ⟨G, Φ, μ, S, env, r, er, res.imp f⟩
noncomputable abbrev Sys.Γ (Y : Sys) (k : Nat) : Gam := callK Y.F Y.T k
abbrev PEx (Y : Sys) (k : Nat) (X : Cx) (W : WX) (e : Expr) (x : Ex) : Prop := PE X e (tX X.K Y.M W (evalE (Y.Γ k) Y.T x))
abbrev PTx (Y : Sys) (k : Nat) (X : Cx) (W : WX) (e : Expr) (x : Ex) : Prop := PT X e (tXt X.K Y.M W (evalT (Y.Γ k) Y.T x))
abbrev PAx (Y : Sys) (k : Nat) (X : Cx) (W : WX) (e : List Expr) (x : Exs) : Prop := PA X e (tXs X.K Y.M W (evalEs (Y.Γ k) Y.T x))
abbrev POx (Y : Sys) (k : Nat) (X : Cx) (W : WX) (e : Option Expr) (x : Oe) : Prop := PO X e (tG X.K Y.M W rO (evalO (Y.Γ k) Y.T x))
abbrev PCx (Y : Sys) (k : Nat) (X : Cx) (W : WX) (e : List Expr) (x : Oe) : Prop := PTs X e (tXt X.K Y.M W (evalC (Y.Γ k) Y.T x))
abbrev PIx (Y : Sys) (k : Nat) (X : Cx) (W : WX) (tg e : Expr) (x : Itr) : Prop := PI X tg e (tG X.K Y.M W (rW X.K Y.M) (evalI (Y.Γ k) Y.T x))
section
variable {Y : Sys} {k : Nat} {X : Cx} {W : WX} {pos : Pos}
theorem s_now {ev : En → Sto → Option (Ro D)} {σ : L2.St} {H : Hp} {Q : VK} {c : Cst} (h : tX X.K Y.M W ev σ H Q) (e : ∀ env S, ev env S = some (.ok c.d S)) : Q c.v H := by
  obtain ⟨G, Φ, μ, S, env, r, er, res⟩ := h
  rw [e] at res
  refine res.now r ?_
  cases c with
  | non => exact .non
  | bl b => exact .bl b
  | int i => exact .int i
  | str x => exact .str x
theorem s_c {c : Cst} {q : Const} {j : Nat} (h : cstB c q = true) : PEx Y k X W (.Constant q j pos) (.c c) := by
  have im : ∀ {t : TE}, PE X (.Constant q j pos) t → (∀ σ H Q, Q c.v H → t σ H Q) → PEx Y k X W (.Constant q j pos) (.c c) := fun h1 h2 =>
    h1.imp fun σ H Q z => h2 σ H Q (s_now z fun env S => by rw [evalE])
  cases c with
  | non => cases q <;> first | exact im pe_non fun _ _ _ z => z | cases h
  | bl b =>
    cases q <;> first | cases h | skip
    obtain rfl := beq_iff_eq.mp h
    exact im pe_bl fun _ _ _ z => z
  | int b =>
    cases q <;> first | cases h | skip
    obtain rfl := beq_iff_eq.mp h
    exact im pe_int fun _ _ _ z => z
  | str b =>
    cases q <;> first | cases h | skip
    obtain rfl := beq_iff_eq.mp h
    exact im pe_str fun _ _ _ z => z
theorem s_v {i : Nat} {x : Str} (h1 : X.N[i]? = some x) (h2 : visB X.env.scope x = true) (h3 : nmOk x = true) : PEx Y k X W (.Name x pos) (.v i) :=
  (pe_var h1 (visB_ok h2) (nmOk_1 h3) (nmOk_2 h3)).imp fun σ H Q z => by
    obtain ⟨G, Φ, μ, S, env, r, er, res⟩ := z
    simp only [evalE] at res
    split at res
    · rename_i d e
      obtain ⟨v, hv, q⟩ := er.at_ i d e
      exact ⟨v, hv, res.now r q⟩
    · exact res.elim
theorem s_g (ok : XOk Y k X W) {i : Nat} {x : Str} (h1 : Y.cn[i]? = some x) (h2 : glB X.env.scope x = true) (h3 : nmOk x = true) : PEx Y k X W (.Name x pos) (.g i) := by
  obtain ⟨c, hc, u, hm, rv⟩ := ok.facts.cs i x h1
  exact (pe_glob (glB_ok h2) hm rv (nmOk_1 h3)).imp fun σ H Q z => s_now z fun env S => by rw [evalE, hc]; rfl
theorem s_bin {a b : Expr} {xa xb : Ex} {o : BOp} {m : Bool} (ha : PEx Y k X W a xa) (hb : PEx Y k X W b xb) : PEx Y k X W (.BinOp a o.op b pos) (.bin o m xa xb) :=
  (pe_op (op_uBin o) ha hb).imp fun σ H Q z => by
    simp only [tX, evalE] at z
    refine (tG_bind (Ra := rD X.K Y.M) z).imp ?_
    rintro v H1 ⟨G, Φ, μ, S, env, d, r, er, ra, res⟩
    refine (tG_go (Ra := rD X.K Y.M) r er res).imp ?_
    rintro u H2 ⟨G1, μ1, S1, d2, gr, r1, rb, res1⟩
    exact binD_ok r1 (ra.up gr) rb res1
theorem s_neg {a : Expr} {xa : Ex} (ha : PEx Y k X W a xa) : PEx Y k X W (.UnaryOp .USub a pos) (.neg xa) :=
  (pe_un un_neg ha).imp fun σ H Q z => by
    simp only [tX, evalE] at z
    refine (tG_bind (Ra := rD X.K Y.M) z).imp ?_
    rintro v H1 ⟨G, Φ, μ, S, env, d, r, er, ra, res⟩
    cases ra <;> first | exact res.elim | exact ⟨_, rfl, res.now r (.int _)⟩
theorem s_cmp (ok : XOk Y k X W) {a b : Expr} {xa xb : Ex} {o : COp} (ha : PEx Y k X W a xa) (hb : PEx Y k X W b xb) (hs : notSet b = true) : PEx Y k X W (.Compare a [o.op] [b] pos) (.cmp o xa xb) :=
  (pe_cmpR (op_uCmp (by have := ok.room.un; omega) o) ha hb (marks_no hs _)).imp fun σ H Q z => by
    simp only [tX, evalE] at z
    refine (tG_bind (Ra := rD X.K Y.M) z).imp ?_
    rintro v H1 ⟨G, Φ, μ, S, env, d, r, er, ra, res⟩
    refine (tG_go (Ra := rD X.K Y.M) r er res).imp ?_
    rintro u H2 ⟨G1, μ1, S1, d2, gr, r1, rb, res1⟩
    dsimp only at res1
    cases e : cmpD o d d2 S1 with
    | none => rw [e] at res1; exact res1.elim
    | some c => rw [e] at res1; exact cmpD_ok r1 (ra.up gr) rb e (res1.now r1 (.bl c))
theorem t_cmp (ok : XOk Y k X W) {a b : Expr} {xa xb : Ex} {o : COp} (ha : PEx Y k X W a xa) (hb : PEx Y k X W b xb) (hs : notSet b = true) : PTx Y k X W (.Compare a [o.op] [b] pos) (.cmp o xa xb) :=
  (pt_cmpR (op_uCmp (by have := ok.room.un; omega) o) ha hb (marks_no hs _)).imp fun σ H Q z => by
    simp only [tXt, evalT] at z
    refine (tG_bind (Ra := rD X.K Y.M) z).imp ?_
    rintro v H1 ⟨G, Φ, μ, S, env, d, r, er, ra, res⟩
    refine (tG_go (Ra := rD X.K Y.M) r er res).imp ?_
    rintro u H2 ⟨G1, μ1, S1, d2, gr, r1, rb, res1⟩
    dsimp only at res1
    cases e : cmpD o d d2 S1 with
    | none => rw [e] at res1; exact res1.elim
    | some c => rw [e] at res1; exact cmpD_ok r1 (ra.up gr) rb e ⟨c, rfl, res1.now r1 rfl⟩
theorem s_not {a : Expr} {xa : Ex} (ha : PEx Y k X W a xa) : PEx Y k X W (.UnaryOp .Not a pos) (.not xa) :=
  (pe_not ha).imp fun σ H Q z => by
    simp only [tX, evalE] at z
    refine (tG_bind (Ra := rD X.K Y.M) z).imp ?_
    rintro v H1 ⟨G, Φ, μ, S, env, d, r, er, ra, res⟩
    cases ra <;> first | exact res.elim | exact ⟨_, rfl, res.now r (.bl _)⟩
theorem t_not {a : Expr} {xa : Ex} (ha : PTx Y k X W a xa) : PTx Y k X W (.UnaryOp .Not a pos) (.not xa) :=
  (pt_not ha).imp fun σ H Q z => by
    simp only [tXt, evalT] at z
    refine (tG_bind (Ra := rB) z).imp ?_
    rintro v H1 ⟨G, Φ, μ, S, env, d, r, er, ra, res⟩
    have ra : d = v := ra
    subst ra
    exact res.now r rfl
theorem s_and {a b : Expr} {rest : List Expr} {xa xb : Ex} (ha : PEx Y k X W a xa) (hb : PEx Y k X W (.BoolOp .And (b :: rest) pos) xb) : PEx Y k X W (.BoolOp .And (a :: b :: rest) pos) (.and xa xb) :=
  (pe_and ha hb).imp fun σ H Q z => by
    simp only [tX, evalE] at z
    refine (tG_bind (Ra := rD X.K Y.M) z).imp ?_
    rintro v H1 ⟨G, Φ, μ, S, env, d, r, er, ra, res⟩
    cases ra <;> first | exact res.elim | skip
    rename_i c
    refine ⟨c, rfl, ?_⟩
    cases c with
    | true => exact ⟨G, Φ, μ, S, env, r, er, res⟩
    | false => exact res.now r (.bl false)
theorem s_or {a b : Expr} {rest : List Expr} {xa xb : Ex} (ha : PEx Y k X W a xa) (hb : PEx Y k X W (.BoolOp .Or (b :: rest) pos) xb) : PEx Y k X W (.BoolOp .Or (a :: b :: rest) pos) (.or xa xb) :=
  (pe_or ha hb).imp fun σ H Q z => by
    simp only [tX, evalE] at z
    refine (tG_bind (Ra := rD X.K Y.M) z).imp ?_
    rintro v H1 ⟨G, Φ, μ, S, env, d, r, er, ra, res⟩
    cases ra <;> first | exact res.elim | skip
    rename_i c
    refine ⟨c, rfl, ?_⟩
    cases c with
    | true => exact res.now r (.bl true)
    | false => exact ⟨G, Φ, μ, S, env, r, er, res⟩
theorem t_and {a b : Expr} {rest : List Expr} {xa xb : Ex} (ha : PTx Y k X W a xa) (hb : PW X (.BoolOp .And (b :: rest) pos) (tXt X.K Y.M W (evalT (Y.Γ k) Y.T xb))) : PTx Y k X W (.BoolOp .And (a :: b :: rest) pos) (.and xa xb) :=
  (pw_and ha hb).pt.imp fun σ H Q z => by
    simp only [tXt, evalT] at z
    refine (tG_bind (Ra := rB) z).imp ?_
    rintro v H1 ⟨G, Φ, μ, S, env, d, r, er, ra, res⟩
    have ra : d = v := ra
    subst ra
    cases d with
    | true => exact ⟨G, Φ, μ, S, env, r, er, res⟩
    | false => exact res.now r rfl
theorem t_or {a b : Expr} {rest : List Expr} {xa xb : Ex} (ha : PTx Y k X W a xa) (hb : PW X (.BoolOp .Or (b :: rest) pos) (tXt X.K Y.M W (evalT (Y.Γ k) Y.T xb))) : PTx Y k X W (.BoolOp .Or (a :: b :: rest) pos) (.or xa xb) :=
  (pw_or ha hb).pt.imp fun σ H Q z => by
    simp only [tXt, evalT] at z
    refine (tG_bind (Ra := rB) z).imp ?_
    rintro v H1 ⟨G, Φ, μ, S, env, d, r, er, ra, res⟩
    have ra : d = v := ra
    subst ra
    cases d with
    | true => exact res.now r rfl
    | false => exact ⟨G, Φ, μ, S, env, r, er, res⟩
theorem s_ite {c a b : Expr} {xc xa xb : Ex} (hc : PTx Y k X W c xc) (ha : PEx Y k X W a xa) (hb : PEx Y k X W b xb) : PEx Y k X W (.IfExp c a b pos) (.ite xc xa xb) :=
  (pe_ifExp hc ha hb).imp fun σ H Q z => by
    simp only [tX, evalE] at z
    refine (tG_bind (Ra := rB) z).imp ?_
    rintro v H1 ⟨G, Φ, μ, S, env, d, r, er, ra, res⟩
    have ra : d = v := ra
    subst ra
    cases d with
    | true => exact ⟨G, Φ, μ, S, env, r, er, res⟩
    | false => exact ⟨G, Φ, μ, S, env, r, er, res⟩
theorem s_tup {es : List Expr} {j : Nat} {xs : Exs} (h : PAx Y k X W es xs) : PEx Y k X W (.Tuple es j pos) (.tup xs) :=
  (pe_tup h).imp fun σ H Q z => by
    simp only [tX, evalE] at z
    refine (tG_bind (Ra := rDs X.K Y.M) z).imp ?_
    rintro v H1 ⟨G, Φ, μ, S, env, d, r, er, ra, res⟩
    have ra : RDs X.K Y.M G μ d v := ra
    split at res
    · rename_i c; exact ⟨by rw [← ra.length]; exact c, res_tup res r ra⟩
    · exact res.elim
theorem s_lst {es : List Expr} {m : Bool} {xs : Exs} (h : PAx Y k X W es xs) : PEx Y k X W (.List es pos) (.lst m xs) :=
  (pe_lst h).imp fun σ H Q z => by
    simp only [tX, evalE] at z
    refine (tG_bind (Ra := rDs X.K Y.M) z).imp ?_
    rintro v H1 ⟨G, Φ, μ, S, env, d, r, er, ra, res⟩
    have ra : RDs X.K Y.M G μ d v := ra
    split at res
    · rename_i c; exact ⟨by rw [← ra.length]; exact c, res_mkL res r ra⟩
    · exact res.elim
def tCst (c : Cst) : TE := fun _ H Q => Q c.v H
theorem p_c {c : Cst} {q : Const} {j : Nat} (h : cstB c q = true) : PE X (.Constant q j pos) (tCst c) := by
  cases c with
  | non => cases q <;> first | exact pe_non | cases h
  | bl b =>
    cases q <;> first | cases h | skip
    obtain rfl := beq_iff_eq.mp h
    exact pe_bl
  | int b =>
    cases q <;> first | cases h | skip
    obtain rfl := beq_iff_eq.mp h
    exact pe_int
  | str b =>
    cases q <;> first | cases h | skip
    obtain rfl := beq_iff_eq.mp h
    exact pe_str
theorem pps_c : ∀ {ks vs : List Cst} {keys : List (Option Expr)} {values : List Expr}, okKs ks keys = true → okVs vs values = true → ks.length = vs.length →
    PPs X pos keys values ((ks.zip vs).map fun q => (tCst q.1, tCst q.2)) ∧ keys.all (·.isSome) = true ∧ keys.length = ks.length ∧ values.length = vs.length
  | [], [], [], [], _, _, _ => ⟨pps_nil, rfl, rfl, rfl⟩
  | k :: ks, v :: vs, e :: keys, x :: values, h1, h2, hl => by
    unfold okKs at h1
    split at h1
    · rename_i q1 q2; cases q1
    · rename_i q1 q2
      cases q1; cases q2
      unfold okVs at h2
      split at h2
      · rename_i q1 q2; cases q1
      · rename_i q1 q2
        cases q1; cases q2
        rw [Bool.and_eq_true] at h1 h2
        obtain ⟨r1, r2, r3, r4⟩ := pps_c h1.2 h2.2 (by simpa using hl)
        refine ⟨pps_cons (p_c h1.1) (p_c h2.1) r1, ?_, by rw [List.length_cons, List.length_cons, r3], by rw [List.length_cons, List.length_cons, r4]⟩
        rw [List.all_cons, r2]; rfl
      · cases h2
    · cases h1
  | [], [], [], _ :: _, _, h, _ => by cases h
  | [], [], _ :: _, _, h, _, _ => by cases h
  | _ :: _, _ :: _, [], _, h, _, _ => by cases h
  | k :: ks, v :: vs, _ :: _, [], _, h, _ => by cases h
  | [], _ :: _, _, _, _, _, h => by simp at h
  | _ :: _, [], _, _, _, _, h => by simp at h
theorem tPairs_c : ∀ (l : List (Cst × Cst)) {σ : L2.St} {H : Hp} {Q : List (V × V) → Hp → Prop}, Q (l.map fun q => (q.1.v, q.2.v)) H → tPairs (l.map fun q => (tCst q.1, tCst q.2)) σ H Q
  | [], _, _, _, h => h
  | q :: l, σ, H, Q, h => tPairs_c l (Q := fun ps H3 => Q ((q.1.v, q.2.v) :: ps) H3) h
theorem mergeK_new : ∀ (more acc : List (Key × V)), ((acc ++ more).map (·.1)).Nodup → mergeK acc more = acc ++ more
  | [], acc, _ => by rw [List.append_nil]; rfl
  | p :: r, acc, h => by
    have hn : valV acc p.1 = none := by
      cases e : valV acc p.1 with
      | none => rfl
      | some v =>
        have hs : (acc.any fun kv => decide (kv.1 = p.1)) = true := by rw [valV_any, e]; rfl
        rw [List.any_eq_true] at hs
        obtain ⟨x, hx, hxe⟩ := hs
        rw [List.map_append, List.nodup_append] at h
        exact absurd (of_decide_eq_true hxe) (h.2.2 _ (List.mem_map_of_mem hx) _ (List.mem_map_of_mem (List.mem_cons_self ..)))
    show mergeK (putK acc p.1 p.2) r = _
    rw [putK_new p.2 hn, mergeK_new r (acc ++ [(p.1, p.2)]) (by rw [List.append_assoc]; exact h), List.append_assoc]; rfl
theorem keys_of : ∀ {ks : List Cst}, ks.all (fun k => k.key.isSome) = true → ∃ kk : List Key, ks.map Cst.key = kk.map some ∧ ks.map Cst.d = kk.map kD ∧ ks.map Cst.v = kk.map kV ∧ kk.length = ks.length
  | [], _ => ⟨[], rfl, rfl, rfl, rfl⟩
  | c :: ks, h => by
    rw [List.all_cons, Bool.and_eq_true] at h
    obtain ⟨kk, h1, h2, h3, h4⟩ := keys_of h.2
    cases c with
    | int i => exact ⟨.inl i :: kk, by rw [List.map_cons, h1]; rfl, by rw [List.map_cons, h2]; rfl, by rw [List.map_cons, h3]; rfl, by rw [List.length_cons, List.length_cons, h4]⟩
    | str i => exact ⟨.inr i :: kk, by rw [List.map_cons, h1]; rfl, by rw [List.map_cons, h2]; rfl, by rw [List.map_cons, h3]; rfl, by rw [List.length_cons, List.length_cons, h4]⟩
    | non => exact absurd h.1 (by decide)
    | bl b => exact absurd h.1 (fun z => by cases z)
theorem cst_RD {K : PySem.W.Frag} {M : Am} {G : Hp} {μ : Mu} (c : Cst) : RD K M G μ c.d c.v := by
  cases c with
  | non => exact .non
  | bl b => exact .bl b
  | int i => exact .int i
  | str x => exact .str x
theorem csts_RDs {K : PySem.W.Frag} {M : Am} {G : Hp} {μ : Mu} : ∀ cs : List Cst, RDs K M G μ (cs.map Cst.d) (cs.map Cst.v)
  | [] => .nil
  | c :: cs => .cons (cst_RD c) (csts_RDs cs)
theorem nodup_some {α : Type} : ∀ {l : List α}, (l.map some).Nodup → l.Nodup
  | [], _ => List.nodup_nil
  | x :: l, h => by
    rw [List.map_cons, List.nodup_cons] at h
    exact List.nodup_cons.mpr ⟨fun z => h.1 (List.mem_map_of_mem z), nodup_some h.2⟩
theorem upd_upd {H : Hp} {p : Addr} {u w : HO} : upd (upd H p u) p w = upd H p w := by
  funext a
  by_cases h : a = p
  · subst h; rw [upd_same, upd_same]
  · rw [upd_ne h, upd_ne h, upd_ne h]
theorem s_dct {m : Bool} {t : Nat} {ks vs : List Cst} {keys : List (Option Expr)} {values : List Expr} (hd : dctB t ks vs = true) (hk : okKs ks keys = true) (hv : okVs vs values = true) : PEx Y k X W (.Dict keys values pos) (.dct m t ks vs) := by
  unfold dctB at hd
  rw [Bool.and_eq_true, beq_iff_eq] at hd
  obtain ⟨hl, hd⟩ := hd
  obtain ⟨q1, q2, q3, q4⟩ := pps_c (X := X) (pos := pos) hk hv hl
  rw [Bool.or_eq_true] at hd
  cases ks with
  | nil =>
    cases vs with
    | cons _ _ => cases hl
    | nil =>
      cases keys with
      | cons _ _ => cases q3
      | nil =>
        cases values with
        | cons _ _ => cases q4
        | nil =>
          have ht : t = 0 ∨ t = 1 := by
            rcases hd with hd | hd
            · rw [Bool.and_eq_true, decide_eq_true_eq] at hd; omega
            · rw [Bool.and_eq_true, beq_iff_eq] at hd; exact .inl hd.1
          rcases ht with rfl | rfl
          · exact pe_dnewK.imp fun σ H Q z => by
              obtain ⟨G, Φ, μ, S, env, r, er, res⟩ := z
              simp only [evalE] at res
              exact res_mkD0 (kk := []) (ys := []) res r rfl .nil
          · exact pe_dnewT.imp fun σ H Q z => by
              obtain ⟨G, Φ, μ, S, env, r, er, res⟩ := z
              simp only [evalE] at res
              exact res_mkD1 (kk := []) (ys := []) res r rfl .nil
  | cons c ks =>
    have hd : t = 0 ∧ (c :: ks).all (fun k => k.key.isSome) = true ∧ ((c :: ks).map Cst.key).Nodup ∧ (c :: ks).length ≤ 15 := by
      rcases hd with hd | hd
      · exact absurd hd (by simp)
      · rw [Bool.and_eq_true, Bool.and_eq_true, Bool.and_eq_true, beq_iff_eq, decide_eq_true_eq, decide_eq_true_eq] at hd
        exact hd
    obtain ⟨rfl, h1, h2, h3⟩ := hd
    obtain ⟨kk, e1, e2, e3, e4⟩ := keys_of h1
    have hkl : kk.length = (vs.map Cst.v).length := by rw [List.length_map, e4, hl]
    refine (pe_disp q1 q2 (by rw [q3, q4, hl]) (fun z => by rw [z] at q3; cases q3) (by rw [q3]; exact h3)).imp fun σ H Q z => ?_
    obtain ⟨G, Φ, μ, S, env, r, er, res⟩ := z
    simp only [evalE] at res
    rw [e2] at res
    intro p hp
    refine tPairs_c _ ⟨upd_same, kk.zip (vs.map Cst.v), ?_, ?_, ?_⟩
    · have z1 : ∀ (ks : List Cst) (kk : List Key) (vs : List Cst), ks.map Cst.v = kk.map kV → (ks.zip vs).map (fun q => (q.1.v, q.2.v)) = (kk.zip (vs.map Cst.v)).map (fun kv => (kV kv.1, kv.2)) := by
        intro ks
        induction ks with
        | nil => intro kk vs h; cases kk with | nil => rfl | cons _ _ => cases h
        | cons c ks ih =>
          intro kk vs h
          cases kk with
          | nil => cases h
          | cons k kk =>
            rw [List.map_cons, List.map_cons] at h
            injection h with ha hb
            cases vs with
            | nil => rfl
            | cons v vs =>
              rw [List.zip_cons_cons, List.map_cons, List.map_cons, List.zip_cons_cons, List.map_cons, ih kk vs hb, ha]
      exact z1 _ _ _ e3
    · rw [List.length_zip]; omega
    · have nd : ((([] : List (Key × V)) ++ kk.zip (vs.map Cst.v)).map (·.1)).Nodup := by
        rw [List.nil_append, List.map_fst_zip (by omega)]
        rw [e1] at h2
        exact nodup_some h2
      rw [mergeK_new _ _ nd, List.nil_append, upd_upd]
      exact res_mkD0 res r hkl (csts_RDs vs) p hp
theorem s_ix (ok : XOk Y k X W) {a b : Expr} {xa xb : Ex} (ha : PEx Y k X W a xa) (hb : PEx Y k X W b xb) (hs : plainIxB b = true) : PEx Y k X W (.Subscript a b pos) (.ix xa xb) :=
  (pe_ix (ix_uIx (by have := ok.room.un; omega)) ha hb (plainIx_no hs)).imp fun σ H Q z => by
    simp only [tX, evalE] at z
    refine (tG_bind (Ra := rD X.K Y.M) z).imp ?_
    rintro v H1 ⟨G, Φ, μ, S, env, d, r, er, ra, res⟩
    refine (tG_go (Ra := rD X.K Y.M) r er res).imp ?_
    rintro u H2 ⟨G1, μ1, S1, d2, gr, r1, rb, res1⟩
    dsimp only at res1
    cases e : ixD S1 d d2 with
    | none => rw [e] at res1; exact res1.elim
    | some c => rw [e] at res1; exact ixD_ok r1 (ra.up gr) rb e fun z q => res1.now r1 q
theorem s_sl {a : Expr} {lo hi : Option Expr} {p2 : Pos} {xa : Ex} {xl xh : Oe} {m : Bool} (ha : PEx Y k X W a xa) (hl : POx Y k X W lo xl) (hh : POx Y k X W hi xh) : PEx Y k X W (.Subscript a (.Slice lo hi none p2) pos) (.sl m xa xl xh) :=
  (pe_slice sl_uSl ha hl hh).imp fun σ H Q z => by
    simp only [tX, evalE] at z
    refine (tG_bind (Ra := rD X.K Y.M) z).imp ?_
    rintro v H1 ⟨G, Φ, μ, S, env, d, r, er, ra, res⟩
    refine (tG_go (Ra := rO) r er res).imp ?_
    rintro l H2 ⟨G1, μ1, S1, l', gr, r1, rl, res1⟩
    have rl : l' = l := rl
    subst rl
    refine (tG_go (Ra := rO) r1 (er.grow gr) res1).imp ?_
    rintro h H3 ⟨G2, μ2, S2, h', gr2, r2, rh, res2⟩
    have rh : h' = h := rh
    subst rh
    exact slD_ok r2 ((ra.up gr).up gr2) res2
/-! ### calls -/
theorem pure_call {K : PySem.W.Frag} {M : Am} {W W' : WX} {σ σ' : L2.St} {G Φ : Hp} {μ : Mu} {S : Sto} {H : Hp} {Q : VK} {x : Option (Ro D)} (r : Rel K M G Φ μ S H)
    (hW : ∀ c H, W c none σ H → W' c none σ' H)
    (res : Res K M W σ G Φ μ (match x with
      | some (.ok d _) => if d.pure then some (.ok d S) else none
      | some (.ex c _) => some (.ex c S)
      | none => none) (rD K M) Q) :
    ∃ Φ1, Rel K M G Φ1 (fun _ => none) [] H ∧ Res K M W' σ' G Φ1 (fun _ => none) x (rD K M) Q := by
  classical
  let Φ1 : Hp := fun a => if (∃ n, μ n = some a) ∧ G a = none then H a else Φ a
  have f1 : ∀ n a, μ n = some a → G a = none → Φ1 a = H a := fun n a e h => if_pos ⟨⟨n, e⟩, h⟩
  have f2 : ∀ a o, Φ a = some o → Φ1 a = some o := fun a o e => by
    have : ¬ ((∃ n, μ n = some a) ∧ G a = none) := fun ⟨⟨n, em⟩, hg⟩ => by rw [r.fm n a em hg] at e; cases e
    show (if _ then _ else _) = _
    rw [if_neg this]; exact e
  have f3 : ∀ a o, Φ1 a = some o → H a = some o := fun a o e => by
    by_cases h : (∃ n, μ n = some a) ∧ G a = none
    · have : Φ1 a = H a := if_pos h
      rw [this] at e; exact e
    · have : Φ1 a = Φ a := if_neg h
      rw [this] at e; exact r.f a o e
  have back : ∀ G' μ' H' S', Gr Φ1 G (fun _ => none) G' μ' → Rel K M G' Φ1 μ' S' H' → Gr Φ G μ G' μ ∧ Rel K M G' Φ μ S H' := fun G' μ' H' S' g q => by
    have keep : ∀ n a, μ n = some a → G a = none → H' a = H a := fun n a e hg => by
      cases h : H a with
      | none => exact absurd h (r.th n a e)
      | some o => exact q.f a o ((f1 n a e hg).trans h)
    have gnn : ∀ a, Φ a ≠ none → G' a ≠ none → G a ≠ none := fun a h1 h2 => g.n a (fun z => by
      cases h : Φ a with
      | none => exact h1 h
      | some o => rw [f2 a o h] at z; cases z) h2
    have gup : ∀ a, G a ≠ none → G' a ≠ none := fun a h z => by
      cases e : G a with
      | none => exact h e
      | some u => rw [g.g a u e] at z; cases z
    refine ⟨⟨g.g, gnn, fun _ _ h => h⟩, q.g, fun a o e => q.f a o (f2 a o e), fun n ob e => ?_, fun n a ob e hd em => ⟨?_, (r.gm n a ob e hd em).2⟩, r.inj, r.ub, fun n a e => ?_, fun n a em h => r.fm n a em (gnone_of g.g h), r.ft, fun a o e hg' => r.fg a o e (gnn a (by rw [e]; exact fun z => nomatch z) hg'), fun n a e em => gup a (r.dg n a e em)⟩
    · obtain ⟨a, em, h⟩ := r.s n ob e
      refine ⟨a, em, ?_⟩
      by_cases hd : ob = .dead
      · subst hd; trivial
      · exact (h.grow g.g (fun _ _ h => h)).heap (keep n a em (r.gm n a ob e hd em).1)
    · have hg := (r.gm n a ob e hd em).1
      cases h : G' a with
      | none => rfl
      | some w =>
        exact absurd hg (g.n a (by rw [f1 n a em hg]; exact r.th n a em) (by rw [h]; exact fun z => nomatch z))
    · by_cases hg : G a = none
      · rw [keep n a e hg]; exact r.th n a e
      · cases h : G a with
        | none => exact absurd h hg
        | some u => exact (q.g a u (g.g a u h)).some_
  refine ⟨Φ1, ⟨r.g, f3, fun n ob e => (by simp at e), fun n a ob e => (by simp at e), fun _ _ _ e => (by cases e), fun _ _ e => (by cases e), fun _ _ e => (by cases e), fun _ _ e => (by cases e), fun a xs e => ?_, fun a o e hg => ?_, fun n a e => (by simp at e)⟩, ?_⟩
  · by_cases h : (∃ n, μ n = some a) ∧ G a = none
    · obtain ⟨⟨n, em⟩, hg⟩ := h
      have e : H a = some (.tup xs) := (f1 n a em hg).symm.trans e
      have hl := r.ub n a em
      have hs : S[n]? = some S[n] := List.getElem?_eq_getElem hl
      generalize S[n] = ob at hs
      obtain ⟨b, eb, h⟩ := r.s n ob hs
      rw [em] at eb; cases eb
      cases ob with
      | lst xs => obtain ⟨ys, h1, _⟩ := h; rw [e] at h1; cases h1
      | dct t ks vs =>
        rcases h with ⟨_, _, _, _, _, _, h⟩ | ⟨_, _, _, _, _, _, h⟩ <;> rw [e] at h <;> cases h
      | ins c ns vs => obtain ⟨_, _, _, _, h⟩ := h; rw [e] at h; cases h
      | dead => exact r.dg n a hs em hg
    · have : Φ1 a = Φ a := if_neg h
      rw [this] at e; exact r.ft a xs e
  · have : Φ1 a = Φ a := if_neg fun z => hg z.2
    rw [this] at e; exact r.fg a o e hg
  cases x with
  | none => exact res
  | some z =>
    cases z with
    | ok d S1 =>
      simp only at res
      split at res
      · rename_i hp
        intro G' μ' H' v g q rd
        obtain ⟨g2, r2⟩ := back G' μ' H' S1 g q
        exact res G' μ H' v g2 r2 (RD.pure d v rd hp)
      · exact res.elim
    | ex c S1 =>
      intro G' μ' H' g q
      obtain ⟨g2, r2⟩ := back G' μ' H' S1 g q
      exact hW _ _ (res G' μ H' g2 r2)
theorem Res.wish {K : PySem.W.Frag} {M : Am} {W W' : WX} {σ σ' : L2.St} {G Φ : Hp} {μ : Mu} {α β : Type} {r : Option (Ro α)} {R : Hp → Mu → α → β → Prop} {Q : β → Hp → Prop} (h : Res K M W σ G Φ μ r R Q) (hW : ∀ c H, W c none σ H → W' c none σ' H) : Res K M W' σ' G Φ μ r R Q := by
  cases r with
  | none => exact h
  | some z =>
    cases z with
    | ok a S => exact h
    | ex c S => exact fun G' μ' H' g r => hW _ _ (h G' μ' H' g r)
theorem Res.unfrz {K : PySem.W.Frag} {M : Am} {W : WX} {σ : L2.St} {G Φ : Hp} {μ : Mu} {H : Hp} {Q : VK} {r : Option (Ro D)} (h : Res K M W σ G Φ μ (frzR r) (rD K M) Q) : Res K M W σ G Φ μ r (rD K M) Q := by
  cases r with
  | none => exact h
  | some z =>
    cases z with
    | ex c S => exact h
    | ok d S =>
      intro G' μ' H' v g r' q
      unfold frzR at h
      rw [bnd_ok] at h
      cases hz : frz 9 d S with
      | none => rw [hz] at h; exact h.elim
      | some w =>
        rw [hz] at h
        obtain ⟨G3, g3, r3, q3⟩ := frz_ok 9 _ _ _ _ _ _ r' q hz
        exact h G3 μ' H' _ (g.trans g3) r3 q3
theorem spI_of {f : Nat} {p : Bool} {K : PySem.W.Frag} {σ : L2.St} {G Φ : Hp} {μ : Mu} {S : Sto} {H : Hp} {Q : VK} {ds : List D} {vs : List V} (r : Rel K Y.M G Φ μ S H) (q : RDs K Y.M G μ ds vs) (res : Res K Y.M W σ G Φ μ (callP (Y.Γ k) p f ds S) (rD K Y.M) Q) :
    spI Y K k f vs H Q (WE W σ) := by
  cases p with
  | false => exact ⟨G, Φ, μ, S, ds, r, q, Res.wish (σ' := []) res fun _ _ h => h⟩
  | true =>
    simp only [callP] at res
    split at res
    · rename_i hp
      obtain ⟨Φ1, r1, res1⟩ := pure_call (W' := fun c d _ H => WE W σ c d H) (σ' := []) r (fun _ _ h => h) res
      exact ⟨G, Φ1, _, [], ds, r1, RDs.pure _ _ q hp, Res.unfrz (H := H) res1⟩
    · exact res.elim
theorem s_call (ok : XOk Y k X W) {f : Nat} {fn : Fn} {p : Bool} {x : Str} {pn : Pos} {e : Expr} {es : List Expr} {xs : Exs} (hf : Y.F[f]? = some fn) (hx : fn.name = x) (hne : x ≠ ("" : Str)) (hg : glB X.env.scope x = true) (hn : nmOk x = true) (hs : allNo (e :: es) = true)
    (h : PAx Y k X W (e :: es) xs) : PEx Y k X W (.Call (.Name x pn) (e :: es) [] pos) (.call f p xs) := by
  subst hx
  obtain ⟨h1, h2, h3⟩ := ok.facts.fn f fn hf hne
  unfold allNo at hs
  rw [Bool.and_eq_true] at hs
  exact (pe_callS (ok.facts.ok f fn hf) (ok.room.mono (by omega)) (glB_ok hg) h1 h2 h3 (fun σ => passAt ok.tk σ) h (nmOk_1 hn) (starEach_no hs.1 _ _) (backTo_no _ _ _ hs.2)).imp fun σ H Q z => by
    simp only [tX, evalE] at z
    refine (tG_bind (Ra := rDs X.K Y.M) z).imp ?_
    rintro v H1 ⟨G, Φ, μ, S, env, d, r, er, ra, res⟩
    exact spI_of r ra res
theorem attB_ok (ok : XOk Y k X W) {c : Nat} {f : Str} (h : attB Y.toTxt c f = true) : Cls X.K (Y.M.cls c) ∧ NoAttr X.K (Y.M.cls c) f := by
  unfold attB at h
  split at h
  · rename_i q hq
    obtain ⟨h1, _, _, h4, _⟩ := ok.facts.cl c q hq
    exact ⟨h1, h4 f (List.contains_iff_mem.mp h)⟩
  · cases h
theorem s_att (ok : XOk Y k X W) {c : Nat} {o : Expr} {xo : Ex} {f : Str} (hb : baseB o = true) (ha : attB Y.toTxt c f = true) (ho : PEx Y k X W o xo) : PEx Y k X W (.Attribute o f pos) (.att c xo f) := by
  obtain ⟨c1, c2⟩ := attB_ok ok ha
  exact (pe_fld ho (attributeBase_no hb _ _ _)).imp fun σ H Q z => by
    simp only [tX, evalE] at z
    refine (tG_bind (Ra := rD X.K Y.M) z).imp ?_
    rintro v H1 ⟨G, Φ, μ, S, env, d, r, er, ra, res⟩
    try dsimp only at res
    unfold fldD at res
    split at res
    · rename_i c' ns vs hi
      split at res
      · rename_i hc
        subst hc
        obtain ⟨a, dx, ys, rfl, h1, l, q⟩ := insD_ok r ra hi
        cases hf : fldL f ns vs with
        | none => rw [hf] at res; exact res.elim
        | some d' =>
          rw [hf] at res
          obtain ⟨w, h2, q2⟩ := fldL_ok q hf
          exact ⟨a, _, dx, _, w, rfl, h1, c1, c2, h2, res.now r q2⟩
      · exact res.elim
    · exact res.elim
theorem form_ok {es : List Expr} {env : Env} {cpos : Pos} (h29 : es.length < 29) (hs : allNo es = true) : methodCallForm (es.length + ([] : List Keyword).length) (backTo cpos (starEach es env)) (backToKw cpos (keywordEach [] env)) = true := by
  unfold methodCallForm
  rw [backTo_all _ _ _ hs]
  simp only [keywordEach, backToKw, List.map_nil, List.all_nil, List.length_nil, List.isEmpty_nil, if_true, Bool.true_and, Nat.add_zero, decide_eq_true_eq]
  omega
theorem s_mcl (ok : XOk Y k X W) {c f : Nat} {m : Str} {p : Bool} {o : Expr} {xo : Ex} {es : List Expr} {xs : Exs} {apos cpos : Pos} (hb : baseB o = true) (hl : (apos.endLine == cpos.line) = true) (h29 : es.length < 29) (hm : mclB Y.toTxt c f m = true) (hs : okEs Y.toTxt X.N xs X.env.scope es = true)
    (ho : PEx Y k X W o xo) (h : PAx Y k X W es xs) : PEx Y k X W (.Call (.Attribute o m apos) es [] cpos) (.mcl c f m p xo xs) := by
  unfold mclB at hm
  split at hm
  · rename_i q fn hq hf
    obtain ⟨c1, _, _, _, c5⟩ := ok.facts.cl c q hq
    have M := c5 m f (List.contains_iff_mem.mp hm)
    have hs0 := okEs_no xs es hs
    have go : ∀ {t : TA}, PA X es t → (es = [] ∧ t = tNil ∨ ∃ e r, es = e :: r ∧ starEach (e :: r) X.env = (false, eval e X.env) :: starEach r X.env ∧ (backTo cpos (starEach r X.env)).any (·.1) = false) →
        (∀ σ H Q, tXs X.K Y.M W (evalEs (Y.Γ k) Y.T xs) σ H Q → t σ H Q) → PEx Y k X W (.Call (.Attribute o m apos) es [] cpos) (.mcl c f m p xo xs) := fun {t} hpa hst him => by
      refine (pe_methW (E := WE W) ho hb c1 M (ok.facts.ok f fn hf) (ok.room.mono (by omega)) (ok.facts.bd f fn hf) (fun σ => passAt ok.tk σ) hpa hl (form_ok h29 hs0) hst).imp fun σ H Q z => ?_
      simp only [tX, evalE] at z
      refine (tG_bind (Ra := rD X.K Y.M) z).imp ?_
      rintro v H1 ⟨G, Φ, μ, S, env, d, r, er, ra, res⟩
      try dsimp only at res
      split at res
      · rename_i hmt
        unfold mthD at hmt
        split at hmt
        · rename_i c' ns vs hi
          rw [Bool.and_eq_true, decide_eq_true_eq] at hmt
          obtain ⟨hc, hmt⟩ := hmt
          subst hc
          obtain ⟨a, dx, ys, rfl, h1, l, q⟩ := insD_ok r ra hi
          refine ⟨a, dx, _, rfl, h1, mth_no hmt, him _ _ _ ((tG_go (Ra := rDs X.K Y.M) r er res).imp ?_)⟩
          rintro u H2 ⟨G1, μ1, S1, d2, gr, r1, rb, res1⟩
          exact spI_of r1 (.cons (RD.up ra gr) rb) res1
        · cases hmt
      · exact res.elim
    cases es with
    | nil =>
      cases xs with
      | nil =>
        refine go (t := tNil) pa_nil (.inl ⟨rfl, rfl⟩) fun σ H Q z => ?_
        obtain ⟨G, Φ, μ, S, env, r, er, res⟩ := z
        rw [evalEs] at res
        exact res.now r .nil
      | cons _ _ => simp [okEs] at hs
    | cons e es =>
      have hs1 := hs0
      unfold allNo at hs1
      rw [Bool.and_eq_true] at hs1
      exact go h (.inr ⟨e, es, rfl, starEach_no hs1.1 _ _, backTo_no _ _ _ hs1.2⟩) fun σ H Q z => z
  · cases hm
/-- a new object -/
theorem new_obj {K : PySem.W.Frag} {M : Am} {G Φ : Hp} {μ : Mu} {S : Sto} {H : Hp} {c : Nat} {x dx : Addr} (r : Rel K M G Φ μ S H) (hx : H x = none) (hd : H dx = none) (hn : dx ≠ x) :
    Rel K M (upd G dx (.own x)) Φ (muAdd μ S.length x) (S ++ [.ins c [] []]) (upd (upd H dx (.own x)) x (.ins (M.cls c) dx [])) ∧ Gr Φ G μ (upd G dx (.own x)) (muAdd μ S.length x) := by
  obtain ⟨r1, g1⟩ := r.still (u := .own x) hd
  obtain ⟨r2, g2⟩ := r1.fresh (p := x) (u := .ins (M.cls c) dx []) (ob := .ins c [] []) (by rw [upd_ne (fun z => hn z.symm)]; exact hx) ⟨dx, [], rfl, .nil, upd_same⟩
  exact ⟨r2, g1.trans g2⟩
theorem mkR_ok {K : PySem.W.Frag} {W : WX} {σ : L2.St} {f c : Nat} {z : Bool} {G Φ : Hp} {μ : Mu} {S : Sto} {H : Hp} {Q : VK} {ds : List D} {vs : List V} {x dx : Addr} (r : Rel K Y.M G Φ μ S H) (q : RDs K Y.M G μ ds vs)
    (res : Res K Y.M W σ G Φ μ (mkR (Y.Γ k) f c z ds S) (rD K Y.M) Q) (hx : H x = none) (hd : H dx = none) (hn : dx ≠ x) :
    spI Y K k f (.ref x :: vs) (upd (upd H dx (.own x)) x (.ins (Y.M.cls c) dx [])) (fun v H2 => v = .non ∧ Q (.ref x) H2) (WE W σ) := by
  obtain ⟨r2, g2⟩ := new_obj (c := c) r hx hd hn
  have hm : muAdd μ S.length x S.length = some x := by unfold muAdd; rw [if_pos rfl]
  refine ⟨_, Φ, _, _, .ref S.length :: ds, r2, .cons (.ref hm) (RDs.up q g2), ?_⟩
  unfold mkR at res
  cases e : callK Y.F Y.T k f (.ref S.length :: ds) (S ++ [.ins c [] []]) with
  | none =>
    have e' : Y.Γ k f (.ref S.length :: ds) (S ++ [.ins c [] []]) = none := e
    rw [e'] at res; exact res.elim
  | some w =>
    have e' : Y.Γ k f (.ref S.length :: ds) (S ++ [.ins c [] []]) = some w := e
    rw [e'] at res
    cases w with
    | ex cc S1 => exact fun G' μ' H' g' r' => res G' μ' H' (g2.trans g') r'
    | ok d S1 =>
      intro G' μ' H' v g' r' qv
      rw [bnd_ok] at res
      cases d with
      | non =>
        cases qv
        refine ⟨rfl, ?_⟩
        have qr : RD K Y.M G' μ' (.ref S.length) (.ref x) := .ref (g'.m _ _ hm)
        cases z with
        | false => exact res G' μ' H' _ (g2.trans g') r' qr
        | true =>
          dsimp only at res
          cases hz : frz 9 (.ref S.length) S1 with
          | none => rw [hz] at res; exact res.elim
          | some w =>
            rw [hz] at res
            obtain ⟨G3, g3, r3, q3⟩ := frz_ok 9 _ _ _ _ _ _ r' qr hz
            exact res G3 μ' H' _ ((g2.trans g').trans g3) r3 q3
      | _ => exact res.elim
theorem spI_mk {f c : Nat} {m : Bool} {K : PySem.W.Frag} {σ : L2.St} {G Φ : Hp} {μ : Mu} {S : Sto} {H : Hp} {Q : VK} {ds : List D} {vs : List V} {x dx : Addr} (r : Rel K Y.M G Φ μ S H) (q : RDs K Y.M G μ ds vs) (res : Res K Y.M W σ G Φ μ (mkC (Y.Γ k) f c m ds S) (rD K Y.M) Q)
    (hx : H x = none) (hd : H dx = none) (hn : dx ≠ x) : spI Y K k f (.ref x :: vs) (upd (upd H dx (.own x)) x (.ins (Y.M.cls c) dx [])) (fun v H2 => v = .non ∧ Q (.ref x) H2) (WE W σ) := by
  cases m with
  | true => exact mkR_ok (z := false) r q res hx hd hn
  | false =>
    simp only [mkC] at res
    split at res
    · rename_i hp
      obtain ⟨Φ1, r1, res1⟩ := pure_call (W' := W) (σ' := σ) r (fun _ _ h => h) res
      exact mkR_ok r1 (RDs.pure _ _ q hp) res1 hx hd hn
    · exact res.elim
theorem s_mk (ok : XOk Y k X W) {c f : Nat} {m : Bool} {x : Str} {pn : Pos} {e : Expr} {es : List Expr} {xs : Exs} (hm : mkB Y.toTxt c f x = true) (hg : glB X.env.scope x = true) (hn : nmOk x = true) (hs : allNo (e :: es) = true)
    (h : PAx Y k X W (e :: es) xs) : PEx Y k X W (.Call (.Name x pn) (e :: es) [] pos) (.mk c f m xs) := by
  unfold mkB at hm
  split at hm
  · rename_i q fn hq hf
    rw [Bool.and_eq_true, decide_eq_true_eq, decide_eq_true_eq] at hm
    obtain ⟨rfl, rfl⟩ := hm
    obtain ⟨_, c2, c3, _, _⟩ := ok.facts.cl c q hq
    unfold allNo at hs
    rw [Bool.and_eq_true] at hs
    exact (pe_makeS (E := WE W) c3 (ok.facts.ok q.ini fn hf) ok.room (glB_ok hg) c2 (ok.facts.bd q.ini fn hf) (fun σ => passAt ok.tk σ) h (nmOk_1 hn) (starEach_no hs.1 _ _) (backTo_no _ _ _ hs.2)).imp fun σ H Q z => by
      simp only [tX, evalE] at z
      refine (tG_bind (Ra := rDs X.K Y.M) z).imp ?_
      rintro v H1 ⟨G, Φ, μ, S, env, d, r, er, ra, res⟩
      exact fun x dx hx hd hn => spI_mk r ra res hx hd hn
  · cases hm
/-- what a call has made, from now on standing still -/
theorem s_rev {m : Bool} {a : Expr} {xa : Ex} {k1 : Nat} {p1 p2 p3 : Pos} (ha : PEx Y k X W a xa) : PEx Y k X W (.Subscript a (.Slice none none (some (.UnaryOp .USub (.Constant (.int 1) k1 p1) p2)) p3) pos) (.rev m xa) :=
  (pe_revL ha).imp fun σ H Q z => by
    simp only [tX, evalE] at z
    refine (tG_bind (Ra := rD X.K Y.M) z).imp ?_
    rintro v H1 ⟨G, Φ, μ, S, env, d, r, er, ra, res⟩
    cases h : lstD S d with
    | none => rw [h] at res; exact res.elim
    | some xs =>
      rw [h] at res
      obtain ⟨p, ys, rfl, h1, h2⟩ := lstD_ok r ra h
      exact ⟨p, ys, rfl, SqL.of h1, res_mkL res r h2.reverse⟩
theorem s_fze {e : Expr} {x : Ex} (h : PEx Y k X W e x) : PEx Y k X W e (.fze x) := h.imp fun σ H Q z => by
  simp only [tX, evalE] at z
  refine (tG_bind (Ra := rD X.K Y.M) z).imp ?_
  rintro v H1 ⟨G, Φ, μ, S, env, d, r, er, ra, res⟩
  try dsimp only at res
  cases hz : frz 9 d S with
  | none => rw [hz] at res; exact res.elim
  | some w =>
    rw [hz] at res
    obtain ⟨G3, g3, r3, q3⟩ := frz_ok 9 _ _ _ _ _ _ r ra hz
    exact res G3 μ H1 v g3 r3 q3
theorem boot_bi : ∀ b : BI, bootBuiltins b.x = some b.v
  | .len => by decide +kernel
  | .int => by decide +kernel
  | .str => by decide +kernel
  | .tuple => by decide +kernel
  | .sum => by decide +kernel
  | .all => by decide +kernel
  | .max => by decide +kernel
  | .min => by decide +kernel
  | .abs => by decide +kernel
theorem bi_name (b : BI) : b.x ≠ ("__name__" : Str) ∧ (b.x == ("__debug__" : Str)) = false ∧ b.x ∈ bNames := by cases b <;> decide
theorem s_bi (ok : XOk Y k X W) {b : BI} {pn : Pos} {e : Expr} {es : List Expr} {xs : Exs} (hg : glB X.env.scope b.x = true) (hs : allNo (e :: es) = true)
    (h : PAx Y k X W (e :: es) xs) : PEx Y k X W (.Call (.Name b.x pn) (e :: es) [] pos) (.bi b xs) := by
  unfold allNo at hs
  rw [Bool.and_eq_true] at hs
  obtain ⟨n1, n2, n3⟩ := bi_name b
  have im : ∀ {t : TE}, PE X (.Call (.Name b.x pn) (e :: es) [] pos) t → (∀ σ H Q, tCB (uBi X.K b) (tXs X.K Y.M W (evalEs (Y.Γ k) Y.T xs)) σ H Q → t σ H Q) → PEx Y k X W (.Call (.Name b.x pn) (e :: es) [] pos) (.bi b xs) := fun h1 h2 =>
    h1.imp fun σ H Q z => h2 σ H Q (by
      simp only [tX, evalE] at z
      refine (tG_bind (Ra := rDs X.K Y.M) z).imp ?_
      rintro v H1 ⟨G, Φ, μ, S, env, d, r, er, ra, res⟩
      exact biD_ok r ra res)
  have hm := ok.facts.free _ n3
  have hb := boot_bi b
  have hc := call_uBi ok.calm b
  cases b with
  | len => exact im (pe_callB hc (glB_ok hg) hm hb h n1 n2 (starEach_no hs.1 _ _) (backTo_no _ _ _ hs.2)) fun _ _ _ z => z
  | sum => exact im (pe_callB hc (glB_ok hg) hm hb h n1 n2 (starEach_no hs.1 _ _) (backTo_no _ _ _ hs.2)) fun _ _ _ z => z
  | all => exact im (pe_callB hc (glB_ok hg) hm hb h n1 n2 (starEach_no hs.1 _ _) (backTo_no _ _ _ hs.2)) fun _ _ _ z => z
  | max => exact im (pe_callB hc (glB_ok hg) hm hb h n1 n2 (starEach_no hs.1 _ _) (backTo_no _ _ _ hs.2)) fun _ _ _ z => z
  | min => exact im (pe_callB hc (glB_ok hg) hm hb h n1 n2 (starEach_no hs.1 _ _) (backTo_no _ _ _ hs.2)) fun _ _ _ z => z
  | abs => exact im (pe_callB hc (glB_ok hg) hm hb h n1 n2 (starEach_no hs.1 _ _) (backTo_no _ _ _ hs.2)) fun _ _ _ z => z
  | int => exact im (pe_callTy hc (glB_ok hg) hm hb h n1 n2 (starEach_no hs.1 _ _) (backTo_no _ _ _ hs.2)) fun _ _ _ z => z
  | str => exact im (pe_callTy hc (glB_ok hg) hm hb h n1 n2 (starEach_no hs.1 _ _) (backTo_no _ _ _ hs.2)) fun _ _ _ z => z
  | tuple => exact im (pe_callTy hc (glB_ok hg) hm hb h n1 n2 (starEach_no hs.1 _ _) (backTo_no _ _ _ hs.2)) fun _ _ _ z => z
theorem boot_bf : ∀ b : BF, bootBuiltins b.x = some b.v
  | .list => by decide +kernel
  | .sorted => by decide +kernel
theorem bf_name (b : BF) : b.x ≠ ("__name__" : Str) ∧ (b.x == ("__debug__" : Str)) = false ∧ b.x ∈ bNames := by cases b <;> decide
theorem s_bf (ok : XOk Y k X W) {b : BF} {m : Bool} {pn : Pos} {e : Expr} {es : List Expr} {xs : Exs} (hg : glB X.env.scope b.x = true) (hs : allNo (e :: es) = true)
    (h : PAx Y k X W (e :: es) xs) : PEx Y k X W (.Call (.Name b.x pn) (e :: es) [] pos) (.bf b m xs) := by
  unfold allNo at hs
  rw [Bool.and_eq_true] at hs
  obtain ⟨n1, n2, n3⟩ := bf_name b
  have im : ∀ {t : TE}, PE X (.Call (.Name b.x pn) (e :: es) [] pos) t → (∀ σ H Q, tCB (uBf X.K b) (tXs X.K Y.M W (evalEs (Y.Γ k) Y.T xs)) σ H Q → t σ H Q) → PEx Y k X W (.Call (.Name b.x pn) (e :: es) [] pos) (.bf b m xs) := fun h1 h2 =>
    h1.imp fun σ H Q z => h2 σ H Q (by
      simp only [tX, evalE] at z
      refine (tG_bind (Ra := rDs X.K Y.M) z).imp ?_
      rintro v H1 ⟨G, Φ, μ, S, env, d, r, er, ra, res⟩
      exact bfD_ok r ra res)
  have hm := ok.facts.free _ n3
  have hb := boot_bf b
  have hc := call_uBf (X := X) ok.calm (by have := ok.room.un; omega) b
  cases b with
  | sorted => exact im (pe_callB hc (glB_ok hg) hm hb h n1 n2 (starEach_no hs.1 _ _) (backTo_no _ _ _ hs.2)) fun _ _ _ z => z
  | list => exact im (pe_callTy hc (glB_ok hg) hm hb h n1 n2 (starEach_no hs.1 _ _) (backTo_no _ _ _ hs.2)) fun _ _ _ z => z
theorem s_isi (ok : XOk Y k X W) {t : TyN} {pn py : Pos} {a : Expr} {xa : Ex} (hg : glB X.env.scope "isinstance" = true) (hg2 : glB X.env.scope (PySem.Str.ofString t.n) = true) (hs : noStar a = true) (ha : PEx Y k X W a xa) :
    PEx Y k X W (.Call (.Name "isinstance" pn) [a, .Name (PySem.Str.ofString t.n) py] [] pos) (.isi xa t) := by
  have hb : bootBuiltins (PySem.Str.ofString t.n) = some (.type t.n) := by cases t <;> decide +kernel
  have hnn : PySem.Str.ofString t.n ∈ bNames ∧ PySem.Str.ofString t.n ≠ ("__name__" : Str) ∧ (PySem.Str.ofString t.n == ("__debug__" : Str)) = false := by cases t <;> decide +kernel
  exact (pe_callB call_isi (glB_ok hg) (ok.facts.free _ (by decide)) (by decide +kernel) (pa_cons ha (pa_cons (pe_bltn (v := .ty t.n) (glB_ok hg2) (ok.facts.free _ hnn.1) hb rfl hnn.2.1 hnn.2.2) pa_nil rfl) (starEach_no hs _ _)) (by decide) (by decide) (starEach_no hs _ _) rfl).imp fun σ H Q z => by
    simp only [tX, evalE] at z
    refine (tG_bind (Ra := rD X.K Y.M) z).imp ?_
    rintro v H1 ⟨G, Φ, μ, S, env, d, r, er, ra, res⟩
    show rIsi X.K [v, .ty t.n] H1 Q
    cases e : isiD S d t with
    | none => rw [e] at res; exact res.elim
    | some c => rw [e] at res; exact isiD_ok r ra e (res.now r (.bl c))
theorem s_me (ok : XOk Y k X W) {b : ME} {apos cpos : Pos} {o e : Expr} {es : List Expr} {xo : Ex} {xs : Exs} (hb : baseB o = true) (hl : (apos.endLine == cpos.line) = true) (h29 : es.length < 29) (hs : allNo (e :: es) = true)
    (pa : PlainAttrs b.T) (slot : Slot b.T b.x b.id) (ty : typeOf (.builtin b.id) = pure (.type "method_descriptor")) (ho : PEx Y k X W o xo) (h : PAx Y k X W (e :: es) xs) : PEx Y k X W (.Call (.Attribute o b.x apos) (e :: es) [] cpos) (.me b xo xs) := by
  have hs' := hs
  unfold allNo at hs
  rw [Bool.and_eq_true] at hs
  refine (pe_bm' pa slot ty (mt_uMe (by have := ok.room.un; omega) b) ho h (attributeBase_no hb _ _ _) ?_ hl (starEach_no hs.1 _ _) (backTo_no _ _ _ hs.2)).imp fun σ H Q z => ?_
  · rw [backTo_all _ _ _ hs']
    simp only [List.length_cons, keywordEach, backToKw, List.map_nil, List.all_nil, List.length_nil, List.isEmpty_nil, if_true, Bool.true_and, Nat.add_zero, decide_eq_true_eq]
    omega
  · simp only [tX, evalE] at z
    refine (tG_bind (Ra := rD X.K Y.M) z).imp ?_
    rintro v H1 ⟨G, Φ, μ, S, env, d, r, er, ra, res⟩
    split at res
    · rename_i c
      refine ⟨tyM_ok r ra c, (tG_go (Ra := rDs X.K Y.M) r er res).imp ?_⟩
      rintro u H2 ⟨G1, μ1, S1, d2, gr, r1, rb, res1⟩
      exact meD_ok r1 (RD.up ra gr) rb res1
    · exact res.elim
theorem s_mf (ok : XOk Y k X W) {b : MF} {m : Bool} {apos cpos : Pos} {o e : Expr} {es : List Expr} {xo : Ex} {xs : Exs} (hb : baseB o = true) (hl : (apos.endLine == cpos.line) = true) (h29 : es.length < 29) (hs : allNo (e :: es) = true)
    (pa : PlainAttrs b.T) (slot : Slot b.T b.x b.id) (ty : typeOf (.builtin b.id) = pure (.type "method_descriptor")) (ho : PEx Y k X W o xo) (h : PAx Y k X W (e :: es) xs) : PEx Y k X W (.Call (.Attribute o b.x apos) (e :: es) [] cpos) (.mf b m xo xs) := by
  have hs' := hs
  unfold allNo at hs
  rw [Bool.and_eq_true] at hs
  refine (pe_bm pa slot ty (mt_uMf b) ho h (attributeBase_no hb _ _ _) ?_ hl (starEach_no hs.1 _ _) (backTo_no _ _ _ hs.2)).imp fun σ H Q z => ?_
  · rw [backTo_all _ _ _ hs']
    simp only [List.length_cons, keywordEach, backToKw, List.map_nil, List.all_nil, List.length_nil, List.isEmpty_nil, if_true, Bool.true_and, Nat.add_zero, decide_eq_true_eq]
    omega
  · simp only [tX, evalE] at z
    refine (tG_bind (Ra := rD X.K Y.M) z).imp ?_
    rintro v H1 ⟨G, Φ, μ, S, env, d, r, er, ra, res⟩
    split at res
    · rename_i c
      refine ⟨tyF_ok ra c, (tG_go (Ra := rDs X.K Y.M) r er res).imp ?_⟩
      rintro u H2 ⟨G1, μ1, S1, d2, gr, r1, rb, res1⟩
      exact mfD_ok r1 (RD.up ra gr) rb res1
    · exact res.elim
theorem s_lens (ok : XOk Y k X W) {p1 p2 p3 : Pos} {a : Expr} {xa : Ex} (g1 : glB X.env.scope "len" = true) (g2 : glB X.env.scope "set" = true) (hs : noStar a = true) (ha : PEx Y k X W a xa) :
    PEx Y k X W (.Call (.Name "len" p1) [.Call (.Name "set" p2) [a] [] p3] [] pos) (.lens xa) :=
  (pe_lens ok.calm (glB_ok g1) (ok.facts.free _ (by decide)) (glB_ok g2) (ok.facts.free _ (by decide)) ha (starEach_no hs _ _)).imp fun σ H Q z => by
    simp only [tX, evalE] at z
    refine (tG_bind (Ra := rD X.K Y.M) z).imp ?_
    rintro v H1 ⟨G, Φ, μ, S, env, d, r, er, ra, res⟩
    cases hs : (lstD S d).bind asInts with
    | none => simp only [hs] at res; exact res.elim
    | some ns =>
      simp only [hs] at res
      split at res
      · rename_i c
        obtain ⟨b, rfl, h1⟩ := lstInts_ok r ra hs
        exact ⟨b, ns, rfl, h1, c, res.now r (.int _)⟩
      · exact res.elim
/-- a value's test -/
theorem t_of {e : Expr} {x : Ex} (h : PEx Y k X W e x) (he : ∀ whole, PySem.isTrue e X.env whole = (do let v ← whole; standAt e.pos; holding [v] (truthy v)))
    (ht : ∀ env S, evalT (Y.Γ k) Y.T x env S = bnd (evalE (Y.Γ k) Y.T x env S) fun d S1 => okO (truD S1 d) S1) : PTx Y k X W e x :=
  (pt_truth h he).imp fun σ H Q z => by
    simp only [tXt, show evalT (Y.Γ k) Y.T x = (fun env S => bnd (evalE (Y.Γ k) Y.T x env S) fun d S1 => okO (truD S1 d) S1) from funext fun env => funext fun S => ht env S] at z
    refine (tG_bind (Ra := rD X.K Y.M) z).imp ?_
    rintro v H1 ⟨G, Φ, μ, S, env, d, r, er, ra, res⟩
    cases e : truD S d with
    | none => rw [e] at res; exact res.elim
    | some c => rw [e] at res; exact ⟨c, truD_ok r ra e, res.now r rfl⟩
theorem t_none {e : Expr} {x : Ex} (ht : ∀ env S, evalT (Y.Γ k) Y.T x env S = none) : PTx Y k X W e x :=
  ⟨fun pins s σ H Q I z => by
    obtain ⟨G, Φ, μ, S, env, r, er, res⟩ := z
    rw [ht] at res
    exact res.elim⟩
end
end Ip
/-! ## Comprehensions, iterables; soundness of all expressions -/
namespace Ip
open PySem PySem.Spec PyProof.Rows L2

theorem wipeE_rel {K : PySem.W.Frag} {M : Am} {G : Hp} {μ : Mu} {env : En} {σ : L2.St} (er : EnR K M G μ env σ) : ∀ vs : List Nat, EnR K M G μ (wipeE env vs) (wipe σ vs)
  | [] => er
  | v :: vs => by
    rw [wipeE, wipe]
    exact (wipeE_rel er vs).unset
theorem wipe_idem {σ σ2 : L2.St} : ∀ vs : List Nat, σ2.length = σ.length → (∀ j, j ∉ vs → σ2[j]? = σ[j]?) → wipe σ2 vs = wipe σ vs := by
  intro vs hl hf
  apply List.ext_getElem?
  intro i
  by_cases hi : i ∈ vs
  · have key : ∀ (τ : L2.St) (vs : List Nat), i ∈ vs → i < τ.length → (wipe τ vs)[i]? = some none := fun τ vs hm hlt => by
      induction vs with
      | nil => cases hm
      | cons v vs ih =>
        rw [wipe]
        by_cases h : v = i
        · subst h; exact List.getElem?_set_self (by rw [wipe_length]; exact hlt)
        · rw [List.getElem?_set_ne h]
          exact ih (by rcases List.mem_cons.mp hm with e | e; exact absurd e.symm h; exact e)
    by_cases hlt : i < σ.length
    · rw [key σ2 vs hi (by omega), key σ vs hi hlt]
    · rw [List.getElem?_eq_none (by rw [wipe_length]; omega), List.getElem?_eq_none (by rw [wipe_length]; omega)]
  · rw [wipe_out hi, wipe_out hi]
    exact hf i hi
section
variable {Y : Sys} {k : Nat} {X : Cx} {W : WX} {pos : Pos}
abbrev Wno : WX := fun _ _ _ _ => False
theorem XOk.blk (ok : XOk Y k X W) (s : Shared) (H : Hp) (scope : Scope) (cenv : Env) (fp : List Addr) (hk : cenv.scope.kind = .function) : XOk Y k (X.blk s H scope cenv fp) Wno :=
  ⟨ok.calm, hk, ok.nd, ok.room, takes0, PassesOwn.never, ok.facts⟩
/-- one turn of a comprehension -/
noncomputable def lcTurn (Γ : Gam) (T : Tab) (tg : Tg) (cond : Oe) (e : Ex) (vs : List Nat) (env : En) (x : D) (S : Sto) : Option (Ro (Option D)) := match asgT tg x (wipeE env vs) with
  | some env1 => bnd (evalC Γ T cond env1 S) fun b S2 => match b with
    | true => bnd (evalE Γ T e env1 S2) fun y S3 => some (.ok (some y) S3)
    | false => some (.ok none S2)
  | none => none
theorem lcLoop_cons {turn : D → Sto → Option (Ro (Option D))} {x : D} {xs : List D} {S : Sto} {acc : List D} (h : ∃ ys S', lcLoop turn (x :: xs) S acc = some (.ok ys S')) :
    (∃ y S1, turn x S = some (.ok (some y) S1) ∧ lcLoop turn (x :: xs) S acc = lcLoop turn xs S1 (acc ++ [y])) ∨ ∃ S1, turn x S = some (.ok none S1) ∧ lcLoop turn (x :: xs) S acc = lcLoop turn xs S1 acc := by
  obtain ⟨ys, S', h⟩ := h
  rw [lcLoop] at h ⊢
  cases e : turn x S with
  | none => rw [e] at h; cases h
  | some z =>
    rw [e] at h
    cases z with
    | ex c S => cases h
    | ok o S1 =>
      cases o with
      | some y => exact .inl ⟨y, S1, rfl, rfl⟩
      | none => exact .inr ⟨S1, rfl, rfl⟩
theorem lcLoop_noex {turn : D → Sto → Option (Ro (Option D))} : ∀ (xs : List D) (S : Sto) (acc : List D) (c : Nat) (S' : Sto), lcLoop turn xs S acc ≠ some (.ex c S')
  | [], _, _, _, _ => fun h => by rw [lcLoop] at h; cases h
  | x :: xs, S, acc, c, S' => fun h => by
    rw [lcLoop] at h
    split at h
    · exact lcLoop_noex xs _ _ c S' h
    · exact lcLoop_noex xs _ _ c S' h
    · cases h
/-- a comprehension's reading, from what the function gives -/
theorem lc_reads (ok : XOk Y k X W) {scope : Scope} {own : List (Str × Nat)} {m : Bool} {tg : Tg} {it : Itr} {cond : Oe} {x : Ex} {tgt : Expr} {σ : L2.St} {H : Hp} {Q : VK} (hb : blkC X.N X.env.scope scope own = true)
    (hT : okT X.N (fun x => scope.names.lookup x == some .cell) tg (relS scope X.env.scope) tgt = true) (hsl : (tg.slots.all fun i => (own.map (·.2)).contains i) = true)
    (z : tX X.K Y.M W (evalE (Y.Γ k) Y.T (.lc m own tg it cond x)) σ H Q) :
    tLc (tG X.K Y.M W (rW X.K Y.M) (evalI (Y.Γ k) Y.T it)) (gT X.K tg) (tXt X.K Y.M Wno (evalC (Y.Γ k) Y.T cond)) (tX X.K Y.M Wno (evalE (Y.Γ k) Y.T x)) (own.map (·.2)) σ H Q := by
  have ze : tX X.K Y.M W (evalE (Y.Γ k) Y.T (.lc m own tg it cond x)) σ H Q = tG X.K Y.M W (rD X.K Y.M) (fun env S => bnd (evalI (Y.Γ k) Y.T it env S) fun xs S1 => if xs.length ≤ sizeLine then bnd (lcLoop (lcTurn (Y.Γ k) Y.T tg cond x (own.map (·.2)) env) xs S1 []) fun ys S2 => mkL m ys S2 else none) σ H Q := by
    rfl
  rw [ze] at z
  refine (tG_bind (Ra := rW X.K Y.M) z).imp ?_
  rintro J H1 ⟨G, Φ, μ, S, env, xs, r, er, wk, res⟩ p hp
  have wk : Walks X.K Y.M J G μ xs := wk
  split at res
  · rename_i hz
    generalize ht : lcTurn (Y.Γ k) Y.T tg cond x (own.map (·.2)) env = turn at res
    have tot : ∃ ys S', lcLoop turn xs S [] = some (.ok ys S') := by
      cases e : lcLoop turn xs S [] with
      | none => rw [e] at res; exact res.elim
      | some z =>
        cases z with
        | ok ys S' => exact ⟨ys, S', rfl⟩
        | ex c S' => exact absurd e (lcLoop_noex xs S [] c S')
    have hg := r.gnew hp
    have hf := r.fnew hp
    refine ⟨fun i m' H => m' = xs.length - i ∧ i ≤ xs.length ∧ ∃ G' μ' S' acc accV, Gr Φ G μ G' μ' ∧ G' p = none ∧ Rel X.K Y.M G' (upd Φ p (.lst accV)) μ' S' H ∧ RDs X.K Y.M G' μ' acc accV ∧ acc.length ≤ i ∧ lcLoop turn (xs.drop i) S' acc = lcLoop turn xs S [],
      ⟨xs.length, by omega, by omega, G, μ, S, [], [], .refl, hg, r.frame hp, .nil, by simp, rfl⟩, ?_⟩
    rintro i m' H2 ⟨rfl, hle, G', μ', S', acc, accV, g', hg', r', qa, hal, hlo⟩
    obtain ⟨w1, w2, w3⟩ := wk G' (upd Φ p (.lst accV)) μ' S' H2 g'.g g'.m r' i
    by_cases hi : i < xs.length
    · refine .inr ⟨w1 hi, fun H' => ∃ m'', m'' < xs.length - i ∧ _, fun H' h => h, ?_⟩
      intro v H3 hy
      have hd : xs[i]? = some xs[i] := List.getElem?_eq_getElem hi
      obtain ⟨G2, g2, r2, q2⟩ := w3 _ v H3 hd hy
      have hdrop : xs.drop i = xs[i] :: xs.drop (i + 1) := (List.drop_eq_getElem_cons hi)
      rw [hdrop] at hlo
      have tot' : ∃ ys S'', lcLoop turn (xs[i] :: xs.drop (i + 1)) S' acc = some (.ok ys S'') := by rw [hlo]; exact tot
      have hst := lcLoop_cons tot'
      have hturn : turn xs[i] S' = lcTurn (Y.Γ k) Y.T tg cond x (own.map (·.2)) env xs[i] S' := by rw [← ht]
      cases ha : asgT tg xs[i] (wipeE env (own.map (·.2))) with
      | none =>
        have : turn xs[i] S' = none := by rw [hturn, lcTurn, ha]
        rw [this] at hst
        rcases hst with ⟨_, _, e, _⟩ | ⟨_, e, _⟩ <;> cases e
      | some env1 =>
        have hturn2 : turn xs[i] S' = bnd (evalC (Y.Γ k) Y.T cond env1 S') fun b S2 => match b with
            | true => bnd (evalE (Y.Γ k) Y.T x env1 S2) fun y S3 => some (.ok (some y) S3)
            | false => some (.ok none S2) := by rw [hturn, lcTurn, ha]
        refine gT_ok r2 tg _ v _ env1 _ _ q2 (wipeE_rel ((er.grow g').grow g2) _) ha fun σ2 e2 l2 f2 => ⟨?_, ?_⟩
        · have : wipe σ2 (own.map (·.2)) = wipe (wipe σ (own.map (·.2))) (own.map (·.2)) := wipe_idem _ l2 fun j hj => f2 j fun hm => by
            have := List.all_eq_true.mp hsl j hm
            exact hj (by simpa using this)
          rw [this]
          exact wipe_idem _ (wipe_length _ _) fun j hj => wipe_out hj
        · refine ⟨G2, upd Φ p (.lst accV), μ', S', env1, r2, e2, ?_⟩
          cases hcv : evalC (Y.Γ k) Y.T cond env1 S' with
          | none => rw [hturn2, hcv] at hst; rcases hst with ⟨_, _, e, _⟩ | ⟨_, e, _⟩ <;> cases e
          | some z1 =>
            cases z1 with
            | ex c S1 => rw [hturn2, hcv] at hst; rcases hst with ⟨_, _, e, _⟩ | ⟨_, e, _⟩ <;> cases e
            | ok b S1 =>
              intro G3 μ3 H4 b' g3 r3 hbb
              have hbb : b = b' := hbb
              subst hbb
              rw [hturn2, hcv, bnd_ok] at hst
              cases b with
              | false =>
                rw [if_neg (by decide)]
                rcases hst with ⟨_, _, e, _⟩ | ⟨S5, e, hl⟩
                · cases e
                · cases e
                  refine ⟨xs.length - (i + 1), by omega, rfl, by omega, G3, μ3, S1, acc, accV, (g'.trans g2.of_upd).trans g3.of_upd, g3.gnone (g2.gnone hg'), r3, (qa.up g2).up g3, by omega, ?_⟩
                  rw [← hl]; exact hlo
              | true =>
                rw [if_pos rfl]
                refine ⟨G3, upd Φ p (.lst accV), μ3, S1, env1, r3, e2.grow g3, ?_⟩
                dsimp only at hst
                cases hev : evalE (Y.Γ k) Y.T x env1 S1 with
                | none => rw [hev] at hst; rcases hst with ⟨_, _, e, _⟩ | ⟨_, e, _⟩ <;> cases e
                | some z2 =>
                  cases z2 with
                  | ex c S2 => rw [hev] at hst; rcases hst with ⟨_, _, e, _⟩ | ⟨_, e, _⟩ <;> cases e
                  | ok y S2 =>
                    intro G4 μ4 H5 u g4 r4 qu
                    rw [hev, bnd_ok] at hst
                    rcases hst with ⟨y', S5, e, hl⟩ | ⟨_, e, _⟩
                    · cases e
                      have hal' : accV.length = acc.length := qa.length.symm
                      refine ⟨accV, r4.f _ _ upd_same, by omega, xs.length - (i + 1), by omega, rfl, by omega, G4, μ4, S2, acc ++ [y], accV ++ [u], ((g'.trans g2.of_upd).trans g3.of_upd).trans g4.of_upd, g4.gnone (g3.gnone (g2.gnone hg')), r4.reframe (g4.gnone (g3.gnone (g2.gnone hg'))), (((qa.up g2).up g3).up g4).append (.cons qu .nil), by simp; omega, ?_⟩
                      rw [← hl]; exact hlo
                    · cases e
    · have hi' : i = xs.length := by omega
      refine .inl ⟨w2 (by omega), ?_⟩
      rw [hi', List.drop_length, lcLoop] at hlo
      rw [← hlo, bnd_ok] at res
      cases m with
      | false =>
        obtain ⟨r3, g3⟩ := r'.toStill hg' hf
        exact res _ _ _ _ (g'.trans g3) r3 (.lst upd_same (qa.up g3))
      | true =>
        obtain ⟨r3, g3⟩ := r'.toStore (ob := .lst acc) hg' hf ⟨accV, r'.f _ _ upd_same, qa.up (Gr.mk (fun _ _ h => h) (fun _ _ h => h) (fun n a e => by
          unfold muAdd; rw [if_neg (fun z => by have := r'.ub n a e; omega)]; exact e) : Gr Φ G' μ' G' (muAdd μ' S'.length p))⟩
        exact res _ _ _ _ (g'.trans g3) r3 (.ref (by unfold muAdd; rw [if_pos rfl]))
  · exact res.elim
theorem s_lc (ok : XOk Y k X W) {elt tgt iter : Expr} {ifs : List Expr} {scope : Scope} {own : List (Str × Nat)} {m : Bool} {tg : Tg} {it : Itr} {cond : Oe} {x : Ex} (hb : blkC X.N X.env.scope scope own = true) (hs : notSet iter = true)
    (hi : PIx Y k X W tgt iter it) (hT : okT X.N (fun x => scope.names.lookup x == some .cell) tg (relS scope X.env.scope) tgt = true) (hsl : (tg.slots.all fun i => (own.map (·.2)).contains i) = true)
    (hc : ∀ (s : Shared) (H : Hp) (C : Addr) (cl : List (Str × Addr)) (fp : List Addr), PCx Y k (X.blk s H scope (compEnvC scope cl C X.env) fp) Wno ifs cond)
    (he : ∀ (s : Shared) (H : Hp) (C : Addr) (cl : List (Str × Addr)) (fp : List Addr), PEx Y k (X.blk s H scope (compEnvC scope cl C X.env) fp) Wno elt x) :
    PEx Y k X W (.ListComp elt [⟨tgt, iter, ifs, 0⟩] scope pos) (.lc m own tg it cond x) := by
  exact (pe_lc (own := own) (g := gT X.K tg) (tt := tXt X.K Y.M Wno (evalC (Y.Γ k) Y.T cond)) (te := tX X.K Y.M Wno (evalE (Y.Γ k) Y.T x)) ok.calm ok.nd hi (blkOk_by hb) (fun s H C cl fp => sndT (X := X.blk s H scope (compEnvC scope cl C X.env) fp) (fun _ h => h) ok.calm ok.nd tg tgt hT) hc he (folded_no hs _)).imp fun σ H Q z => lc_reads ok hb hT hsl z
/-! ### comprehensions with two fors -/
noncomputable def lc2Turn (Γ : Gam) (T : Tab) (tg : Tg) (cond : Oe) (vs : List Nat) (tg1 : Tg) (it1 : Itr) (cond1 : Oe) (e : Ex) (vs1 : List Nat) (env : En) (x : D) (S : Sto) (acc : List D) : Option (Ro (List D)) := match asgT tg x (wipeE env vs) with
  | some env1 => bnd (evalC Γ T cond env1 S) fun b S2 => match b with
    | true => bnd (evalI Γ T it1 env1 S2) fun ys S3 => if acc.length + ys.length ≤ sizeLine then lcLoop (lcTurn Γ T tg1 cond1 e vs1 env1) ys S3 acc else none
    | false => some (.ok acc S2)
  | none => none
theorem lcLoop2_cons {turn : D → Sto → List D → Option (Ro (List D))} {x : D} {xs : List D} {S : Sto} {acc : List D} (h : ∃ ys S', lcLoop2 turn (x :: xs) S acc = some (.ok ys S')) :
    ∃ a S1, turn x S acc = some (.ok a S1) ∧ lcLoop2 turn (x :: xs) S acc = lcLoop2 turn xs S1 a := by
  obtain ⟨ys, S', h⟩ := h
  rw [lcLoop2] at h ⊢
  cases e : turn x S acc with
  | none => rw [e] at h; cases h
  | some z =>
    rw [e] at h
    cases z with
    | ex c S => cases h
    | ok a S1 => exact ⟨a, S1, rfl, rfl⟩
theorem lcLoop2_noex {turn : D → Sto → List D → Option (Ro (List D))} : ∀ (xs : List D) (S : Sto) (acc : List D) (c : Nat) (S' : Sto), lcLoop2 turn xs S acc ≠ some (.ex c S')
  | [], _, _, _, _ => fun h => by rw [lcLoop2] at h; cases h
  | x :: xs, S, acc, c, S' => fun h => by
    rw [lcLoop2] at h
    split at h
    · exact lcLoop2_noex xs _ _ c S' h
    · cases h
theorem wipe_turn {σ σ2 : L2.St} {vs : List Nat} {sl : List Nat} (hsl : (sl.all fun i => vs.contains i) = true) (l2 : σ2.length = (wipe σ vs).length) (f2 : ∀ j, j ∉ sl → σ2[j]? = (wipe σ vs)[j]?) : wipe σ2 vs = wipe σ vs := by
  have : wipe σ2 vs = wipe (wipe σ vs) vs := wipe_idem _ l2 fun j hj => f2 j fun hm => by
    have := List.all_eq_true.mp hsl j hm
    exact hj (by simpa using this)
  rw [this]
  exact wipe_idem _ (wipe_length _ _) fun j hj => wipe_out hj
theorem lc2_reads (ok : XOk Y k X W) {scope : Scope} {own : List (Str × Nat)} {m : Bool} {tg tg1 : Tg} {it it1 : Itr} {cond cond1 : Oe} {x : Ex} {tgt tgt1 : Expr} {vs1 : List Nat} {σ : L2.St} {H : Hp} {Q : VK}
    (hsl : (tg.slots.all fun i => (own.map (·.2)).contains i) = true) (hsl1 : (tg1.slots.all fun i => vs1.contains i) = true)
    (z : tX X.K Y.M W (evalE (Y.Γ k) Y.T (.lc2 m own tg it cond vs1 tg1 it1 cond1 x)) σ H Q) :
    tLc2 (tG X.K Y.M W (rW X.K Y.M) (evalI (Y.Γ k) Y.T it)) (gT X.K tg) (tXt X.K Y.M Wno (evalC (Y.Γ k) Y.T cond)) (tG X.K Y.M Wno (rW X.K Y.M) (evalI (Y.Γ k) Y.T it1)) (gT X.K tg1) (tXt X.K Y.M Wno (evalC (Y.Γ k) Y.T cond1)) (tX X.K Y.M Wno (evalE (Y.Γ k) Y.T x)) (own.map (·.2)) vs1 σ H Q := by
  have ze : tX X.K Y.M W (evalE (Y.Γ k) Y.T (.lc2 m own tg it cond vs1 tg1 it1 cond1 x)) σ H Q = tG X.K Y.M W (rD X.K Y.M) (fun env S => bnd (evalI (Y.Γ k) Y.T it env S) fun xs S1 => bnd (lcLoop2 (lc2Turn (Y.Γ k) Y.T tg cond (own.map (·.2)) tg1 it1 cond1 x vs1 env) xs S1 []) fun ys S2 => mkL m ys S2) σ H Q := by
    rfl
  rw [ze] at z
  refine (tG_bind (Ra := rW X.K Y.M) z).imp ?_
  rintro J H1 ⟨G, Φ, μ, S, env, xs, r, er, wk, res⟩ p hp
  have wk : Walks X.K Y.M J G μ xs := wk
  generalize ht : lc2Turn (Y.Γ k) Y.T tg cond (own.map (·.2)) tg1 it1 cond1 x vs1 env = turn at res
  have tot : ∃ ys S', lcLoop2 turn xs S [] = some (.ok ys S') := by
    cases e : lcLoop2 turn xs S [] with
    | none => rw [e] at res; exact res.elim
    | some z =>
      cases z with
      | ok ys S' => exact ⟨ys, S', rfl⟩
      | ex c S' => exact absurd e (lcLoop2_noex xs S [] c S')
  have hg := r.gnew hp
  have hf := r.fnew hp
  refine ⟨fun i m' H => m' = xs.length - i ∧ i ≤ xs.length ∧ ∃ G' μ' S' acc accV, Gr Φ G μ G' μ' ∧ G' p = none ∧ Rel X.K Y.M G' (upd Φ p (.lst accV)) μ' S' H ∧ RDs X.K Y.M G' μ' acc accV ∧ lcLoop2 turn (xs.drop i) S' acc = lcLoop2 turn xs S [],
    ⟨xs.length, by omega, by omega, G, μ, S, [], [], .refl, hg, r.frame hp, .nil, rfl⟩, ?_⟩
  rintro i m' H2 ⟨rfl, hle, G', μ', S', acc, accV, g', hg', r', qa, hlo⟩
  obtain ⟨w1, w2, w3⟩ := wk G' (upd Φ p (.lst accV)) μ' S' H2 g'.g g'.m r' i
  by_cases hi : i < xs.length
  · refine .inr ⟨w1 hi, fun H' => ∃ m'', m'' < xs.length - i ∧ _, fun H' h => h, ?_⟩
    intro v H3 hy
    have hd : xs[i]? = some xs[i] := List.getElem?_eq_getElem hi
    obtain ⟨G2, g2, r2, q2⟩ := w3 _ v H3 hd hy
    have hdrop : xs.drop i = xs[i] :: xs.drop (i + 1) := (List.drop_eq_getElem_cons hi)
    rw [hdrop] at hlo
    have tot' : ∃ ys S'', lcLoop2 turn (xs[i] :: xs.drop (i + 1)) S' acc = some (.ok ys S'') := by rw [hlo]; exact tot
    obtain ⟨a, S9, hst, hl9⟩ := lcLoop2_cons tot'
    rw [← ht] at hst
    unfold lc2Turn at hst
    cases ha : asgT tg xs[i] (wipeE env (own.map (·.2))) with
    | none => rw [ha] at hst; cases hst
    | some env1 =>
      rw [ha] at hst
      dsimp only at hst
      refine gT_ok r2 tg _ v _ env1 _ _ q2 (wipeE_rel ((er.grow g').grow g2) _) ha fun σ2 e2 l2 f2 => ⟨wipe_turn hsl l2 f2, ?_⟩
      refine ⟨G2, upd Φ p (.lst accV), μ', S', env1, r2, e2, ?_⟩
      cases hcv : evalC (Y.Γ k) Y.T cond env1 S' with
      | none => rw [hcv] at hst; cases hst
      | some z1 =>
        cases z1 with
        | ex c S1 => rw [hcv] at hst; cases hst
        | ok b S1 =>
          intro G3 μ3 H4 b' g3 r3 hbb
          have hbb : b = b' := hbb
          subst hbb
          rw [hcv, bnd_ok] at hst
          cases b with
          | false =>
            rw [if_neg (by decide)]
            cases hst
            refine ⟨xs.length - (i + 1), by omega, rfl, by omega, G3, μ3, _, _, accV, (g'.trans g2.of_upd).trans g3.of_upd, g3.gnone (g2.gnone hg'), r3, (qa.up g2).up g3, ?_⟩
            rw [← hl9]; exact hlo
          | true =>
            rw [if_pos rfl]
            dsimp only at hst
            refine ⟨G3, upd Φ p (.lst accV), μ3, S1, env1, r3, e2.grow g3, ?_⟩
            cases hev : evalI (Y.Γ k) Y.T it1 env1 S1 with
            | none => rw [hev] at hst; cases hst
            | some z2 =>
              cases z2 with
              | ex c S2 => rw [hev] at hst; cases hst
              | ok ys S2 =>
                intro G4 μ4 H5 J1 g4 r4 wk1
                have wk1 : Walks X.K Y.M J1 G4 μ4 ys := wk1
                rw [hev, bnd_ok] at hst
                split at hst
                · rename_i hz
                  have gA : Gr Φ G μ G4 μ4 := ((g'.trans g2.of_upd).trans g3.of_upd).trans g4.of_upd
                  have hg4 : G4 p = none := g4.gnone (g3.gnone (g2.gnone hg'))
                  generalize ht1 : lcTurn (Y.Γ k) Y.T tg1 cond1 x vs1 env1 = turn1 at hst
                  have e4 := (e2.grow g3).grow g4
                  refine ⟨fun j k' H => k' = ys.length - j ∧ j ≤ ys.length ∧ ∃ G5 μ5 S5 acc5 accV5, Gr Φ G4 μ4 G5 μ5 ∧ G5 p = none ∧ Rel X.K Y.M G5 (upd Φ p (.lst accV5)) μ5 S5 H ∧ RDs X.K Y.M G5 μ5 acc5 accV5 ∧ acc5.length ≤ acc.length + j ∧ lcLoop turn1 (ys.drop j) S5 acc5 = lcLoop turn1 ys S2 acc,
                    ⟨ys.length, by omega, by omega, G4, μ4, S2, acc, accV, .refl, hg4, r4, ((qa.up g2).up g3).up g4, by omega, rfl⟩, ?_⟩
                  rintro j k' H6 ⟨rfl, hle5, G5, μ5, S5, acc5, accV5, g5, hg5, r5, qa5, hal5, hlo5⟩
                  obtain ⟨v1, v2, v3⟩ := wk1 G5 (upd Φ p (.lst accV5)) μ5 S5 H6 g5.g g5.m r5 j
                  by_cases hj : j < ys.length
                  · refine .inr ⟨v1 hj, fun H' => ∃ m'', m'' < ys.length - j ∧ _, fun H' h => h, ?_⟩
                    intro u H7 hy7
                    have hd7 : ys[j]? = some ys[j] := List.getElem?_eq_getElem hj
                    obtain ⟨G7, g7, r7, q7⟩ := v3 _ u H7 hd7 hy7
                    have hdrop7 : ys.drop j = ys[j] :: ys.drop (j + 1) := (List.drop_eq_getElem_cons hj)
                    rw [hdrop7] at hlo5
                    have tot7 : ∃ zs S'', lcLoop turn1 (ys[j] :: ys.drop (j + 1)) S5 acc5 = some (.ok zs S'') := by rw [hlo5]; exact ⟨_, _, hst⟩
                    have hst7 := lcLoop_cons tot7
                    have hturn : turn1 ys[j] S5 = lcTurn (Y.Γ k) Y.T tg1 cond1 x vs1 env1 ys[j] S5 := by rw [← ht1]
                    cases ha7 : asgT tg1 ys[j] (wipeE env1 vs1) with
                    | none =>
                      have : turn1 ys[j] S5 = none := by rw [hturn, lcTurn, ha7]
                      rw [this] at hst7
                      rcases hst7 with ⟨_, _, e, _⟩ | ⟨_, e, _⟩ <;> cases e
                    | some env2 =>
                      have hturn2 : turn1 ys[j] S5 = bnd (evalC (Y.Γ k) Y.T cond1 env2 S5) fun b S2 => match b with
                          | true => bnd (evalE (Y.Γ k) Y.T x env2 S2) fun y S3 => some (.ok (some y) S3)
                          | false => some (.ok none S2) := by rw [hturn, lcTurn, ha7]
                      refine gT_ok r7 tg1 _ u _ env2 _ _ q7 (wipeE_rel ((e4.grow g5).grow g7) _) ha7 fun σ3 e3 l3 f3 => ⟨wipe_turn hsl1 l3 f3, ?_⟩
                      refine ⟨G7, upd Φ p (.lst accV5), μ5, S5, env2, r7, e3, ?_⟩
                      cases hcv7 : evalC (Y.Γ k) Y.T cond1 env2 S5 with
                      | none => rw [hturn2, hcv7] at hst7; rcases hst7 with ⟨_, _, e, _⟩ | ⟨_, e, _⟩ <;> cases e
                      | some z7 =>
                        cases z7 with
                        | ex c S1 => rw [hturn2, hcv7] at hst7; rcases hst7 with ⟨_, _, e, _⟩ | ⟨_, e, _⟩ <;> cases e
                        | ok b7 S7 =>
                          intro G8 μ8 H8 b8 g8 r8 hb8
                          have hb8 : b7 = b8 := hb8
                          subst hb8
                          rw [hturn2, hcv7, bnd_ok] at hst7
                          cases b7 with
                          | false =>
                            rw [if_neg (by decide)]
                            rcases hst7 with ⟨_, _, e, _⟩ | ⟨S10, e, hl⟩
                            · cases e
                            · cases e
                              refine ⟨ys.length - (j + 1), by omega, rfl, by omega, G8, μ8, S7, acc5, accV5, (g5.trans g7.of_upd).trans g8.of_upd, g8.gnone (g7.gnone hg5), r8, (qa5.up g7).up g8, by omega, ?_⟩
                              rw [← hl]; exact hlo5
                          | true =>
                            rw [if_pos rfl]
                            refine ⟨G8, upd Φ p (.lst accV5), μ8, S7, env2, r8, e3.grow g8, ?_⟩
                            dsimp only at hst7
                            cases hev7 : evalE (Y.Γ k) Y.T x env2 S7 with
                            | none => rw [hev7] at hst7; rcases hst7 with ⟨_, _, e, _⟩ | ⟨_, e, _⟩ <;> cases e
                            | some z9 =>
                              cases z9 with
                              | ex c S2 => rw [hev7] at hst7; rcases hst7 with ⟨_, _, e, _⟩ | ⟨_, e, _⟩ <;> cases e
                              | ok y S11 =>
                                intro G9 μ9 H9 u9 g9 r9 qu
                                rw [hev7, bnd_ok] at hst7
                                rcases hst7 with ⟨y', S10, e, hl⟩ | ⟨_, e, _⟩
                                · cases e
                                  have hal' : accV5.length = acc5.length := qa5.length.symm
                                  refine ⟨accV5, r9.f _ _ upd_same, by omega, ys.length - (j + 1), by omega, rfl, by omega, G9, μ9, S11, acc5 ++ [y], accV5 ++ [u9], ((g5.trans g7.of_upd).trans g8.of_upd).trans g9.of_upd, g9.gnone (g8.gnone (g7.gnone hg5)), r9.reframe (g9.gnone (g8.gnone (g7.gnone hg5))), (((qa5.up g7).up g8).up g9).append (.cons qu .nil), by simp; omega, ?_⟩
                                  rw [← hl]; exact hlo5
                                · cases e
                  · have hj' : j = ys.length := by omega
                    refine .inl ⟨v2 (by omega), ?_⟩
                    rw [hj', List.drop_length, lcLoop] at hlo5
                    rw [← hlo5] at hst
                    cases hst
                    refine ⟨xs.length - (i + 1), by omega, rfl, by omega, G5, μ5, _, _, accV5, gA.trans g5, hg5, r5, qa5, ?_⟩
                    rw [← hl9]; exact hlo
                · cases hst
  · have hi' : i = xs.length := by omega
    refine .inl ⟨w2 (by omega), ?_⟩
    rw [hi', List.drop_length, lcLoop2] at hlo
    rw [← hlo, bnd_ok] at res
    cases m with
    | false =>
      obtain ⟨r3, g3⟩ := r'.toStill hg' hf
      exact res _ _ _ _ (g'.trans g3) r3 (.lst upd_same (qa.up g3))
    | true =>
      obtain ⟨r3, g3⟩ := r'.toStore (ob := .lst acc) hg' hf ⟨accV, r'.f _ _ upd_same, qa.up (Gr.mk (fun _ _ h => h) (fun _ _ h => h) (fun n a e => by
        unfold muAdd; rw [if_neg (fun z => by have := r'.ub n a e; omega)]; exact e) : Gr Φ G' μ' G' (muAdd μ' S'.length p))⟩
      exact res _ _ _ _ (g'.trans g3) r3 (.ref (by unfold muAdd; rw [if_pos rfl]))
theorem s_lc2 (ok : XOk Y k X W) {elt tgt iter tgt1 iter1 : Expr} {ifs ifs1 : List Expr} {scope : Scope} {own : List (Str × Nat)} {m : Bool} {tg tg1 : Tg} {it it1 : Itr} {cond cond1 : Oe} {x : Ex} {vs1 : List Nat} (hb : blkC X.N X.env.scope scope own = true) (hs : notSet iter = true) (hs1 : notSet iter1 = true)
    (hi : PIx Y k X W tgt iter it) (hT : okT X.N (fun x => scope.names.lookup x == some .cell) tg (relS scope X.env.scope) tgt = true) (hsl : (tg.slots.all fun i => (own.map (·.2)).contains i) = true)
    (hT1 : okT X.N (fun x => scope.names.lookup x == some .cell) tg1 (relS scope X.env.scope) tgt1 = true) (hsl1 : (tg1.slots.all fun i => vs1.contains i) = true) (hv : (vs1.all fun i => (own.map (·.2)).contains i) = true)
    (hc : ∀ (s : Shared) (H : Hp) (C : Addr) (cl : List (Str × Addr)) (fp : List Addr), PCx Y k (X.blk s H scope (compEnvC scope cl C X.env) fp) Wno ifs cond)
    (hi1 : ∀ (s : Shared) (H : Hp) (C : Addr) (cl : List (Str × Addr)) (fp : List Addr), PIx Y k (X.blk s H scope (compEnvC scope cl C X.env) fp) Wno tgt1 iter1 it1)
    (hc1 : ∀ (s : Shared) (H : Hp) (C : Addr) (cl : List (Str × Addr)) (fp : List Addr), PCx Y k (X.blk s H scope (compEnvC scope cl C X.env) fp) Wno ifs1 cond1)
    (he : ∀ (s : Shared) (H : Hp) (C : Addr) (cl : List (Str × Addr)) (fp : List Addr), PEx Y k (X.blk s H scope (compEnvC scope cl C X.env) fp) Wno elt x) :
    PEx Y k X W (.ListComp elt [⟨tgt, iter, ifs, 0⟩, ⟨tgt1, iter1, ifs1, 0⟩] scope pos) (.lc2 m own tg it cond vs1 tg1 it1 cond1 x) := by
  exact (pe_lc2 (own := own) (vs1 := vs1) (g := gT X.K tg) (g1 := gT X.K tg1) (tt := tXt X.K Y.M Wno (evalC (Y.Γ k) Y.T cond)) (tt1 := tXt X.K Y.M Wno (evalC (Y.Γ k) Y.T cond1)) (te := tX X.K Y.M Wno (evalE (Y.Γ k) Y.T x)) ok.calm ok.nd hi (blkOk_by hb)
    (fun i hm => by have := List.all_eq_true.mp hv i hm; simpa using this)
    (fun s H C cl fp => sndT (X := X.blk s H scope (compEnvC scope cl C X.env) fp) (fun _ h => h) ok.calm ok.nd tg tgt hT) hc hi1
    (fun s H C cl fp => sndT (X := X.blk s H scope (compEnvC scope cl C X.env) fp) (fun _ h => h) ok.calm ok.nd tg1 tgt1 hT1) hc1 he (folded_no hs _) (fun env => folded_no hs1 env)).imp fun σ H Q z => lc2_reads (tgt := tgt) (tgt1 := tgt1) (scope := scope) ok hsl hsl1 z
/-! ### what is walked -/
theorem i_of {tg e : Expr} {x : Ex} (h : PEx Y k X W e x) : PIx Y k X W tg e (.of x) := by
  refine (((pi_tup (tg := tg) h).or (pi_list h)).or (pi_str h)).imp fun σ H R z => ?_
  simp only [evalI] at z
  obtain ⟨G, Φ, μ, S, env, r, er, res⟩ := z
  dsimp only at res
  cases e : evalE (Y.Γ k) Y.T x env S with
  | none => rw [e] at res; exact res.elim
  | some w =>
    cases w with
    | ex c S1 =>
      refine .inl (.inl ⟨G, Φ, μ, S, env, r, er, ?_⟩)
      rw [e] at res ⊢
      exact res
    | ok d S1 =>
      rw [e, bnd_ok] at res
      cases d with
      | tup xs =>
        refine .inl (.inl ⟨G, Φ, μ, S, env, r, er, ?_⟩)
        rw [e]
        intro G' μ' H' v g r1 q
        cases q with
        | tup h1 q => exact ⟨_, rfl, ⟨_, SqT.of (r1.g _ _ h1).tup⟩, res _ _ _ _ g r1 (walks_tup h1 q)⟩
      | lst xs =>
        refine .inl (.inr ⟨G, Φ, μ, S, env, r, er, ?_⟩)
        rw [e]
        intro G' μ' H' v g r1 q
        cases q with
        | lst h1 q => exact ⟨_, rfl, ⟨_, SqL.of (r1.g _ _ h1).lst⟩, res _ _ _ _ g r1 (walks_lst h1 q)⟩
      | str z =>
        refine .inr ⟨G, Φ, μ, S, env, r, er, ?_⟩
        rw [e]
        intro G' μ' H' v g r1 q
        cases q
        exact ⟨_, rfl, res _ _ _ _ g r1 (walks_str z)⟩
      | _ => exact res.elim
theorem i_rng1 (ok : XOk Y k X W) {tg a : Expr} {pn : Pos} {xa : Ex} (hg : glB X.env.scope "range" = true) (hs : noStar a = true) (h : PEx Y k X W a xa) : PIx Y k X W tg (.Call (.Name "range" pn) [a] [] pos) (.rng1 xa) := by
  refine (pi_range1 (tg := tg) (glB_ok hg) (ok.facts.free _ (by decide)) (pa_cons h pa_nil (starEach_no hs _ _)) (starEach_no hs _ _)).imp fun σ H R z => ?_
  simp only [evalI] at z
  refine (tG_bind (Ra := rD X.K Y.M) z).imp ?_
  rintro v H1 ⟨G, Φ, μ, S, env, d, r, er, ra, res⟩
  cases ra <;> first | exact res.elim | skip
  rename_i j
  dsimp only at res
  cases e : rngD 0 j with
  | none => rw [e] at res; exact res.elim
  | some xs =>
    rw [e] at res
    obtain ⟨c, wk⟩ := walks_rng (K := X.K) (M := Y.M) (G := G) (μ := μ) e
    refine ⟨j, rfl, c.2.2.1, c.2.2.2, ?_⟩
    have wk' : Walks X.K Y.M (L2.Itr 0 j.toNat) G μ xs := by rw [show j.toNat = (j - 0).toNat by omega]; exact wk
    exact res.now r wk'
theorem i_rng2 (ok : XOk Y k X W) {tg a b : Expr} {pn : Pos} {xa xb : Ex} (hg : glB X.env.scope "range" = true) (hs : noStar a = true) (hs2 : noStar b = true) (h : PEx Y k X W a xa) (h2 : PEx Y k X W b xb) :
    PIx Y k X W tg (.Call (.Name "range" pn) [a, b] [] pos) (.rng2 xa xb) := by
  refine (pi_range2 (tg := tg) (glB_ok hg) (ok.facts.free _ (by decide)) (pa_cons h (pa_cons h2 pa_nil (starEach_no hs2 _ _)) (starEach_no hs _ _)) (by rw [starEach_no hs, starEach_no hs2]; rfl) (by rw [starEach_no hs2]; rfl)).imp fun σ H R z => ?_
  simp only [evalI] at z
  refine (tG_bind (Ra := rD X.K Y.M) z).imp ?_
  rintro v H1 ⟨G, Φ, μ, S, env, d, r, er, ra, res⟩
  refine (tG_go (Ra := rD X.K Y.M) r er res).imp ?_
  rintro u H2 ⟨G1, μ1, S1, d2, gr, r1, rb, res1⟩
  cases ra <;> cases rb <;> first | exact res1.elim | skip
  rename_i i j
  dsimp only at res1
  cases e : rngD i j with
  | none => rw [e] at res1; exact res1.elim
  | some xs =>
    rw [e] at res1
    obtain ⟨c, wk⟩ := walks_rng (K := X.K) (M := Y.M) (G := G1) (μ := μ1) e
    exact ⟨i, j, rfl, c, res1.now r1 wk⟩
theorem i_enum (ok : XOk Y k X W) {tg a : Expr} {pn : Pos} {xa : Ex} (ht : isTupE tg = true) (hg : glB X.env.scope "enumerate" = true) (hs : noStar a = true) (h : PEx Y k X W a xa) : PIx Y k X W tg (.Call (.Name "enumerate" pn) [a] [] pos) (.enum xa) := by
  cases tg <;> first | cases ht | skip
  have hf := ok.facts.free "enumerate" (by decide)
  refine ((pi_enumT (glB_ok hg) hf (pa_cons h pa_nil (starEach_no hs _ _)) (starEach_no hs _ _)).or (pi_enum (glB_ok hg) hf (pa_cons h pa_nil (starEach_no hs _ _)) (starEach_no hs _ _))).imp fun σ H R z => ?_
  simp only [evalI] at z
  obtain ⟨G, Φ, μ, S, env, r, er, res⟩ := z
  dsimp only at res
  cases e : evalE (Y.Γ k) Y.T xa env S with
  | none => rw [e] at res; exact res.elim
  | some w =>
    cases w with
    | ex c S1 =>
      refine .inl ⟨G, Φ, μ, S, env, r, er, ?_⟩
      rw [e] at res ⊢
      exact res
    | ok d S1 =>
      rw [e, bnd_ok] at res
      cases d with
      | tup xs =>
        refine .inl ⟨G, Φ, μ, S, env, r, er, ?_⟩
        rw [e]
        intro G' μ' H' v g r1 q
        cases q with
        | tup h1 q => exact ⟨_, _, rfl, SqT.of (r1.g _ _ h1).tup, res _ _ _ _ g r1 (walks_ent h1 q)⟩
      | lst xs =>
        refine .inr ⟨G, Φ, μ, S, env, r, er, ?_⟩
        rw [e]
        intro G' μ' H' v g r1 q
        cases q with
        | lst h1 q => exact ⟨_, _, rfl, SqL.of (r1.g _ _ h1).lst, res _ _ _ _ g r1 (walks_enl h1 q)⟩
      | _ => exact res.elim
/-! ### lists of arguments -/
theorem a_nil : PAx Y k X W [] .nil := pa_nil.imp fun σ H Q z => by
  obtain ⟨G, Φ, μ, S, env, r, er, res⟩ := z
  rw [evalEs] at res
  exact res.now r .nil
theorem a_cons {e : Expr} {es : List Expr} {x : Ex} {xs : Exs} (hs : noStar e = true) (h : PEx Y k X W e x) (h2 : PAx Y k X W es xs) : PAx Y k X W (e :: es) (.cons x xs) :=
  (pa_cons h h2 (starEach_no hs _ _)).imp fun σ H Q z => by
    simp only [tXs, evalEs] at z
    refine (tG_bind (Ra := rD X.K Y.M) z).imp ?_
    rintro v H1 ⟨G, Φ, μ, S, env, d, r, er, ra, res⟩
    refine (tG_go (Ra := rDs X.K Y.M) r er res).imp ?_
    rintro u H2 ⟨G1, μ1, S1, d2, gr, r1, rb, res1⟩
    exact res1.now r1 (.cons (RD.up ra gr) rb)
theorem _root_.L2.PO.imp {X : Cx} {e : Option Expr} {t t' : TO} (h : PO X e t) (f : ∀ σ H Q, t' σ H Q → t σ H Q) : PO X e t' := ⟨fun pins s σ H Q I q => h.run pins s σ H Q I (f σ H Q q)⟩
theorem _root_.L2.PTs.imp {X : Cx} {e : List Expr} {t t' : TT} (h : PTs X e t) (f : ∀ σ H Q, t' σ H Q → t σ H Q) : PTs X e t' := ⟨fun pins s σ H Q I q => h.run pins s σ H Q I (f σ H Q q)⟩
theorem o_no : POx Y k X W none .no := po_none.imp fun σ H Q z => by
  obtain ⟨G, Φ, μ, S, env, r, er, res⟩ := z
  rw [evalO] at res
  exact res.now r rfl
theorem o_so {e : Expr} {x : Ex} (h : PEx Y k X W e x) : POx Y k X W (some e) (.so x) := (po_some h).imp fun σ H Q z => by
  simp only [evalO] at z
  refine (tG_bind (Ra := rD X.K Y.M) z).imp ?_
  rintro v H1 ⟨G, Φ, μ, S, env, d, r, er, ra, res⟩
  cases ra <;> first | exact res.elim | skip
  exact ⟨_, rfl, res.now r rfl⟩
theorem c_no : PCx Y k X W [] .no := pts_nil.imp fun σ H Q z => by
  obtain ⟨G, Φ, μ, S, env, r, er, res⟩ := z
  rw [evalC] at res
  exact res.now r rfl
theorem c_so {e : Expr} {x : Ex} (h : PTx Y k X W e x) : PCx Y k X W [e] (.so x) := (pts_one h).imp fun σ H Q z => by
  simp only [tXt, evalC] at z
  exact z
end
theorem me_facts : ∀ b : ME, meB b = true → PlainAttrs b.T ∧ Slot b.T b.x b.id ∧ typeOf (.builtin b.id) = pure (.type "method_descriptor")
  | .append, _ => ⟨PySem.F.plainAttrs_list, PySem.F.slot_list_append, PySem.F.type_list_append⟩
  | .startswith, _ => ⟨PySem.F.plainAttrs_str, PySem.F.slot_str_startswith, PySem.F.type_str_startswith⟩
  | .pop, _ => ⟨PySem.F.plainAttrs_list, PySem.F.slot_list_pop, PySem.F.type_list_pop⟩
  | .extend, _ => ⟨PySem.F.plainAttrs_list, PySem.F.slot_list_extend, PySem.F.type_list_extend⟩
  | .find, _ => ⟨PySem.F.plainAttrs_str, PySem.F.slot_str_find, PySem.F.type_str_find⟩
  | .join, _ => ⟨PySem.F.plainAttrs_str, PySem.F.slot_str_join, PySem.F.type_str_join⟩
  | .get, _ => ⟨PySem.F.plainAttrs_dict, PySem.F.slot_dict_get, PySem.F.type_dict_get⟩
  | .index, _ => ⟨PySem.F.plainAttrs_str, PySem.F.slot_str_index, PySem.F.type_str_index⟩
  | .count, _ => ⟨PySem.F.plainAttrs_list, PySem.F.slot_list_count, PySem.F.type_list_count⟩
theorem mf_facts : ∀ b : MF, PlainAttrs b.T ∧ Slot b.T b.x b.id ∧ typeOf (.builtin b.id) = pure (.type "method_descriptor")
  | .split => ⟨PySem.F.plainAttrs_str, PySem.F.slot_str_split, PySem.F.type_str_split⟩
mutual
theorem sndE (Y : Sys) (k : Nat) : ∀ (x : Ex) (X : Cx) (W : WX) (e : Expr), XOk Y k X W → okE Y.toTxt X.N x X.env.scope e = true → PEx Y k X W e x ∧ PTx Y k X W e x
  | .c q, X, W, e, ok, h => by
    cases e with
    | Constant c j pos =>
      simp only [okE] at h
      exact ⟨s_c h, t_of (s_c h) (fun _ => by rw [PySem.isTrue] <;> simp) fun env S => by rw [evalT, evalE]; rfl⟩
    | _ => simp [okE] at h
  | .v i, X, W, e, ok, h => by
    cases e with
    | Name x pos =>
      simp only [okE, Bool.and_eq_true, decide_eq_true_eq] at h
      refine ⟨s_v h.1.1 h.1.2 h.2, t_of (s_v h.1.1 h.1.2 h.2) (fun _ => by rw [PySem.isTrue] <;> simp) fun env S => ?_⟩
      rw [evalT, evalE]
      split <;> rfl
    | _ => simp [okE] at h
  | .g n, X, W, e, ok, h => by
    cases e with
    | Name x pos =>
      simp only [okE, Bool.and_eq_true, decide_eq_true_eq] at h
      exact ⟨s_g ok h.1.1 h.1.2 h.2, t_none fun env S => by simp [evalT]⟩
    | _ => simp [okE] at h
  | .bin o m a b, X, W, e, ok, h => by
    cases e with
    | BinOp l op r pos =>
      simp only [okE, Bool.and_eq_true, decide_eq_true_eq] at h
      obtain ⟨⟨rfl, h1⟩, h2⟩ := h
      exact ⟨s_bin (sndE Y k a X W l ok h1).1 (sndE Y k b X W r ok h2).1, t_none fun env S => by simp [evalT]⟩
    | _ => simp [okE] at h
  | .neg a, X, W, e, ok, h => by
    cases e with
    | UnaryOp op l pos =>
      cases op with
      | USub =>
        simp only [okE] at h
        exact ⟨s_neg (sndE Y k a X W l ok h).1, t_none fun env S => by simp [evalT]⟩
      | _ => simp [okE] at h
    | _ => simp [okE] at h
  | .cmp o a b, X, W, e, ok, h => by
    unfold okE at h
    split at h
    · simp only [Bool.and_eq_true, decide_eq_true_eq] at h
      obtain ⟨⟨⟨rfl, h1⟩, h2⟩, h3⟩ := h
      exact ⟨s_cmp ok (sndE Y k a X W _ ok h1).1 (sndE Y k b X W _ ok h2).1 h3, t_cmp ok (sndE Y k a X W _ ok h1).1 (sndE Y k b X W _ ok h2).1 h3⟩
    · cases h
  | .not a, X, W, e, ok, h => by
    cases e with
    | UnaryOp op l pos =>
      cases op with
      | Not =>
        simp only [okE] at h
        exact ⟨s_not (sndE Y k a X W l ok h).1, t_not (sndE Y k a X W l ok h).2⟩
      | _ => simp [okE] at h
    | _ => simp [okE] at h
  | .and a b, X, W, e, ok, h => by
    unfold okE at h
    split at h
    · rw [Bool.and_eq_true] at h
      obtain ⟨h1, h2⟩ := h
      obtain ⟨a1, a2⟩ := sndE Y k a X W _ ok h1
      obtain ⟨b1, b2⟩ := sndE Y k b X W _ ok h2
      exact ⟨s_and a1 (pe_one b1), t_and a2 (pw_and1 b2)⟩
    · rw [Bool.and_eq_true] at h
      obtain ⟨h1, h2⟩ := h
      obtain ⟨a1, a2⟩ := sndE Y k a X W _ ok h1
      obtain ⟨b1, b2⟩ := sndE Y k b X W _ ok h2
      exact ⟨s_and a1 b1, t_and a2 (PW.of_pt b2)⟩
    · cases h
  | .or a b, X, W, e, ok, h => by
    unfold okE at h
    split at h
    · rw [Bool.and_eq_true] at h
      obtain ⟨h1, h2⟩ := h
      obtain ⟨a1, a2⟩ := sndE Y k a X W _ ok h1
      obtain ⟨b1, b2⟩ := sndE Y k b X W _ ok h2
      exact ⟨s_or a1 (pe_one b1), t_or a2 (pw_or1 b2)⟩
    · rw [Bool.and_eq_true] at h
      obtain ⟨h1, h2⟩ := h
      obtain ⟨a1, a2⟩ := sndE Y k a X W _ ok h1
      obtain ⟨b1, b2⟩ := sndE Y k b X W _ ok h2
      exact ⟨s_or a1 b1, t_or a2 (PW.of_pt b2)⟩
    · cases h
  | .ite t a b, X, W, e, ok, h => by
    cases e with
    | IfExp c l r pos =>
      simp only [okE, Bool.and_eq_true] at h
      exact ⟨s_ite (sndE Y k t X W _ ok h.1.1).2 (sndE Y k a X W _ ok h.1.2).1 (sndE Y k b X W _ ok h.2).1, t_none fun env S => by simp [evalT]⟩
    | _ => simp [okE] at h
  | .tup es, X, W, e, ok, h => by
    cases e with
    | Tuple xs j pos =>
      simp only [okE] at h
      exact ⟨s_tup (sndEs Y k es X W xs ok h), t_none fun env S => by simp [evalT]⟩
    | _ => simp [okE] at h
  | .lst m es, X, W, e, ok, h => by
    cases e with
    | List xs pos =>
      simp only [okE] at h
      exact ⟨s_lst (sndEs Y k es X W xs ok h), t_none fun env S => by simp [evalT]⟩
    | _ => simp [okE] at h
  | .dct m t ks vs, X, W, e, ok, h => by
    cases e with
    | Dict keys values pos =>
      simp only [okE, Bool.and_eq_true] at h
      exact ⟨s_dct h.1 h.2.1 h.2.2, t_none fun env S => by simp [evalT]⟩
    | _ => simp [okE] at h
  | .ix a i, X, W, e, ok, h => by
    cases e with
    | Subscript l r pos =>
      simp only [okE, Bool.and_eq_true] at h
      have s := s_ix ok (pos := pos) (sndE Y k a X W l ok h.1.1).1 (sndE Y k i X W r ok h.1.2).1 h.2
      exact ⟨s, t_of s (fun _ => by rw [PySem.isTrue] <;> simp) fun env S => by rw [evalT, evalE]⟩
    | _ => simp [okE] at h
  | .sl m a lo hi, X, W, e, ok, h => by
    unfold okE at h
    split at h
    · simp only [Bool.and_eq_true] at h
      exact ⟨s_sl (sndE Y k a X W _ ok h.1.1).1 (sndO Y k lo X W _ ok h.1.2) (sndO Y k hi X W _ ok h.2), t_none fun env S => by simp [evalT]⟩
    · cases h
  | .call f p es, X, W, e, ok, h => by
    unfold okE at h
    split at h
    · rename_i x pn y ys pos
      simp only [Bool.and_eq_true] at h
      obtain ⟨⟨⟨h1, h2⟩, h3⟩, h4⟩ := h
      split at h1
      · rename_i fn hf
        simp only [Bool.and_eq_true, decide_eq_true_eq, Bool.not_eq_true', beq_eq_false_iff_ne] at h1
        have s := s_call (pos := pos) (pn := pn) (p := p) ok hf h1.1 h1.2 h2 h3 (okEs_no es _ h4) (sndEs Y k es X W _ ok h4)
        exact ⟨s, t_of s (fun _ => by rw [PySem.isTrue] <;> simp) fun env S => by rw [evalT, evalE]⟩
      · cases h1
    · cases h
  | .bi b es, X, W, e, ok, h => by
    unfold okE at h
    split at h
    · rename_i x pn y ys pos
      simp only [Bool.and_eq_true, decide_eq_true_eq] at h
      obtain ⟨⟨rfl, h2⟩, h4⟩ := h
      have s := s_bi (pos := pos) (pn := pn) ok h2 (okEs_no es _ h4) (sndEs Y k es X W _ ok h4)
      exact ⟨s, t_of s (fun _ => by rw [PySem.isTrue] <;> simp) fun env S => by rw [evalT, evalE]⟩
    · cases h
  | .bf b m es, X, W, e, ok, h => by
    unfold okE at h
    split at h
    · rename_i x pn y ys pos
      simp only [Bool.and_eq_true, decide_eq_true_eq] at h
      obtain ⟨⟨rfl, h2⟩, h4⟩ := h
      exact ⟨s_bf (pos := pos) (pn := pn) ok h2 (okEs_no es _ h4) (sndEs Y k es X W _ ok h4), t_none fun env S => by simp [evalT]⟩
    · cases h
  | .me b o es, X, W, e, ok, h => by
    unfold okE at h
    split at h
    · rename_i l x apos y ys cpos
      simp only [Bool.and_eq_true, decide_eq_true_eq] at h
      obtain ⟨⟨⟨⟨⟨⟨h1, rfl⟩, h2⟩, h3⟩, h4⟩, h5⟩, h6⟩ := h
      obtain ⟨f1, f2, f3⟩ := me_facts b h1
      have s := s_me ok (apos := apos) (cpos := cpos) h2 h3 h4 (okEs_no es _ h6) f1 f2 f3 (sndE Y k o X W l ok h5).1 (sndEs Y k es X W _ ok h6)
      exact ⟨s, t_of s (fun _ => by rw [PySem.isTrue] <;> simp) fun env S => by rw [evalT, evalE]⟩
    · cases h
  | .mf b m o es, X, W, e, ok, h => by
    unfold okE at h
    split at h
    · rename_i l x apos y ys cpos
      simp only [Bool.and_eq_true, decide_eq_true_eq] at h
      obtain ⟨⟨⟨⟨⟨rfl, h2⟩, h3⟩, h4⟩, h5⟩, h6⟩ := h
      obtain ⟨f1, f2, f3⟩ := mf_facts b
      exact ⟨s_mf ok (apos := apos) (cpos := cpos) h2 h3 h4 (okEs_no es _ h6) f1 f2 f3 (sndE Y k o X W l ok h5).1 (sndEs Y k es X W _ ok h6), t_none fun env S => by simp [evalT]⟩
    · cases h
  | .lens a, X, W, e, ok, h => by
    unfold okE at h
    split at h
    · simp only [Bool.and_eq_true, decide_eq_true_eq] at h
      obtain ⟨⟨⟨⟨⟨rfl, h2⟩, rfl⟩, h4⟩, h5⟩, h6⟩ := h
      exact ⟨s_lens ok h2 h4 h5 (sndE Y k a X W _ ok h6).1, t_none fun env S => by simp [evalT]⟩
    · cases h
  | .isi a t, X, W, e, ok, h => by
    unfold okE at h
    split at h
    · simp only [Bool.and_eq_true, decide_eq_true_eq] at h
      obtain ⟨⟨⟨⟨⟨rfl, h2⟩, rfl⟩, h4⟩, h5⟩, h6⟩ := h
      refine ⟨s_isi ok h2 h4 h5 (sndE Y k a X W _ ok h6).1, t_of (s_isi ok h2 h4 h5 (sndE Y k a X W _ ok h6).1) (fun _ => by rw [PySem.isTrue] <;> simp) fun env S => ?_⟩
      rw [evalT, evalE]
      cases evalE (Y.Γ k) Y.T a env S with
      | none => rfl
      | some z =>
        cases z with
        | ex c S1 => rfl
        | ok d S1 =>
          simp only [bnd_ok]
          cases isiD S1 d t <;> rfl
    · cases h
  | .att c o f, X, W, e, ok, h => by
    unfold okE at h
    split at h
    · rename_i l x pos
      simp only [Bool.and_eq_true, decide_eq_true_eq] at h
      obtain ⟨⟨⟨rfl, h2⟩, h3⟩, h4⟩ := h
      have s := s_att ok (pos := pos) h2 h3 (sndE Y k o X W _ ok h4).1
      exact ⟨s, t_of s (fun _ => by rw [PySem.isTrue] <;> simp) fun env S => by rw [evalT, evalE]⟩
    · cases h
  | .mcl c f m p o es, X, W, e, ok, h => by
    unfold okE at h
    split at h
    · rename_i l x apos ys cpos
      simp only [Bool.and_eq_true, decide_eq_true_eq] at h
      obtain ⟨⟨⟨⟨⟨⟨rfl, h2⟩, h3⟩, h4⟩, h5⟩, h6⟩, h7⟩ := h
      have s := s_mcl ok (p := p) (apos := apos) (cpos := cpos) h2 h3 h4 h5 h7 (sndE Y k o X W _ ok h6).1 (sndEs Y k es X W _ ok h7)
      exact ⟨s, t_of s (fun _ => by rw [PySem.isTrue] <;> simp) fun env S => by rw [evalT, evalE]⟩
    · cases h
  | .mk c f m es, X, W, e, ok, h => by
    unfold okE at h
    split at h
    · simp only [Bool.and_eq_true] at h
      obtain ⟨⟨⟨h1, h2⟩, h3⟩, h4⟩ := h
      exact ⟨s_mk ok h1 h2 h3 (okEs_no es _ h4) (sndEs Y k es X W _ ok h4), t_none fun env S => by simp [evalT]⟩
    · cases h
  | .rev m x, X, W, e, ok, h => by
    unfold okE at h
    split at h
    · exact ⟨s_rev (sndE Y k x X W _ ok h).1, t_none fun env S => by simp [evalT]⟩
    · cases h
  | .fze x, X, W, e, ok, h => by
    simp only [okE] at h
    exact ⟨s_fze (sndE Y k x X W e ok h).1, t_none fun env S => by simp [evalT]⟩
  | .lc m own tg it cond x, X, W, e, ok, h => by
    unfold okE at h
    split at h
    · simp only [Bool.and_eq_true] at h
      obtain ⟨⟨⟨⟨⟨⟨h1, h2⟩, h3⟩, h4⟩, h5⟩, h6⟩, h7⟩ := h
      refine ⟨s_lc ok h1 h2 (sndI Y k it X W _ _ ok h3) h4 h5 (fun s H C cl fp => ?_) (fun s H C cl fp => ?_), t_none fun env S => by simp [evalT]⟩
      · exact sndC Y k cond _ Wno _ (ok.blk s H _ _ fp (blkOk_by h1).kind) h6
      · exact (sndE Y k x _ Wno _ (ok.blk s H _ _ fp (blkOk_by h1).kind) h7).1
    · cases h
  | .lc2 m own tg it cond vs tg1 it1 cond1 x, X, W, e, ok, h => by
    unfold okE at h
    split at h
    · simp only [Bool.and_eq_true] at h
      obtain ⟨⟨⟨⟨⟨⟨h1, h2⟩, h3⟩, h4⟩, h5⟩, h6⟩, ⟨⟨⟨⟨⟨h7, h8⟩, h9⟩, h10⟩, h11⟩, h12⟩, h13⟩ := h
      refine ⟨s_lc2 ok h1 h2 h7 (sndI Y k it X W _ _ ok h3) h4 h5 h9 h10 h11 (fun s H C cl fp => ?_) (fun s H C cl fp => ?_) (fun s H C cl fp => ?_) (fun s H C cl fp => ?_), t_none fun env S => by simp [evalT]⟩
      · exact sndC Y k cond _ Wno _ (ok.blk s H _ _ fp (blkOk_by h1).kind) h6
      · exact sndI Y k it1 _ Wno _ _ (ok.blk s H _ _ fp (blkOk_by h1).kind) h8
      · exact sndC Y k cond1 _ Wno _ (ok.blk s H _ _ fp (blkOk_by h1).kind) h12
      · exact (sndE Y k x _ Wno _ (ok.blk s H _ _ fp (blkOk_by h1).kind) h13).1
    · cases h
theorem sndEs (Y : Sys) (k : Nat) : ∀ (xs : Exs) (X : Cx) (W : WX) (es : List Expr), XOk Y k X W → okEs Y.toTxt X.N xs X.env.scope es = true → PAx Y k X W es xs
  | .nil, X, W, es, ok, h => by
    cases es with
    | nil => exact a_nil
    | cons _ _ => simp [okEs] at h
  | .cons x r, X, W, es, ok, h => by
    cases es with
    | nil => simp [okEs] at h
    | cons e es =>
      simp only [okEs, Bool.and_eq_true] at h
      exact a_cons h.1.1 (sndE Y k x X W e ok h.1.2).1 (sndEs Y k r X W es ok h.2)
theorem sndO (Y : Sys) (k : Nat) : ∀ (x : Oe) (X : Cx) (W : WX) (e : Option Expr), XOk Y k X W → okP Y.toTxt X.N x X.env.scope e = true → POx Y k X W e x
  | .no, X, W, e, ok, h => by
    cases e with
    | none => exact o_no
    | some _ => simp [okP] at h
  | .so x, X, W, e, ok, h => by
    cases e with
    | none => simp [okP] at h
    | some e => simp only [okP] at h; exact o_so (sndE Y k x X W e ok h).1
theorem sndC (Y : Sys) (k : Nat) : ∀ (x : Oe) (X : Cx) (W : WX) (e : List Expr), XOk Y k X W → okC Y.toTxt X.N x X.env.scope e = true → PCx Y k X W e x
  | .no, X, W, e, ok, h => by
    cases e with
    | nil => exact c_no
    | cons _ _ => simp [okC] at h
  | .so x, X, W, e, ok, h => by
    unfold okC at h
    split at h
    · exact c_so (sndE Y k x X W _ ok h).2
    · cases h
theorem sndI (Y : Sys) (k : Nat) : ∀ (x : Itr) (X : Cx) (W : WX) (e tg : Expr), XOk Y k X W → okI Y.toTxt X.N x X.env.scope e tg = true → PIx Y k X W tg e x
  | .of x, X, W, e, tg, ok, h => by
    simp only [okI] at h
    exact i_of (sndE Y k x X W e ok h).1
  | .rng1 a, X, W, e, tg, ok, h => by
    unfold okI at h
    split at h
    · simp only [Bool.and_eq_true, decide_eq_true_eq] at h
      obtain ⟨⟨⟨rfl, h2⟩, h3⟩, h4⟩ := h
      exact i_rng1 ok h2 h3 (sndE Y k a X W _ ok h4).1
    · cases h
  | .rng2 a b, X, W, e, tg, ok, h => by
    unfold okI at h
    split at h
    · simp only [Bool.and_eq_true, decide_eq_true_eq] at h
      obtain ⟨⟨⟨⟨⟨rfl, h2⟩, h3⟩, h4⟩, h5⟩, h6⟩ := h
      exact i_rng2 ok h2 h3 h4 (sndE Y k a X W _ ok h5).1 (sndE Y k b X W _ ok h6).1
    · cases h
  | .enum a, X, W, e, tg, ok, h => by
    unfold okI at h
    split at h
    · simp only [Bool.and_eq_true, decide_eq_true_eq] at h
      obtain ⟨⟨⟨⟨rfl, h2⟩, h3⟩, h4⟩, h5⟩ := h
      exact i_enum ok h4 h2 h3 (sndE Y k a X W _ ok h5).1
    · cases h
end
end Ip
/-! ## Statements, defs -/
namespace Ip
open PySem PySem.Spec PyProof.Rows L2

def notComp : Expr → Bool
  | .ListComp .. => false
  | .SetComp .. => false
  | .DictComp .. => false
  | _ => true
def notTup : Expr → Bool
  | .Tuple .. => false
  | _ => true
theorem swaps_no {e : Expr} (h : notComp e = true) (t : Option Expr) (l : Nat) (env : Env) : swapsWith e t l env = pure false := by
  cases e <;> first | rfl | cases h
theorem swapped_no {e : Expr} (h : notTup e = true) (ts : List Expr) (env : Env) : swappedStores ts e env = pure none := by
  cases e <;> first | (cases h; done) | (rcases ts with _ | ⟨t, _ | ⟨t2, r⟩⟩ <;> first | rfl | (cases t <;> rfl))
/-- is a list made by a comprehension stored ahead of its variables' going? -/
def swB (sc : Scope) (t : Str) (tl : Nat) : Expr → Bool
  | .ListComp _ _ s pos => (sc.names.lookup t == some .local) && tl == pos.line && !(s.names.any fun (n, k) => n == t && (k == .local || k == .cell))
  | _ => false
theorem swaps_is {e : Expr} {t : Str} {p : Pos} {l : Nat} {env : Env} (hk : env.scope.kind = .function) (hc : notComp e = true ∨ ∃ a b c d, e = .ListComp a b c d) : swapsWith e (some (.Name t p)) l env = pure (swB env.scope t p.line e) := by
  rcases hc with hc | ⟨a, b, c, d, rfl⟩
  · rw [swaps_no hc]
    cases e <;> first | rfl | cases hc
  · have hb : (env.blockKind == ScopeKind.function) = true := by
      unfold Env.blockKind
      rw [hk] <;> rfl
    show (return env.blockKind == .function && env.kindOf t == some .local && p.line == d.line
      && !(c.names.any fun (n, k) => n == t && (k == .local || k == .cell)) : Sem Bool) = _
    rw [hb, Bool.true_and]
    rfl
def isLC : Expr → Bool
  | .ListComp .. => true
  | _ => false
def asgOk (sc : Scope) (e : Expr) : Expr → Bool
  | .Name y p => notComp e || (isLC e && !(swB sc y p.line e))
  | .Tuple _ _ _ => notComp e && notTup e
  | _ => false
mutual
/-- what may stand in an except suite -/
def simB : Ex → Bool
  | .c _ => true
  | .v _ => true
  | .neg a => simB a
  | .bin _ _ a b => simB a && simB b
  | .tup es => simBs es
  | .lst _ es => simBs es
  | _ => false
def simBs : Exs → Bool
  | .nil => true
  | .cons x r => simB x && simBs r
end
def okHd (Y : Txt) (N : List Str) (h : Hd) (sc : Scope) (nm : Option Str) (l : List Stmt) : Bool := match h, nm, l with
  | .ret x, _, [.Return (some e) _] => simB x && okE Y N x sc e
  | .retI s j, some n, [.Return (some (.Tuple [.Constant c _ _, .Call (.Name f _) [.Name m _, .Name y _] [] _] _ _)) _] => cstB s c && decide (f = "isinstance") && glB sc f && decide (m = n) && nmOk n && visB sc n && decide (Y.xn[j]? = some y) && glB sc y && nmOk y
  | .asg i x, none, [.Assign [.Name y _] e _] => simB x && okE Y N x sc e && decide (N[i]? = some y) && (decide (sc.names.lookup y = some .local) || decide (sc.names.lookup y = some .cell)) && notComp e
  | _, _, _ => false
def okNm (N : List Str) (sc : Scope) (nm : Option Nat) (nm' : Option Str) : Bool := match nm, nm' with
  | none, none => true
  | some i, some n => decide (N[i]? = some n) && decide (sc.names.lookup n = some .local)
  | _, _ => false
/-- a dict that is read without a step -/
def simpB : Ex → Bool
  | .v _ => true
  | .att _ (.v _) _ => true
  | _ => false
def okD (Y : Txt) (N : List Str) (kd : DK) (x : Ex) (sc : Scope) (tg it : Expr) : Bool := match kd with
  | .items => match tg, it with
    | .Tuple _ _ _, .Call (.Attribute e m apos) [] [] cpos => decide (m = "items") && baseB e && (apos.endLine == cpos.line) && okE Y N x sc e
    | _, _ => false
  | .vals => match it with
    | .Call (.Attribute e m apos) [] [] cpos => decide (m = "values") && baseB e && (apos.endLine == cpos.line) && okE Y N x sc e
    | _ => false
  | .keys => notSet it && okE Y N x sc it
mutual
def okS (Y : Txt) (N : List Str) : Stm → Scope → Stmt → Bool
  | .asg t x, sc, s => match s with
    | .Assign [tg] e _ => okT N (fun _ => true) t sc tg && okE Y N x sc e && asgOk sc e tg
    | _ => false
  | .asgC i m own tg it cond x, sc, s => match s with
    | .Assign [.Name y p] (.ListComp elt [⟨t, iter, ifs, 0⟩] scope lp) _ => decide (N[i]? = some y) && decide (sc.names.lookup y = some .local) && swB sc y p.line (.ListComp elt [⟨t, iter, ifs, 0⟩] scope lp) &&
        okE Y N (.lc m own tg it cond x) sc (.ListComp elt [⟨t, iter, ifs, 0⟩] scope lp)
    | _ => false
  | .asgS o i x, sc, s => match s with
    | .Assign [.Subscript l r _] e _ => okE Y N x sc e && okE Y N o sc l && okE Y N i sc r && notComp e && plainIxB r
    | _ => false
  | .asgA c o f x, sc, s => match s with
    | .Assign [.Attribute l y _] e _ => decide (y = f) && attB Y c f && okE Y N x sc e && okE Y N o sc l && (notComp e || isLC e)
    | _ => false
  | .aug i o x, sc, s => match s with
    | .AugAssign (.Name y _) op e _ => decide (N[i]? = some y) && locB sc y && decide (op = o.op) && (decide (o = .add) || decide (o = .sub)) && okE Y N x sc e
    | _ => false
  | .augS a i o x, sc, s => match s with
    | .AugAssign (.Subscript l r _) op e _ => decide (op = o.op) && (decide (o = .add) || decide (o = .sub)) && okE Y N a sc l && okE Y N i sc r && okE Y N x sc e && plainIxB r
    | _ => false
  | .ex x, sc, s => match s with
    | .Expr e _ => okE Y N x sc e && notComp e
    | _ => false
  | .ret x, sc, s => match s with
    | .Return (some e) _ => okE Y N x sc e
    | _ => false
  | .retN, _, s => match s with
    | .Return none _ => true
    | _ => false
  | .ifs c a b, sc, s => match s with
    | .If e l r _ => okE Y N c sc e && okSs Y N a sc l && okSs Y N b sc r
    | _ => false
  | .for t it b, sc, s => match s with
    | .For tg e l [] _ => okT N (fun _ => true) t sc tg && okI Y N it sc e tg && notSet e && okSs Y N b sc l
    | _ => false
  | .forD kd t x b, sc, s => match s with
    | .For tg it l [] _ => okT N (fun _ => true) t sc tg && simpB x && okD Y N kd x sc tg it && okSs Y N b sc l
    | _ => false
  | .whl c b, sc, s => match s with
    | .While e l [] _ => okE Y N c sc e && okSs Y N b sc l
    | _ => false
  | .brk, _, s => match s with
    | .Break _ => true
    | _ => false
  | .cont, _, s => match s with
    | .Continue _ => true
    | _ => false
  | .pass, _, s => match s with
    | .Pass _ => true
    | _ => false
  | .raise c, sc, s => match s with
    | .Raise (some (.Call (.Name x _) [] [] _)) none _ => decide (Y.xn[c]? = some x) && glB sc x && nmOk x
    | _ => false
  | .tryE b c nm h, sc, s => match s with
    | .Try body [.ExceptHandler (some (.Name x _)) nm' (b0 :: suite) _] [] [] _ => decide (Y.xn[c]? = some x) && glB sc x && nmOk x && okNm N sc nm nm' && okSs Y N b sc body && okHd Y N h sc nm' (b0 :: suite)
    | _ => false
def okSs (Y : Txt) (N : List Str) : Stms → Scope → List Stmt → Bool
  | .nil, _, l => l.isEmpty
  | .cons s r, sc, l => match l with
    | x :: l => okS Y N s sc x && okSs Y N r sc l
    | [] => false
  | .fz _ r, sc, l => okSs Y N r sc l
  | .fzd _ r, sc, l => okSs Y N r sc l
end
section
variable {K : PySem.W.Frag} {M : Am}
def SRes (K : PySem.W.Frag) (M : Am) (W : WX) (G Φ : Hp) (μ : Mu) (r : Option So) (Dn : Ends) : Prop :=
  match r with
  | some (.nx e S) => ∀ G' μ' H' σ', Gr Φ G μ G' μ' → Rel K M G' Φ μ' S H' → EnR K M G' μ' e σ' → Dn.nx σ' H'
  | some (.bk e S) => ∀ G' μ' H' σ', Gr Φ G μ G' μ' → Rel K M G' Φ μ' S H' → EnR K M G' μ' e σ' → Dn.bk σ' H'
  | some (.ct e S) => ∀ G' μ' H' σ', Gr Φ G μ G' μ' → Rel K M G' Φ μ' S H' → EnR K M G' μ' e σ' → Dn.ct σ' H'
  | some (.rt d S) => ∀ G' μ' H' v, Gr Φ G μ G' μ' → Rel K M G' Φ μ' S H' → RD K M G' μ' d v → Dn.rt v H'
  | some (.ex c e S) => ∀ G' μ' H' σ', Gr Φ G μ G' μ' → Rel K M G' Φ μ' S H' → EnR K M G' μ' e σ' → W (.ref (M.exc c)) none σ' H'
  | none => False
variable {W : WX} {σ : L2.St} {G G1 Φ : Hp} {μ μ1 : Mu} {S : Sto} {H : Hp} {env : En}
theorem SRes.mono {r : Option So} {Dn : Ends} (g : Gr Φ G μ G1 μ1) (h : SRes K M W G Φ μ r Dn) : SRes K M W G1 Φ μ1 r Dn := by
  cases r with
  | none => exact h
  | some z => cases z <;> exact fun G' μ' H' b g' => h G' μ' H' b (g.trans g')
theorem SRes.nx {Dn : Ends} {e : En} (h : SRes K M W G Φ μ (some (.nx e S)) Dn) (r : Rel K M G Φ μ S H) (er : EnR K M G μ e σ) : Dn.nx σ H := h G μ H σ .refl r er
def tS (K : PySem.W.Frag) (M : Am) (W : WX) (f : En → Sto → Option So) : TS := fun Dn σ H => ∃ G Φ μ S env, Rel K M G Φ μ S H ∧ EnR K M G μ env σ ∧ SRes K M W G Φ μ (f env S) Dn
/-- an expression ahead of the rest of its statement -/
theorem tS_bind {α β : Type} {Ra : Hp → Mu → α → β → Prop} {ev : En → Sto → Option (Ro α)} {f : En → α → Sto → Option So} {Dn : Ends}
    (h : tS K M W (fun env S => bnS (ev env S) env (f env)) Dn σ H) :
    tG K M W Ra ev σ H fun b H1 => ∃ G Φ μ S env a, Rel K M G Φ μ S H1 ∧ EnR K M G μ env σ ∧ Ra G μ a b ∧ SRes K M W G Φ μ (f env a S) Dn := by
  obtain ⟨G, Φ, μ, S, env, r, er, res⟩ := h
  refine ⟨G, Φ, μ, S, env, r, er, ?_⟩
  cases e : ev env S with
  | none => simp only [e] at res; exact res
  | some z =>
    cases z with
    | ok a S1 =>
      simp only [e, bnS_ok] at res
      exact fun G' μ' H' b g' r' q => ⟨G', Φ, μ', S1, env, a, r', er.grow g', q, SRes.mono g' res⟩
    | ex c S1 =>
      simp only [e, bnS_ex] at res
      exact fun G' μ' H' g' r' => res G' μ' H' σ g' r' (er.grow g')
theorem tS_go {α β : Type} {Ra : Hp → Mu → α → β → Prop} {x : Option (Ro α)} {f : α → Sto → Option So} {Dn : Ends} (er : EnR K M G μ env σ)
    (res : SRes K M W G Φ μ (bnS x env f) Dn) : Res K M W σ G Φ μ x Ra fun b H1 => ∃ G1 μ1 S1 a, Gr Φ G μ G1 μ1 ∧ Rel K M G1 Φ μ1 S1 H1 ∧ EnR K M G1 μ1 env σ ∧ Ra G1 μ1 a b ∧ SRes K M W G1 Φ μ1 (f a S1) Dn := by
  cases x with
  | none => exact res
  | some z =>
    cases z with
    | ok a S1 => exact fun G' μ' H' b g' r' q => ⟨G', μ', S1, a, g', r', er.grow g', q, SRes.mono g' res⟩
    | ex c S1 => exact fun G' μ' H' g' r' => res G' μ' H' σ g' r' (er.grow g')
theorem SRes.seq {x : Option So} {f : En → Sto → Option So} {Dn : Ends} (h : SRes K M W G Φ μ (seqS x f) Dn) : SRes K M W G Φ μ x { Dn with nx := tS K M W f Dn } := by
  cases x with
  | none => exact h
  | some z =>
    cases z with
    | nx e S => exact fun G' μ' H' σ' g r er => ⟨G', Φ, μ', S, e, r, er, SRes.mono g h⟩
    | bk e S => exact h
    | ct e S => exact h
    | rt d S => exact h
    | ex c e S => exact h
end
theorem _root_.L2.PS.imp {X : Cx} {s : Stmt} {t t' : TS} (h : PS X s t) (f : ∀ D σ H, t' D σ H → t D σ H) : PS X s t' := ⟨fun pins s σ H D I q => h.run pins s σ H D I (f D σ H q)⟩
theorem _root_.L2.PSs.imp {X : Cx} {s : List Stmt} {t t' : TS} (h : PSs X s t) (f : ∀ D σ H, t' D σ H → t D σ H) : PSs X s t' := ⟨fun pins s σ H D I q => h.run pins s σ H D I (f D σ H q)⟩
abbrev PSx (Y : Sys) (k : Nat) (X : Cx) (W : WX) (s : Stmt) (x : Stm) : Prop := PS X s (tS X.K Y.M W (exec (Y.Γ k) Y.T x))
abbrev PSsx (Y : Sys) (k : Nat) (X : Cx) (W : WX) (s : List Stmt) (x : Stms) : Prop := PSs X s (tS X.K Y.M W (execs (Y.Γ k) Y.T x))
section
variable {Y : Sys} {k : Nat} {X : Cx} {W : WX} {pos : Pos}
theorem locB_ok {sc : Scope} {x : Str} (h : locB sc x = true) : Loc sc x := by
  unfold locB at h
  split at h
  · rename_i e; exact .inl e
  · rename_i e; exact .inr e
  · cases h
theorem asg_go {t : Tg} {x : Ex} {Dn : Ends} {σ : L2.St} {H : Hp} (z : tS X.K Y.M W (fun env S => bnS (evalE (Y.Γ k) Y.T x env S) env fun d S1 => match asgT t d env with
    | some env1 => some (.nx env1 S1)
    | none => none) Dn σ H) : tAsg (tX X.K Y.M W (evalE (Y.Γ k) Y.T x)) (gT X.K t) Dn σ H := by
  refine (tS_bind (Ra := rD X.K Y.M) z).imp ?_
  rintro v H1 ⟨G, Φ, μ, S, env, d, r, er, ra, res⟩
  try dsimp only at res
  split at res
  · rename_i env1 e
    exact gT_ok r t d v env env1 σ _ ra er e fun σ' e' l f => res.nx r e'
  · exact res.elim
theorem ss_asg (ok : XOk Y k X W) {t : Tg} {x : Ex} {tg e : Expr} (hfn : ∀ x, X.fn x = true) (ht : okT X.N (fun _ => true) t X.env.scope tg = true) (he : PEx Y k X W e x)
    (hc : asgOk X.env.scope e tg = true) : PSx Y k X W (.Assign [tg] e pos) (.asg t x) := by
  have im : ∀ {t' : TS}, PS X (.Assign [tg] e pos) t' → (∀ D σ H, tAsg (tX X.K Y.M W (evalE (Y.Γ k) Y.T x)) (gT X.K t) D σ H → t' D σ H) → PSx Y k X W (.Assign [tg] e pos) (.asg t x) := fun h1 h2 =>
    h1.imp fun D σ H z => h2 D σ H (asg_go (by simp only [tS, exec] at z; exact z))
  cases tg with
  | Name y p =>
    unfold asgOk at hc
    cases t with
    | n i =>
      simp only [okT, Bool.and_eq_true, decide_eq_true_eq, Bool.or_eq_true, and_true] at ht
      refine im (ps_set ok.nd ht.1 ht.2 he ?_ (.inl (hfn _))) fun D σ H z => by rw [gT] at z; exact z
      rw [Bool.or_eq_true, Bool.and_eq_true] at hc
      rcases hc with hc | ⟨h1, h2⟩
      · exact swaps_no hc _ _ _
      · rw [swaps_is ok.kind (.inr (by
          cases e <;> first | exact ⟨_, _, _, _, rfl⟩ | cases h1))]
        rw [Bool.not_eq_true'] at h2
        rw [h2]
    | t ts => simp [okT] at ht
  | Tuple es j p =>
    unfold asgOk at hc
    rw [Bool.and_eq_true] at hc
    exact im (ps_asg he (sndT (fun x _ => hfn x) ok.calm ok.nd t _ ht) (by show swapsWith e (some (.Tuple es j p)) pos.line X.env = _; exact swaps_no hc.1 _ _ _) (swapped_no hc.2 _ _) rfl) fun _ _ _ z => z
  | _ => cases hc
theorem ss_asgS (ok : XOk Y k X W) {o i e : Expr} {p : Pos} {xo xi x : Ex} (ho : PEx Y k X W o xo) (hi : PEx Y k X W i xi) (he : PEx Y k X W e x) (h1 : notComp e = true) (h3 : plainIxB i = true) :
    PSx Y k X W (.Assign [.Subscript o i p] e pos) (.asgS xo xi x) := by
  have ha : ∀ v, assign (.Subscript o i p) X.env v = (do
      let ov ← holding [v] (eval o X.env)
      let iv ← holding [v, ov] (eval i X.env)
      standAt p
      holding [v, ov, iv] (setItem ov iv v)
      release [v, ov, iv] []) := fun v => by
    cases i <;> first | rfl | cases h3
  refine (ps_asg he (pg_sub ho hi (PSet.or set_list (set_dct (by have := ok.room.un; omega))) ha) (by show swapsWith e (some (.Subscript o i p)) pos.line X.env = _; exact swaps_no h1 _ _ _) (by cases e <;> rfl) rfl).imp fun D σ H z => ?_
  simp only [tS, exec] at z
  refine (tS_bind (Ra := rD X.K Y.M) z).imp ?_
  rintro v H1 ⟨G, Φ, μ, S, env, d, r, er, ra, res⟩
  refine ⟨G, Φ, μ, S, env, r, er, (tS_go (Ra := rD X.K Y.M) er res).imp ?_⟩
  rintro v2 H2 ⟨G1, μ1, S1, d1, g1, r1, e1, q1, res1⟩
  refine ⟨G1, Φ, μ1, S1, env, r1, e1, (tS_go (Ra := rD X.K Y.M) e1 res1).imp ?_⟩
  rintro v3 H3 ⟨G2, μ2, S2, d2, g2, r2, e2, q2, res2⟩
  have q1 : RD X.K Y.M G1 μ1 d1 v2 := q1
  have q1' := q1.up g2
  have qa := (RD.up (RD.up ra g1) g2)
  try dsimp only at res2
  have put : ∀ {n : Nat} {d3 : Ip.D} {a : Addr}, μ2 n = some a → RD X.K Y.M G2 μ2 d3 v3 → SRes X.K Y.M W G2 Φ μ2 (putS n d3 d env S2) D → ∃ a' H', V.ref a = V.ref a' ∧ DPut H3 a' v3 v H' ∧ D.nx σ H' := fun {n d3 a} hm qk rs => by
    unfold putS at rs
    split at rs
    · rename_i t ks vs hs
      split at rs
      · rename_i hz
        cases hp : dPut (t, ks, vs) d3 d with
        | none => rw [hp] at rs; exact rs.elim
        | some q =>
          rw [hp] at rs
          obtain ⟨H', h1, h2⟩ := dPut_ok r2 hm hs hz qk qa hp
          exact ⟨a, H', rfl, h1, rs.nx h2 e2⟩
      · exact rs.elim
    · exact rs.elim
  split at res2
  · cases q1' with
    | ref hm =>
      cases q2
      split at res2
      · rename_i xs hg
        split at res2
        · rename_i j hj
          obtain ⟨ys, h4, h5⟩ := r2.look (getL_of hg) hm
          have r' := r2.write (getL_of hg) (fun z => nomatch z) hm (ob' := .lst (xs.set j d)) (u := .lst (ys.set j v)) ⟨_, upd_same, h5.set qa j⟩
          exact .inl ⟨_, ys, _, j, rfl, rfl, h4, by rw [← h5.length]; exact hj, res2.nx r' e2⟩
        · exact res2.elim
      · exact .inr (put hm (.int _) res2)
  · cases q1' with
    | ref hm => exact .inr (put hm q2 res2)
  · exact res2.elim
theorem ss_asgA (ok : XOk Y k X W) {c : Nat} {o e : Expr} {p : Pos} {f : Str} {xo x : Ex} (ha : attB Y.toTxt c f = true) (ho : PEx Y k X W o xo) (he : PEx Y k X W e x) (h1 : (notComp e || isLC e) = true) :
    PSx Y k X W (.Assign [.Attribute o f p] e pos) (.asgA c xo f x) := by
  obtain ⟨c1, c2⟩ := attB_ok ok ha
  refine (ps_fld ho he (by
    rw [Bool.or_eq_true] at h1
    rcases h1 with h1 | h1
    · exact swaps_no h1 _ _ _
    · cases e <;> first | rfl | cases h1)).imp fun D σ H z => ?_
  simp only [tS, exec] at z
  refine (tS_bind (Ra := rD X.K Y.M) z).imp ?_
  rintro v H1 ⟨G, Φ, μ, S, env, d, r, er, ra, res⟩
  refine ⟨G, Φ, μ, S, env, r, er, (tS_go (Ra := rD X.K Y.M) er res).imp ?_⟩
  rintro v2 H2 ⟨G1, μ1, S1, d1, g1, r1, e1, q1, res1⟩
  have q1 : RD X.K Y.M G1 μ1 d1 v2 := q1
  have qa := RD.up ra g1
  try dsimp only at res1
  split at res1
  · rename_i n
    cases q1 with
    | ref hm =>
      split at res1
      · rename_i c' ns vs hs
        split at res1
        · rename_i hc
          obtain ⟨rfl, hz⟩ := hc
          obtain ⟨dx, ys, l, q, h⟩ := r1.look hs hm
          obtain ⟨zs, l2, q2, e2⟩ := putA_ok (f := f) qa l q
          have r' := r1.write hs (fun z => nomatch z) hm (ob' := .ins c' (putA f d ns vs).1 (putA f d ns vs).2) (u := .ins (Y.M.cls c') dx ((putA f d ns vs).1.zip zs)) ⟨dx, zs, l2, q2, upd_same⟩
          refine ⟨_, _, dx, _, rfl, h, c1, c2, by rw [List.length_zip, ← l, Nat.min_self]; exact hz, ?_⟩
          rw [e2]
          exact res1.nx r' e1
        · exact res1.elim
      · exact res1.elim
  · exact res1.elim
theorem ss_aug (ok : XOk Y k X W) {i : Nat} {o : BOp} {y : Str} {py : Pos} {e : Expr} {x : Ex} (h1 : X.N[i]? = some y) (hfn : ∀ x, X.fn x = true) (h2 : locB X.env.scope y = true) (ho : o = .add ∨ o = .sub) (he : PEx Y k X W e x) :
    PSx Y k X W (.AugAssign (.Name y py) o.op e pos) (.aug i o x) := by
  have key : ∀ {Dn : Ends} {σ : L2.St} {H : Hp} (f : Int → Int → Int), (∀ a b : Int, augI o a b = some (f a b)) → tS X.K Y.M W (exec (Y.Γ k) Y.T (.aug i o x)) Dn σ H → tAug i (tX X.K Y.M W (evalE (Y.Γ k) Y.T x)) (ipI f) Dn σ H := fun f hf z => by
    obtain ⟨G, Φ, μ, S, env, r, er, res⟩ := z
    simp only [exec] at res
    split at res
    · rename_i d hd
      obtain ⟨v, hv, q⟩ := er.at_ i d hd
      refine ⟨v, hv, G, Φ, μ, S, env, r, er, (tS_go (Ra := rD X.K Y.M) er res).imp ?_⟩
      rintro u H1 ⟨G1, μ1, S1, d1, g1, r1, e1, q1, res1⟩
      try dsimp only at res1
      split at res1
      · have q := q.up g1
        cases q; cases q1
        rw [hf] at res1
        exact ⟨_, _, rfl, rfl, res1.nx r1 (e1.set (.int _))⟩
      · exact res1.elim
    · exact res.elim
  rcases ho with rfl | rfl
  · exact (ps_aug ok.nd h1 (locB_ok h2) he ip_add (.inl (hfn _))).imp fun D σ H z => key (fun a b => a + b) (fun _ _ => rfl) z
  · exact (ps_aug ok.nd h1 (locB_ok h2) he ip_sub (.inl (hfn _))).imp fun D σ H z => key (fun a b => a - b) (fun _ _ => rfl) z
theorem ss_augS (ok : XOk Y k X W) {o : BOp} {l i e : Expr} {p : Pos} {xl xi x : Ex} (ho : o = .add ∨ o = .sub) (hl : PEx Y k X W l xl) (hi : PEx Y k X W i xi) (he : PEx Y k X W e x) (h3 : plainIxB i = true) :
    PSx Y k X W (.AugAssign (.Subscript l i p) o.op e pos) (.augS xl xi o x) := by
  have ha : ∀ ov iv new, augStore i ov iv new = (do holding [new, ov, iv] (setItem ov iv new); release [new, ov, iv] []; pure .next) := fun ov iv new => by
    cases i <;> first | rfl | cases h3
  have key : ∀ {Dn : Ends} {σ : L2.St} {H : Hp} (f : Int → Int → Int), (∀ a b : Int, augI o a b = some (f a b)) → tS X.K Y.M W (exec (Y.Γ k) Y.T (.augS xl xi o x)) Dn σ H →
      tAugS (tX X.K Y.M W (evalE (Y.Γ k) Y.T xl)) (tX X.K Y.M W (evalE (Y.Γ k) Y.T xi)) (tX X.K Y.M W (evalE (Y.Γ k) Y.T x)) (fun o i H Q => ∃ p xs k v, o = .ref p ∧ i = .int k ∧ SqL X.K H p xs ∧ atI xs k = some v ∧ Q v H) (ipI f) rSetL Dn σ H := fun f hf z => by
    simp only [tS, exec] at z
    refine (tS_bind (Ra := rD X.K Y.M) z).imp ?_
    rintro v1 H1 ⟨G, Φ, μ, S, env, d, r, er, ra, res⟩
    refine ⟨G, Φ, μ, S, env, r, er, (tS_go (Ra := rD X.K Y.M) er res).imp ?_⟩
    rintro v2 H2 ⟨G1, μ1, S1, d1, g1, r1, e1, q1, res1⟩
    have ra1 : RD X.K Y.M G1 μ1 d v1 := RD.up ra g1
    try dsimp only at res1
    split at res1
    · rename_i n kk
      cases q1
      cases ra1 with
      | ref hm =>
        split at res1
        · rename_i xs hg
          split at res1
          · rename_i w hw
            obtain ⟨ys, h4, h5⟩ := r1.look (getL_of hg) hm
            obtain ⟨zv, hz, rz⟩ := atI_RDs h5 hw
            cases rz
            refine ⟨_, ys, kk, _, rfl, rfl, SqL.of h4, hz, ?_⟩
            refine ⟨G1, Φ, μ1, S1, env, r1, e1, (tS_go (Ra := rD X.K Y.M) e1 res1).imp ?_⟩
            rintro v3 H3 ⟨G2, μ2, S2, d2, g2, r2, e2, q2, res2⟩
            try dsimp only at res2
            split at res2
            · rename_i w2 ys2 hg2
              cases q2
              rw [hf] at res2
              split at res2
              · rename_i z0 j hz0 hj
                cases hz0
                obtain ⟨us, h6, h7⟩ := r2.look (getL_of hg2) (g2.m _ _ hm)
                have r' := r2.write (getL_of hg2) (fun z => nomatch z) (g2.m _ _ hm) (ob' := .lst (ys2.set j (.int (f w w2)))) (u := .lst (us.set j (.int (f w w2)))) ⟨_, upd_same, h7.set (.int _) j⟩
                exact ⟨w, w2, rfl, rfl, _, us, kk, j, rfl, rfl, h6, by rw [← h7.length]; exact hj, res2.nx r' e2⟩
              · exact res2.elim
            · exact res2.elim
          · exact res1.elim
        · exact res1.elim
    · exact res1.elim
  rcases ho with rfl | rfl
  · exact (ps_augS hl hi get_list he ip_add set_list ha).imp fun D σ H z => key (fun a b => a + b) (fun _ _ => rfl) z
  · exact (ps_augS hl hi get_list he ip_sub set_list ha).imp fun D σ H z => key (fun a b => a - b) (fun _ _ => rfl) z
theorem ss_ex {e : Expr} {x : Ex} (he : PEx Y k X W e x) (h : notComp e = true) : PSx Y k X W (.Expr e pos) (.ex x) :=
  (ps_expr he (swaps_no h _ _ _)).imp fun D σ H z => by
    simp only [tS, exec] at z
    refine (tS_bind (Ra := rD X.K Y.M) z).imp ?_
    rintro v H1 ⟨G, Φ, μ, S, env, d, r, er, ra, res⟩
    exact res.nx r er
theorem ss_ret {e : Expr} {x : Ex} (he : PEx Y k X W e x) : PSx Y k X W (.Return (some e) pos) (.ret x) :=
  (ps_ret he).imp fun D σ H z => by
    simp only [tS, exec] at z
    refine (tS_bind (Ra := rD X.K Y.M) z).imp ?_
    rintro v H1 ⟨G, Φ, μ, S, env, d, r, er, ra, res⟩
    exact res G μ H1 v .refl r ra
theorem ss_retN : PSx Y k X W (.Return none pos) .retN :=
  ps_retN.imp fun D σ H z => by
    obtain ⟨G, Φ, μ, S, env, r, er, res⟩ := z
    rw [exec] at res
    exact res G μ H .non .refl r .non
theorem ss_ifs {c : Expr} {x : Ex} {a b : List Stmt} {xa xb : Stms} (hc : PTx Y k X W c x) (ha : PSsx Y k X W a xa) (hb : PSsx Y k X W b xb) : PSx Y k X W (.If c a b pos) (.ifs x xa xb) :=
  (ps_if hc ha hb).imp fun D σ H z => by
    simp only [tS, exec] at z
    refine (tS_bind (Ra := rB) z).imp ?_
    rintro v H1 ⟨G, Φ, μ, S, env, d, r, er, ra, res⟩
    have ra : d = v := ra
    subst ra
    cases d with
    | true => rw [if_pos rfl]; exact ⟨G, Φ, μ, S, env, r, er, res⟩
    | false => rw [if_neg (by decide)]; exact ⟨G, Φ, μ, S, env, r, er, res⟩
theorem ss_brk : PSx Y k X W (.Break pos) .brk := ps_break.imp fun D σ H z => by
  obtain ⟨G, Φ, μ, S, env, r, er, res⟩ := z
  rw [exec] at res
  exact res G μ H σ .refl r er
theorem ss_cont : PSx Y k X W (.Continue pos) .cont := ps_continue.imp fun D σ H z => by
  obtain ⟨G, Φ, μ, S, env, r, er, res⟩ := z
  rw [exec] at res
  exact res G μ H σ .refl r er
theorem ss_pass : PSx Y k X W (.Pass pos) .pass := ps_pass.imp fun D σ H z => by
  obtain ⟨G, Φ, μ, S, env, r, er, res⟩ := z
  rw [exec] at res
  exact res G μ H σ .refl r er
/-- X() of an own exception class without __init__ -/
theorem pmk_own0 {C : Addr} {bmB : List Value} {B newId initId : String} {x : Str} {p : Pos} (F : ExcBaseFacts B newId initId bmB) (q : PySem.W.excIn X.K C bmB newId = true) (gC : X.mg x = some (.ref C))
    (kC : PySem.W.keepIn X.K (.ref C) = true) (r : Raises X (.ref C)) (hg : Gl X x) (hdb : (x == ("__debug__" : Str)) = false) : PMk X (.Call (.Name x p) [] [] pos) (fun σ H Q => Q (.ref C) none H) := by
  intro pins s σ H Q I h
  refine wpAny_Call_Name_kw (ld_glob I hg gC ?_ hdb)
  refine PySem.W.callWith_K0 I.kIn kC ?_
  show wpAny _ _ (call (.ref C) []) _ _ _
  obtain ⟨bm, N, nm, qn, bs, hdct, sn, sub, ab, col, dd, k0, k1, k2, k3, k5, mN, hC, hN, hni, T⟩ := exc_obj I.kIn q
  refine wpAny_call_exc_subT F T hC hN hni (fun h' e hm => ?_) (Nat.zero_le _)
  exact mk_of I hm r h (I.hok.gone hm.new)
theorem ss_raise (ok : XOk Y k X W) {c : Nat} {x : Str} {p p2 : Pos} (h1 : Y.xn[c]? = some x) (h2 : glB X.env.scope x = true) (h3 : nmOk x = true) : PSx Y k X W (.Raise (some (.Call (.Name x p) [] [] p2)) none pos) (.raise c) := by
  obtain ⟨a1, a2, a3, a4, a5⟩ := ok.facts.xs c x h1
  refine (ps_raise ok.calm ok.tk (pmk_own0 PySem.F.excBase_ValueError a3 a1 a2 (raises_own a4 a5) (glB_ok h2) (nmOk_1 h3))).imp fun D σ H z => ?_
  obtain ⟨G, Φ, μ, S, env, r, er, res⟩ := z
  rw [exec] at res
  exact res G μ H σ .refl r er
/-- J walks just these items, while Φ is the frame -/
def WalksF (K : PySem.W.Frag) (M : Am) (J : It) (G Φ : Hp) (μ : Mu) (xs : List D) : Prop :=
  ∀ G1 μ1 S1 H1, (∀ a u, G a = some u → G1 a = some u) → (∀ n a, μ n = some a → μ1 n = some a) → Rel K M G1 Φ μ1 S1 H1 → ∀ i,
    (i < xs.length → J.go i H1) ∧ (xs.length ≤ i → J.stop i H1) ∧ ∀ d v H2, xs[i]? = some d → J.yld i H1 v H2 → ∃ G2, Gr Φ G1 μ1 G2 μ1 ∧ Rel K M G2 Φ μ1 S1 H2 ∧ RD K M G2 μ1 d v
theorem for_core (ok : XOk Y k X W) {t : Tg} {b : Stms} {J : It} {G Φ : Hp} {μ : Mu} {S : Sto} {env : En} {xs : List D} {σ : L2.St} {H1 : Hp} {Dn : Ends} (wk : WalksF X.K Y.M J G Φ μ xs) (r : Rel X.K Y.M G Φ μ S H1) (er : EnR X.K Y.M G μ env σ)
    (res : SRes X.K Y.M W G Φ μ (forL t (fun e S => execs (Y.Γ k) Y.T b e S) xs env S) Dn) :
    ∃ Wf : Nat → Nat → L2.St → Hp → Prop, (∃ m, Wf 0 m σ H1) ∧ ∀ i m σ H, Wf i m σ H →
      (J.stop i H ∧ Dn.nx σ H) ∨ (J.go i H ∧ ∃ N : L2.St → Hp → Prop, (∀ σ' H', N σ' H' → ∃ m', m' < m ∧ Wf (i + 1) m' σ' H') ∧ ∀ x H', J.yld i H x H' → (gT X.K t) x σ H' fun σ2 H2 => tS X.K Y.M W (execs (Y.Γ k) Y.T b) { Dn with nx := N, ct := N, bk := Dn.nx } σ2 H2) := by
  refine ⟨fun i m σ H => m = xs.length - i ∧ i ≤ xs.length ∧ ∃ G' μ' S' env', Gr Φ G μ G' μ' ∧ Rel X.K Y.M G' Φ μ' S' H ∧ EnR X.K Y.M G' μ' env' σ ∧ SRes X.K Y.M W G' Φ μ' (forL t (fun e S => execs (Y.Γ k) Y.T b e S) (xs.drop i) env' S') Dn,
    ⟨xs.length, by omega, by omega, G, μ, S, env, .refl, r, er, res⟩, ?_⟩
  rintro i m σ2 H2 ⟨rfl, hle, G', μ', S', env', g', r', e', res'⟩
  obtain ⟨w1, w2, w3⟩ := wk G' μ' S' H2 g'.g g'.m r' i
  by_cases hi : i < xs.length
  · refine .inr ⟨w1 hi, fun σ' H' => ∃ m'', m'' < xs.length - i ∧ _, fun _ _ h => h, ?_⟩
    intro v H3 hy
    have hd : xs[i]? = some xs[i] := List.getElem?_eq_getElem hi
    obtain ⟨G2, g2, r2, q2⟩ := w3 _ v H3 hd hy
    rw [List.drop_eq_getElem_cons hi, forL] at res'
    split at res'
    · exact res'.elim
    · rename_i env1 ha
      refine gT_ok r2 t _ v _ env1 _ _ q2 (e'.grow g2) ha fun σ3 e3 l3 f3 => ⟨G2, Φ, μ', S', env1, r2, e3, ?_⟩
      have nextTurn : ∀ (e : En) (S1 : Sto), SRes X.K Y.M W G' Φ μ' (forL t (fun e S => execs (Y.Γ k) Y.T b e S) (xs.drop (i + 1)) e S1) Dn → ∀ G3 μ3 H4 σ4, Gr Φ G2 μ' G3 μ3 → Rel X.K Y.M G3 Φ μ3 S1 H4 → EnR X.K Y.M G3 μ3 e σ4 →
          ∃ m'', m'' < xs.length - i ∧ m'' = xs.length - (i + 1) ∧ i + 1 ≤ xs.length ∧ ∃ G' μ' S' env', Gr Φ G μ G' μ' ∧ Rel X.K Y.M G' Φ μ' S' H4 ∧ EnR X.K Y.M G' μ' env' σ4 ∧ SRes X.K Y.M W G' Φ μ' (forL t (fun e S => execs (Y.Γ k) Y.T b e S) (xs.drop (i + 1)) env' S') Dn :=
        fun e S1 hr G3 μ3 H4 σ4 g3 r3 e4 => ⟨xs.length - (i + 1), by omega, rfl, by omega, G3, μ3, S1, e, (g'.trans g2).trans g3, r3, e4, SRes.mono (g2.trans g3) hr⟩
      cases hx : execs (Y.Γ k) Y.T b env1 S' with
      | none => rw [hx] at res'; exact res'.elim
      | some z =>
        rw [hx] at res'
        cases z with
        | nx e S1 => exact nextTurn e S1 res'
        | ct e S1 => exact nextTurn e S1 res'
        | bk e S1 => exact fun G3 μ3 H4 σ4 g3 r3 e4 => res' G3 μ3 H4 σ4 (g2.trans g3) r3 e4
        | rt d S1 => exact fun G3 μ3 H4 σ4 g3 r3 e4 => res' G3 μ3 H4 σ4 (g2.trans g3) r3 e4
        | ex c e S1 => exact fun G3 μ3 H4 σ4 g3 r3 e4 => res' G3 μ3 H4 σ4 (g2.trans g3) r3 e4
  · have hi' : i = xs.length := by omega
    refine .inl ⟨w2 (by omega), ?_⟩
    rw [hi', List.drop_length, forL] at res'
    exact res'.nx r' e'
theorem ss_for (ok : XOk Y k X W) {t : Tg} {it : Itr} {b : Stms} {tg e : Expr} {l : List Stmt} (hfn : ∀ x, X.fn x = true) (ht : okT X.N (fun _ => true) t X.env.scope tg = true) (hi : PIx Y k X W tg e it) (hs : notSet e = true) (hb : PSsx Y k X W l b) : PSx Y k X W (.For tg e l [] pos) (.for t it b) := by
  refine (ps_for ok.po ok.calm hi (sndT (fun x _ => hfn x) ok.calm ok.nd t tg ht) hb (folded_no hs _)).imp fun Dn σ H z => ?_
  simp only [tS, exec] at z
  refine (tS_bind (Ra := rW X.K Y.M) z).imp ?_
  rintro J H1 ⟨G, Φ, μ, S, env, xs, r, er, wk, res⟩
  have wk : Walks X.K Y.M J G μ xs := wk
  exact for_core ok (fun G1 μ1 S1 H1 g m r i => wk G1 Φ μ1 S1 H1 g m r i) r er res
/-! for, over a dict that stands still -/
theorem PS_or {X : Cx} {st : Stmt} {t t' : TS} (h : PS X st t) (h' : PS X st t') : PS X st (fun Dn σ H => t Dn σ H ∨ t' Dn σ H) := by
  refine ⟨fun pins s σ H Dn I z => ?_⟩
  rcases z with z | z
  · exact h.run pins s σ H Dn I z
  · exact h'.run pins s σ H Dn I z
/-- reads a value that is the same when a dict is locked -/
def SimpR (Y : Sys) (k : Nat) (X : Cx) (e : Expr) (x : Ex) : Prop := ∃ td : TE, PE X e td ∧ ∀ G Φ μ S env σ H, Rel X.K Y.M G Φ μ S H → EnR X.K Y.M G μ env σ → ∀ r, evalE (Y.Γ k) Y.T x env S = some r →
  ∃ d v, r = .ok d S ∧ RD X.K Y.M G μ d v ∧ ∀ H' : Hp, (∀ a C dx fs, H a = some (.ins C dx fs) → H' a = some (.ins C dx fs)) → ∀ Q : VK, Q v H' → td σ H' Q
theorem simp_v {i : Nat} {x : Str} (h1 : X.N[i]? = some x) (h2 : visB X.env.scope x = true) (h3 : nmOk x = true) : SimpR Y k X (.Name x pos) (.v i) := by
  refine ⟨_, pe_var h1 (visB_ok h2) (nmOk_1 h3) (nmOk_2 h3), fun G Φ μ S env σ H r er z hz => ?_⟩
  simp only [evalE] at hz
  split at hz
  · rename_i d e
    cases hz
    obtain ⟨v, hv, q⟩ := er.at_ i d e
    exact ⟨d, v, rfl, q, fun H' _ Q hq => ⟨v, hv, hq⟩⟩
  · cases hz
theorem simp_att (ok : XOk Y k X W) {c : Nat} {o : Expr} {xo : Ex} {f : Str} (hb : baseB o = true) (ha : attB Y.toTxt c f = true) (ho : SimpR Y k X o xo) : SimpR Y k X (.Attribute o f pos) (.att c xo f) := by
  obtain ⟨c1, c2⟩ := attB_ok ok ha
  obtain ⟨td, he, h⟩ := ho
  refine ⟨_, pe_fld he (attributeBase_no hb _ _ _), fun G Φ μ S env σ H r er z hz => ?_⟩
  rw [evalE] at hz
  cases hx : evalE (Y.Γ k) Y.T xo env S with
  | none => rw [hx] at hz; cases hz
  | some w =>
    obtain ⟨d, v, rfl, q, rd⟩ := h G Φ μ S env σ H r er w hx
    rw [hx, bnd_ok] at hz
    unfold fldD at hz
    split at hz
    · rename_i c' ns vs hi
      split at hz
      · rename_i hc
        subst hc
        obtain ⟨a, dx, ys, rfl, h1, l, q1⟩ := insD_ok r q hi
        cases hf : fldL f ns vs with
        | none => rw [hf] at hz; cases hz
        | some d' =>
          rw [hf] at hz
          cases hz
          obtain ⟨w, h2, q2⟩ := fldL_ok q1 hf
          exact ⟨d', w, rfl, q2, fun H' hi' Q hq => rd H' hi' _ ⟨a, _, dx, _, w, rfl, hi' _ _ _ _ h1, c1, c2, h2, hq⟩⟩
      · cases hz
    · cases hz
theorem RD_key {K : PySem.W.Frag} {M : Am} {G : Hp} {μ : Mu} (k : Key) : RD K M G μ (kD k) (kV k) := by
  cases k with
  | inl i => exact .int i
  | inr x => exact .str x
theorem walkF_items {K : PySem.W.Frag} {M : Am} {G Φ : Hp} {μ : Mu} {a : Addr} {od : Obj} {kk : List Key} {vs : List D} {ys : List V} (hl : kk.length = ys.length) (q : RDs K M G μ vs ys) :
    WalksF K M (Iti a od (kk.zip ys)) G (L2.upd Φ a (.frz od (.dK (kk.zip ys)))) μ (dWalk .items (kk.map kD) vs) := by
  intro G1 μ1 S1 H1 g m r i
  have hH := r.f a _ upd_same
  have len : (dWalk .items (kk.map kD) vs).length = (kk.zip ys).length := by
    unfold dWalk
    rw [List.length_zipWith, List.length_map, List.length_zip, q.length]
  refine ⟨fun hi => ⟨hH, by rw [← len]; exact hi⟩, fun hi => ⟨hH, by rw [← len]; exact hi⟩, fun d v H2 e hy => ?_⟩
  obtain ⟨T, k, w, hkv, rfl, hT, rfl⟩ := hy
  rw [List.getElem?_zip_eq_some] at hkv
  obtain ⟨hk, hw⟩ := hkv
  obtain ⟨dv, hdv, rv⟩ := q.getV hw
  have ed : d = .tup [kD k, dv] := by
    unfold dWalk at e
    rw [List.getElem?_zipWith, List.getElem?_map, hk, hdv] at e
    exact (Option.some.inj e).symm
  subst ed
  obtain ⟨r2, g2⟩ := r.still (u := .tup [kV k, w]) hT
  exact ⟨_, g2, r2, .tup upd_same (.cons (RD_key k) (.cons (RD.grow g2.g (fun _ _ h => h) _ _ (RD.grow g m _ _ rv)) .nil))⟩
theorem walkF_vals {K : PySem.W.Frag} {M : Am} {G Φ : Hp} {μ : Mu} {a : Addr} {od : Obj} {kk : List Key} {vs : List D} {ys : List V} (hl : kk.length = ys.length) (q : RDs K M G μ vs ys) :
    WalksF K M (Itd a od (kk.zip ys)) G (L2.upd Φ a (.frz od (.dK (kk.zip ys)))) μ (dWalk .vals (kk.map kD) vs) := by
  intro G1 μ1 S1 H1 g m r i
  have hH := r.f a _ upd_same
  have len : (dWalk .vals (kk.map kD) vs).length = (kk.zip ys).length := by
    show vs.length = _
    rw [List.length_zip, q.length]; omega
  refine ⟨fun hi => ⟨hH, by rw [← len]; exact hi⟩, fun hi => ⟨hH, by rw [← len]; exact hi⟩, fun d v H2 e hy => ?_⟩
  obtain ⟨rfl, k, hkv⟩ := hy
  rw [List.getElem?_zip_eq_some] at hkv
  obtain ⟨hk, hw⟩ := hkv
  obtain ⟨dv, hdv, rv⟩ := q.getV hw
  have ed : d = dv := by
    have e : vs[i]? = some d := e
    rw [hdv] at e
    exact (Option.some.inj e).symm
  subst ed
  exact ⟨G1, .refl, r, RD.grow g m _ _ rv⟩
theorem walkF_keys {K : PySem.W.Frag} {M : Am} {G Φ : Hp} {μ : Mu} {a : Addr} {od : Obj} {kk : List Key} {vs : List D} {ys : List V} (hl : kk.length = ys.length) :
    WalksF K M (Itk a od (kk.zip ys)) G (L2.upd Φ a (.frz od (.dK (kk.zip ys)))) μ (dWalk .keys (kk.map kD) vs) := by
  intro G1 μ1 S1 H1 g m r i
  have hH := r.f a _ upd_same
  have len : (dWalk .keys (kk.map kD) vs).length = (kk.zip ys).length := by
    show (kk.map kD).length = _
    rw [List.length_map, List.length_zip]; omega
  refine ⟨fun hi => ⟨hH, by rw [← len]; exact hi⟩, fun hi => ⟨hH, by rw [← len]; exact hi⟩, fun d v H2 e hy => ?_⟩
  obtain ⟨rfl, k, w, hkv, rfl⟩ := hy
  rw [List.getElem?_zip_eq_some] at hkv
  obtain ⟨hk, hw⟩ := hkv
  have ed : d = kD k := by
    have e : (kk.map kD)[i]? = some d := e
    rw [List.getElem?_map, hk] at e
    exact (Option.some.inj e).symm
  subst ed
  exact ⟨G1, .refl, r, RD_key k⟩
/-- the rule, given how the walk begins -/
theorem ss_dict (ok : XOk Y k X W) {kd : DK} {t : Tg} {x : Ex} {b : Stms} {tg e it : Expr} {l : List Stmt} {wi : TE → TI} {J : Addr → Obj → List (Key × V) → It} (hfn : ∀ x, X.fn x = true) (ht : okT X.N (fun _ => true) t X.env.scope tg = true) (hs : notSet it = true) (hb : PSsx Y k X W l b)
    (hx : SimpR Y k X e x) (hi : ∀ td, PE X e td → PI X tg it (wi td))
    (hw : ∀ (td : TE) σ H R (a : Addr) (o : Obj) (kvs : List (Key × V)), H a = some (.frz o (.dK kvs)) → R (J a o kvs) H → (∀ Q : VK, Q (.ref a) H → td σ H Q) → wi td σ H R)
    (hj : ∀ {G Φ : Hp} {μ : Mu} {a : Addr} {od : Obj} {kk : List Key} {vs : List D} {ys : List V}, kk.length = ys.length → RDs X.K Y.M G μ vs ys → WalksF X.K Y.M (J a od (kk.zip ys)) G (L2.upd Φ a (.frz od (.dK (kk.zip ys)))) μ (dWalk kd (kk.map kD) vs)) :
    PSx Y k X W (.For tg it l [] pos) (.forD kd t x b) := by
  obtain ⟨td, he, hx⟩ := hx
  have base := ps_for (pos := pos) ok.po ok.calm (hi td he) (sndT (fun x _ => hfn x) ok.calm ok.nd t tg ht) hb (folded_no hs _)
  refine ⟨fun pins s σ H Dn I z => (PS_or (ps_lock base) base).run pins s σ H Dn I ?_⟩
  obtain ⟨G, Φ, μ, S, env, r, er, res⟩ := z
  rw [exec] at res
  cases hz : evalE (Y.Γ k) Y.T x env S with
  | none => rw [hz] at res; exact res.elim
  | some w =>
    obtain ⟨d, v, rfl, q, rd⟩ := hx G Φ μ S env σ H r er w hz
    rw [hz, bnS_ok] at res
    cases q with
    | @dK a kk ks vs ys e1 hl q hG =>
      subst e1
      have res : SRes X.K Y.M W G Φ μ (forL t (fun e S => execs (Y.Γ k) Y.T b e S) (dWalk kd (kk.map kD) vs) env S) Dn := res
      have hk : (∃ k, HO.dK (kk.zip ys) = .dK k) ∨ ∃ k, HO.dK (kk.zip ys) = .dT k := .inl ⟨_, rfl⟩
      rcases r.g a _ hG with hH | ⟨_, o, hH⟩
      · have hf : Φ a = none := by
          cases e : Φ a with
          | none => rfl
          | some o =>
            obtain ⟨q', u', rfl⟩ := r.fg a o e (by rw [hG]; exact fun z => nomatch z)
            have := r.f a _ e
            rw [hH] at this; cases this
        refine .inl ⟨a, _, hH, trivial, fun od => ?_⟩
        have r' := r.lock (od := od) hG hk
        refine hw td σ _ _ a od (kk.zip ys) upd_same ?_ (fun Q hq => rd _ (fun b C dx fs hb => by
          rw [upd_ne (fun z => by rw [z, hH] at hb; cases hb)]; exact hb) Q hq)
        refine for_core ok (hj hl q) r' er ?_
        generalize forL t (fun e S => execs (Y.Γ k) Y.T b e S) (dWalk kd (kk.map kD) vs) env S = ro at res
        cases ro with
        | none => exact res.elim
        | some so =>
          cases so with
          | nx e S1 => exact fun G' μ' H' σ' g' rr er' => ⟨rr.f a _ upd_same, res G' μ' _ σ' g'.of_upd (rr.unlock (g'.g a _ hG) hf) er'⟩
          | bk e S1 => exact fun G' μ' H' σ' g' rr er' => ⟨rr.f a _ upd_same, res G' μ' _ σ' g'.of_upd (rr.unlock (g'.g a _ hG) hf) er'⟩
          | ct e S1 => exact fun G' μ' H' σ' g' rr er' => ⟨rr.f a _ upd_same, res G' μ' _ σ' g'.of_upd (rr.unlock (g'.g a _ hG) hf) er'⟩
          | rt d S1 => exact fun G' μ' H' v' g' rr rd' => ⟨rr.f a _ upd_same, res G' μ' _ v' g'.of_upd (rr.unlock (g'.g a _ hG) hf) rd'⟩
          | ex c e S1 => exact fun G' μ' H' σ' g' rr er' => res G' μ' _ σ' g'.of_upd (rr.less (.inl hf)) er'
      · have hf : Φ a = none ∨ Φ a = some (.frz o (.dK (kk.zip ys))) := by
          cases e : Φ a with
          | none => exact .inl rfl
          | some w =>
            have := r.f a _ e
            rw [hH] at this
            exact .inr (by rw [← this])
        refine .inr ?_
        have r' := r.relock hG hk hH
        refine hw td σ _ _ a o (kk.zip ys) hH ?_ (fun Q hq => rd _ (fun b C dx fs hb => hb) Q hq)
        refine for_core ok (hj hl q) r' er ?_
        generalize forL t (fun e S => execs (Y.Γ k) Y.T b e S) (dWalk kd (kk.map kD) vs) env S = ro at res
        cases ro with
        | none => exact res.elim
        | some so => cases so <;> exact fun G' μ' H' b' g' rr er' => res G' μ' _ b' g'.of_upd (rr.less hf) er'
    | _ => exact res.elim
theorem ss_whl (ok : XOk Y k X W) {c : Expr} {x : Ex} {l : List Stmt} {b : Stms} (hc : PTx Y k X W c x) (hb : PSsx Y k X W l b) : PSx Y k X W (.While c l [] pos) (.whl x b) := by
  refine (ps_while ok.po hc hb).imp fun Dn σ H z => ?_
  obtain ⟨G, Φ, μ, S, env, r, er, res⟩ := z
  rw [exec] at res
  generalize hst : whlStep (fun e S => evalT (Y.Γ k) Y.T x e S) (fun e S => execs (Y.Γ k) Y.T b e S) = step at res
  cases hl : lfp step (env, S) with
  | none => rw [hl] at res; exact res.elim
  | some fin =>
    rw [hl] at res
    obtain ⟨n, rn⟩ := lfp_runs hl
    refine ⟨fun m σ H => ∃ G' μ' S' env', Gr Φ G μ G' μ' ∧ Rel X.K Y.M G' Φ μ' S' H ∧ EnR X.K Y.M G' μ' env' σ ∧ Runs step m (env', S') fin, ⟨n, G, μ, S, env, .refl, r, er, rn⟩, ?_⟩
    rintro m σ2 H2 ⟨G', μ', S', env', g', r', e', rn'⟩
    refine ⟨G', Φ, μ', S', env', r', e', ?_⟩
    have res' := SRes.mono g' res
    have hs : step (env', S') = whlStep (fun e S => evalT (Y.Γ k) Y.T x e S) (fun e S => execs (Y.Γ k) Y.T b e S) (env', S') := by rw [hst]
    unfold whlStep at hs
    dsimp only at hs
    cases ht : evalT (Y.Γ k) Y.T x env' S' with
    | none =>
      rw [ht] at hs
      cases rn' with
      | stop e => rw [hs] at e; cases e
      | go e _ => rw [hs] at e; cases e
    | some z =>
      rw [ht] at hs
      cases z with
      | ex cc S1 =>
        cases rn' with
        | stop e =>
          rw [hs] at e; cases e
          exact fun G3 μ3 H3 g3 r3 => res' G3 μ3 H3 σ2 g3 r3 (e'.grow g3)
        | go e _ => rw [hs] at e; cases e
      | ok bb S1 =>
        cases bb with
        | false =>
          cases rn' with
          | stop e =>
            rw [hs] at e; cases e
            intro G3 μ3 H3 b' g3 r3 hb
            have hb : false = b' := hb
            subst hb
            rw [if_neg (by decide)]
            exact res' G3 μ3 H3 σ2 g3 r3 (e'.grow g3)
          | go e _ => rw [hs] at e; cases e
        | true =>
          intro G3 μ3 H3 b' g3 r3 hb
          have hb : true = b' := hb
          subst hb
          rw [if_pos rfl]
          refine ⟨_, fun _ _ h => h, G3, Φ, μ3, S1, env', r3, e'.grow g3, ?_⟩
          try dsimp only at hs
          cases hx : execs (Y.Γ k) Y.T b env' S1 with
          | none =>
            rw [hx] at hs
            cases rn' with
            | stop e => rw [hs] at e; cases e
            | go e _ => rw [hs] at e; cases e
          | some z2 =>
            rw [hx] at hs
            cases z2 with
            | nx e2 S2 =>
              cases rn' with
              | stop e => rw [hs] at e; cases e
              | go e rn2 =>
                rw [hs] at e; cases e
                exact fun G4 μ4 H4 σ4 g4 r4 e4 => ⟨_, Nat.lt_succ_self _, G4, μ4, S2, e2, (g'.trans g3).trans g4, r4, e4, rn2⟩
            | ct e2 S2 =>
              cases rn' with
              | stop e => rw [hs] at e; cases e
              | go e rn2 =>
                rw [hs] at e; cases e
                exact fun G4 μ4 H4 σ4 g4 r4 e4 => ⟨_, Nat.lt_succ_self _, G4, μ4, S2, e2, (g'.trans g3).trans g4, r4, e4, rn2⟩
            | bk e2 S2 =>
              cases rn' with
              | stop e =>
                rw [hs] at e; cases e
                exact fun G4 μ4 H4 σ4 g4 r4 e4 => res' G4 μ4 H4 σ4 (g3.trans g4) r4 e4
              | go e _ => rw [hs] at e; cases e
            | rt d S2 =>
              cases rn' with
              | stop e =>
                rw [hs] at e; cases e
                exact fun G4 μ4 H4 σ4 g4 r4 e4 => res' G4 μ4 H4 σ4 (g3.trans g4) r4 e4
              | go e _ => rw [hs] at e; cases e
            | ex cc e2 S2 =>
              cases rn' with
              | stop e =>
                rw [hs] at e; cases e
                exact fun G4 μ4 H4 σ4 g4 r4 e4 => res' G4 μ4 H4 σ4 (g3.trans g4) r4 e4
              | go e _ => rw [hs] at e; cases e
end
end Ip
/-! ## try: body, except an own class [as a name]: suite -/
namespace Ip
open PySem PySem.Spec PyProof.Rows L2
/-- a def's own frame -/
structure FOk (X : Cx) : Prop where
  fn : ∀ x, X.fn x = true
  stk : X.stack = X.env :: X.outer
  fr : X.env.frame = some X.env.locals
section
variable {K : PySem.W.Frag} {M : Am} {G Φ : Hp} {μ : Mu} {env : En} {σ : L2.St}
theorem EnR.gone {i : Nat} {v : Option V} (e : EnR K M G μ env σ) : EnR K M G μ (env.set i none) (σ.set i v) := by
  refine ⟨by rw [List.length_set, List.length_set, e.len], fun j d' hj => ?_⟩
  by_cases hij : i = j
  · subst hij
    by_cases hl : i < env.length
    · rw [List.getElem?_set_self hl] at hj
      cases hj
    · rw [List.getElem?_eq_none (by simpa using hl)] at hj
      cases hj
  · rw [List.getElem?_set_ne hij] at hj
    rw [List.getElem?_set_ne hij]
    exact e.at_ j d' hj
end
section
variable {Y : Sys} {k : Nat} {X : Cx} {W : WX} {pos : Pos}
mutual
theorem sndH (Y : Sys) (k : Nat) : ∀ (x : Ex) (X : Cx) (W : WX) (e : Expr), simB x = true → okE Y.toTxt X.N x X.env.scope e = true → PEx Y k X W e x
  | .c q, X, W, e, hs, h => by
    cases e with
    | Constant c j pos => simp only [okE] at h; exact s_c h
    | _ => simp [okE] at h
  | .v i, X, W, e, hs, h => by
    cases e with
    | Name x pos =>
      simp only [okE, Bool.and_eq_true, decide_eq_true_eq] at h
      exact s_v h.1.1 h.1.2 h.2
    | _ => simp [okE] at h
  | .bin o m a b, X, W, e, hs, h => by
    cases e with
    | BinOp l op r pos =>
      simp only [okE, Bool.and_eq_true, decide_eq_true_eq] at h
      obtain ⟨⟨rfl, h1⟩, h2⟩ := h
      simp only [simB, Bool.and_eq_true] at hs
      exact s_bin (sndH Y k a X W l hs.1 h1) (sndH Y k b X W r hs.2 h2)
    | _ => simp [okE] at h
  | .tup es, X, W, e, hs, h => by
    cases e with
    | Tuple xs j pos =>
      simp only [okE] at h
      simp only [simB] at hs
      exact s_tup (sndHs Y k es X W xs hs h)
    | _ => simp [okE] at h
  | .lst m es, X, W, e, hs, h => by
    cases e with
    | List xs pos =>
      simp only [okE] at h
      simp only [simB] at hs
      exact s_lst (sndHs Y k es X W xs hs h)
    | _ => simp [okE] at h
  | .g _, _, _, _, hs, _ => by simp [simB] at hs
  | .neg a, X, W, e, hs, h => by
    cases e with
    | UnaryOp op l pos =>
      cases op with
      | USub =>
        simp only [okE] at h
        simp only [simB] at hs
        exact s_neg (sndH Y k a X W l hs h)
      | _ => simp [okE] at h
    | _ => simp [okE] at h
  | .cmp _ _ _, _, _, _, hs, _ => by simp [simB] at hs
  | .not _, _, _, _, hs, _ => by simp [simB] at hs
  | .and _ _, _, _, _, hs, _ => by simp [simB] at hs
  | .or _ _, _, _, _, hs, _ => by simp [simB] at hs
  | .ite _ _ _, _, _, _, hs, _ => by simp [simB] at hs
  | .dct _ _ _ _, _, _, _, hs, _ => by simp [simB] at hs
  | .ix _ _, _, _, _, hs, _ => by simp [simB] at hs
  | .sl _ _ _ _, _, _, _, hs, _ => by simp [simB] at hs
  | .call _ _ _, _, _, _, hs, _ => by simp [simB] at hs
  | .bi _ _, _, _, _, hs, _ => by simp [simB] at hs
  | .bf _ _ _, _, _, _, hs, _ => by simp [simB] at hs
  | .me _ _ _, _, _, _, hs, _ => by simp [simB] at hs
  | .mf _ _ _ _, _, _, _, hs, _ => by simp [simB] at hs
  | .isi _ _, _, _, _, hs, _ => by simp [simB] at hs
  | .lc _ _ _ _ _ _, _, _, _, hs, _ => by simp [simB] at hs
  | .lens _, _, _, _, hs, _ => by simp [simB] at hs
  | .att _ _ _, _, _, _, hs, _ => by simp [simB] at hs
  | .mcl _ _ _ _ _ _, _, _, _, hs, _ => by simp [simB] at hs
  | .mk _ _ _ _, _, _, _, hs, _ => by simp [simB] at hs
  | .fze _, _, _, _, hs, _ => by simp [simB] at hs
  | .rev _ _, _, _, _, hs, _ => by simp [simB] at hs
  | .lc2 _ _ _ _ _ _ _ _ _ _, _, _, _, hs, _ => by simp [simB] at hs
theorem sndHs (Y : Sys) (k : Nat) : ∀ (xs : Exs) (X : Cx) (W : WX) (es : List Expr), simBs xs = true → okEs Y.toTxt X.N xs X.env.scope es = true → PAx Y k X W es xs
  | .nil, X, W, es, hs, h => by
    cases es with
    | nil =>
      exact pa_nil.imp fun σ H Q z => by
        obtain ⟨G, Φ, μ, S, env, r, er, res⟩ := z
        rw [evalEs] at res
        exact res.now r .nil
    | cons _ _ => simp [okEs] at h
  | .cons x r, X, W, es, hs, h => by
    cases es with
    | nil => simp [okEs] at h
    | cons e es =>
      simp only [okEs, Bool.and_eq_true] at h
      simp only [simBs, Bool.and_eq_true] at hs
      exact a_cons h.1.1 (sndH Y k x X W e hs.1 h.1.2) (sndHs Y k r X W es hs.2 h.2)
end
/-- what an except suite does -/
def tHd (Y : Sys) (k : Nat) (K : PySem.W.Frag) (nm : Option Nat) (h : Hd) (a : Addr) (cls : Value) (d : Option Addr) : TS := fun Dn σ H => ∃ c' G Φ μ S env, cls = .ref (Y.M.exc c') ∧ d = none ∧
  (∀ i, nm = some i → ∃ σ0 : L2.St, σ = σ0.set i (some (.ref a))) ∧ Rel K Y.M G Φ μ S H ∧ EnR K Y.M G μ env σ ∧ SRes K Y.M Wno G Φ μ (hdX (Y.Γ k) Y.T c' h env S) Dn
theorem hd_w {K : PySem.W.Frag} {W W' : WX} {G Φ : Hp} {μ : Mu} {c : Nat} {h : Hd} {env : En} {S : Sto} {Dn : Ends} (z : SRes K Y.M W G Φ μ (hdX (Y.Γ k) Y.T c h env S) Dn) : SRes K Y.M W' G Φ μ (hdX (Y.Γ k) Y.T c h env S) Dn := by
  cases h with
  | ret x =>
    simp only [hdX] at z ⊢
    revert z
    cases evalE (Y.Γ k) Y.T x env S with
    | none => exact id
    | some r => cases r <;> exact id
  | retI s j =>
    simp only [hdX] at z ⊢
    revert z
    cases Y.T.sub c j <;> exact id
  | asg i x =>
    simp only [hdX] at z ⊢
    revert z
    cases evalE (Y.Γ k) Y.T x env S with
    | none => exact id
    | some r => cases r <;> exact id
theorem hd_ok {a : Addr} {oe : Obj} {pn : List (Addr × Obj)} {cls : Value} {d : Option Addr} (F : Facts Y X.prog X.w X.K X.mg X.base k) (nd : X.N.Nodup) (fn : ∀ x, X.fn x = true) {h : Hd} {nm : Option Nat} {nm' : Option Str} {l : List Stmt}
    (hn : okNm X.N X.env.scope nm nm' = true) (hk : okHd Y.toTxt X.N h X.env.scope nm' l = true) (hz : Zc cls d oe) (hf : ∃ vs, oe.data = .fields vs) : PSs (X.suite a ((a, oe) :: pn)) l (tHd Y k X.K nm h a cls d) := by
  unfold okHd at hk
  split at hk
  · rename_i x e p
    rw [Bool.and_eq_true] at hk
    refine (pss_cons (ps_ret (sndH Y k x (X.suite a ((a, oe) :: pn)) Wno e hk.1 hk.2)) pss_nil).imp fun Dn σ H z => ?_
    obtain ⟨c', G, Φ, μ, S, env, rfl, rfl, _, r, er, res⟩ := z
    refine ⟨G, Φ, μ, S, env, r, er, ?_⟩
    simp only [hdX] at res
    split at res
    · rename_i d S1 e1
      rw [e1]
      exact res
    · exact res.elim
  · rename_i s j n c q1 q2 f p1 m p2 y p3 p4 q3 p5 p6
    simp only [Bool.and_eq_true, decide_eq_true_eq] at hk
    obtain ⟨⟨⟨⟨⟨⟨⟨⟨h1, rfl⟩, h3⟩, rfl⟩, h5⟩, h6⟩, h7⟩, h8⟩, h9⟩ := hk
    cases nm with
    | none => simp [okNm] at hn
    | some i =>
      simp only [okNm, Bool.and_eq_true, decide_eq_true_eq] at hn
      obtain ⟨hm, -, -, -, -⟩ := F.xs j y h7
      refine ⟨fun pins s0 σ H Dn I z => ?_⟩
      obtain ⟨c', G, Φ, μ, S, env, rfl, rfl, hi, r, er, res⟩ := z
      simp only [hdX] at res
      split at res
      · rename_i b hb
        obtain ⟨_, kit, ec⟩ := F.xm c' j b hb
        have ci := call_isE (X := X) (a := a) (pn := pn) ec hz hf
        have pe1 := pe_callB (X := X.suite a ((a, oe) :: pn)) (pos := p4) (p := p1) ci (x := "isinstance") (glB_ok h3) (F.free _ (by decide)) (by decide +kernel)
          (pa_cons (pe_var (pos := p2) hn.1 (visB_ok h6) (nmOk_1 h5) (nmOk_2 h5)) (pa_cons (pe_glob (v := .ref (Y.M.exc j)) (pos := p3) (glB_ok h8) hm rfl (nmOk_1 h9)) pa_nil rfl) rfl) (by decide) (by decide) rfl rfl
        refine (pss_cons (ps_ret (pe_tup (x1 := q3) (pos := p5) (pa_cons (p_c h1) (pa_cons pe1 pa_nil rfl) rfl))) pss_nil).run pins s0 σ H Dn I ?_
        have hi' : σ[i]? = some (some (.ref a)) := by
          obtain ⟨σ0, rfl⟩ := hi i rfl
          have l1 := I.len
          have l2 : i < X.N.length := (List.getElem?_eq_some_iff.mp hn.1).1
          rw [List.length_set] at l1
          exact List.getElem?_set_self (by rw [l1]; exact l2)
        refine ⟨_, hi', _, _, b, rfl, fun u ru => ru, kit, ?_⟩
        exact ⟨by rw [sizeLine_eq]; simp, res_tup (W := Wno) (σ := σ) (xs := [s.d, .bl b]) res r (.cons (by cases s <;> constructor) (.cons (.bl b) .nil))⟩
      · exact res.elim
  · rename_i i x y q1 e q2
    simp only [Bool.and_eq_true, decide_eq_true_eq, Bool.or_eq_true] at hk
    obtain ⟨⟨⟨⟨h1, h2⟩, h3⟩, h4⟩, h5⟩ := hk
    have he := sndH Y k x (X.suite a ((a, oe) :: pn)) Wno e h1 h2
    refine (pss_cons (ps_set (X := X.suite a ((a, oe) :: pn)) nd h3 h4 he (swaps_no h5 _ _ _) (.inl (fn _))) pss_nil).imp fun Dn σ H z => ?_
    obtain ⟨c', G, Φ, μ, S, env, rfl, rfl, _, r, er, res⟩ := z
    refine ⟨G, Φ, μ, S, env, r, er, ?_⟩
    simp only [hdX] at res
    split at res
    · rename_i d S1 e1
      rw [e1]
      exact fun G' μ' H' v g' r' q => res G' μ' H' _ g' r' ((er.grow g').set q)
    · exact res.elim
  · cases hk
theorem ss_try (ok : XOk Y k X W) (fo : FOk X) {c : Nat} {x : Str} {np pos' : Pos} {nm : Option Nat} {nm' : Option Str} {h : Hd} {b : Stms} {body suite : List Stmt} {b0 : Stmt} (h1 : Y.xn[c]? = some x) (h2 : glB X.env.scope x = true) (h3 : nmOk x = true)
    (h4 : okNm X.N X.env.scope nm nm' = true) (h5 : okHd Y.toTxt X.N h X.env.scope nm' (b0 :: suite) = true) (hb : ∀ (W' : WX) (pn : List (Addr × Obj)) (xe : Value → Shared → Prop), XOk Y k (X.tr pn xe) W' → PSsx Y k (X.tr pn xe) W' body b) :
    PSx Y k X W (.Try body [.ExceptHandler (some (.Name x np)) nm' (b0 :: suite) pos'] [] [] pos) (.tryE b c nm h) := by
  obtain ⟨hm, -, -, -, -⟩ := ok.facts.xs c x h1
  have names : Names X x (.ref (Y.M.exc c)) := ⟨glB_ok h2, nmOk_1 h3, .inl hm⟩
  have hb' : ∀ (W' : WX) (pn : List (Addr × Obj)) (xe : Value → Shared → Prop), Takes (X.tr pn xe) W' → PassesOwn (model X.prog X.w) X.A X.env xe → PSs (X.tr pn xe) body (tS X.K Y.M W' (execs (Y.Γ k) Y.T b)) := fun W' pn xe t p =>
    hb W' pn xe ⟨ok.calm, ok.kind, ok.nd, ok.room, t, p, ok.facts⟩
  cases nm with
  | none =>
    cases nm' with
    | some _ => simp [okNm] at h4
    | none =>
      refine (ps_try_only (tb := fun W' => tS X.K Y.M W' (execs (Y.Γ k) Y.T b)) (ts := tHd Y k X.K none h) fo.stk fo.fr names ok.tk hb' fun a oe cls d pn hz hf => hd_ok ok.facts ok.nd fo.fn h4 h5 hz hf).imp fun Dn σ H z => ?_
      obtain ⟨G, Φ, μ, S, env, r, er, res⟩ := z
      refine ⟨G, Φ, μ, S, env, r, er, ?_⟩
      rw [exec] at res
      cases hx : execs (Y.Γ k) Y.T b env S with
      | none => rw [hx] at res; exact res
      | some z =>
        rw [hx] at res
        cases z with
        | nx e S1 => exact res
        | bk e S1 => exact res
        | ct e S1 => exact res
        | rt d S1 => exact res
        | ex c' e S1 =>
          intro G' μ' H' σ' g' r' e'
          unfold tryR at res
          dsimp only at res
          split at res
          · rename_i hs
            exact ⟨true, (ok.facts.xm _ _ _ hs).1, fun _ a ha => ⟨c', G', Φ, μ', S1, e, rfl, rfl, (fun i z => nomatch z), r', e', SRes.mono g' (hd_w res)⟩, fun z => nomatch z⟩
          · rename_i hs
            exact ⟨false, (ok.facts.xm _ _ _ hs).1, (fun z => nomatch z), fun _ => res G' μ' H' σ' g' r' e'⟩
          · exact res.elim
  | some i =>
    cases nm' with
    | none => simp [okNm] at h4
    | some n =>
      have h4' := h4
      simp only [okNm, Bool.and_eq_true, decide_eq_true_eq] at h4'
      refine (ps_try_as (tb := fun W' => tS X.K Y.M W' (execs (Y.Γ k) Y.T b)) (ts := tHd Y k X.K (some i) h) fo.stk fo.fr ok.nd h4'.1 h4'.2 names ok.tk hb' fun a oe cls d pn hz hf => hd_ok ok.facts ok.nd fo.fn h4 h5 hz hf).imp fun Dn σ H z => ?_
      obtain ⟨G, Φ, μ, S, env, r, er, res⟩ := z
      refine ⟨G, Φ, μ, S, env, r, er, ?_⟩
      rw [exec] at res
      cases hx : execs (Y.Γ k) Y.T b env S with
      | none => rw [hx] at res; exact res
      | some z =>
        rw [hx] at res
        cases z with
        | nx e S1 => exact res
        | bk e S1 => exact res
        | ct e S1 => exact res
        | rt d S1 => exact res
        | ex c' e S1 =>
          intro G' μ' H' σ' g' r' e'
          unfold tryR at res
          dsimp only at res
          split at res
          · rename_i hs
            refine ⟨true, (ok.facts.xm _ _ _ hs).1, fun _ a ha => ⟨c', G', Φ, μ', S1, e.set i none, rfl, rfl, (fun j z => by cases z; exact ⟨_, rfl⟩), r', e'.gone, ?_⟩, fun z => nomatch z⟩
            have q := SRes.mono g' (hd_w (W' := Wno) res)
            simp only [nmX] at q
            cases h with
            | ret x =>
              simp only [hdX] at q ⊢
              revert q
              cases evalE (Y.Γ k) Y.T x (e.set i none) S1 with
              | none => exact id
              | some r => cases r <;> exact id
            | retI s j =>
              simp only [hdX] at q ⊢
              revert q
              cases Y.T.sub c' j <;> exact id
            | asg i x => simp [okHd] at h5
          · rename_i hs
            exact ⟨false, (ok.facts.xm _ _ _ hs).1, (fun z => nomatch z), fun _ => res G' μ' H' σ' g' r' e'⟩
          · exact res.elim
end
end Ip
/-! ## Soundness of blocks and defs -/
namespace Ip
open PySem PySem.Spec PyProof.Rows L2

section
variable {K : PySem.W.Frag} {M : Am} {G Φ : Hp} {μ : Mu} {S : Sto} {H : Hp}

theorem fz_ok {i : Nat} {env e : En} {S1 : Sto} {σ : L2.St} (r : Rel K M G Φ μ S H) (er : EnR K M G μ env σ) (h : fzD i env S = some (e, S1)) : ∃ G1, Gr Φ G μ G1 μ ∧ Rel K M G1 Φ μ S1 H ∧ EnR K M G1 μ e σ := by
  unfold fzD at h
  split at h
  · rename_i n hi
    obtain ⟨v, hv, q⟩ := er.at_ i _ hi
    cases q with
    | ref hm =>
      have setE : ∀ {G1 : Hp} {d : D}, Gr Φ G μ G1 μ → RD K M G1 μ d (.ref _) → EnR K M G1 μ (env.set i (some d)) σ := fun {G1 d} g q => by
        have := (er.grow g).set (i := i) q
        rw [show σ.set i (some (.ref _)) = σ from by
          apply List.ext_getElem?
          intro j
          by_cases hj : i = j
          · subst hj
            have hl : i < σ.length := by
              have := List.getElem?_eq_some_iff.mp hv
              exact this.1
            rw [List.getElem?_set_self hl, hv]
          · rw [List.getElem?_set_ne hj]] at this
        exact this
      split at h
      · rename_i xs hs
        split at h
        · rename_i hp
          cases h
          obtain ⟨ys, h1, h2⟩ := r.look hs hm
          obtain ⟨r1, g1⟩ := r.freeze hs (fun z => nomatch z) hm h1
          exact ⟨_, g1, r1, setE g1 (.lst upd_same (RDs.up h2 g1))⟩
        · cases h
      · rename_i t ks vs hs
        split at h
        · rename_i hp
          cases h
          rcases r.look hs hm with ⟨t0, kk, ys, e1, l, h2, h1⟩ | ⟨t0, kk, ys, e1, l, h2, h1⟩
          · subst t0
            obtain ⟨r1, g1⟩ := r.freeze hs (fun z => nomatch z) hm h1
            exact ⟨_, g1, r1, setE g1 (.dK e1 l (RDs.up h2 g1) upd_same)⟩
          · subst t0
            obtain ⟨r1, g1⟩ := r.freeze hs (fun z => nomatch z) hm h1
            exact ⟨_, g1, r1, setE g1 (.dT e1 l (RDs.up h2 g1) upd_same)⟩
        · cases h
      · cases h
  · cases h
end
section
variable {Y : Sys} {k : Nat} {X : Cx} {W : WX}
theorem ss_asgC (ok : XOk Y k X W) {i : Nat} {m : Bool} {own : List (Str × Nat)} {tg : Tg} {it : Itr} {cond : Oe} {x : Ex} {y : Str} {p pos lp : Pos} {elt t iter : Expr} {ifs : List Expr} {scope : Scope}
    (h1 : X.N[i]? = some y) (h2 : X.env.scope.names.lookup y = some .local) (h3 : swB X.env.scope y p.line (.ListComp elt [⟨t, iter, ifs, 0⟩] scope lp) = true) (h4 : okE Y.toTxt X.N (.lc m own tg it cond x) X.env.scope (.ListComp elt [⟨t, iter, ifs, 0⟩] scope lp) = true)  :
    PSx Y k X W (.Assign [.Name y p] (.ListComp elt [⟨t, iter, ifs, 0⟩] scope lp) pos) (.asgC i m own tg it cond x) := by
  simp only [okE, Bool.and_eq_true] at h4
  obtain ⟨⟨⟨⟨⟨⟨a1, a2⟩, a3⟩, a4⟩, a5⟩, a6⟩, a7⟩ := h4
  have hc : ∀ (s : Shared) (H : Hp) (C : Addr) (cl : List (Str × Addr)) (fp : List Addr), PCx Y k (X.blk s H scope (compEnvC scope cl C X.env) fp) Wno ifs cond := fun s H C cl fp =>
    sndC Y k cond _ Wno _ (ok.blk s H _ _ fp (blkOk_by a1).kind) a6
  have he : ∀ (s : Shared) (H : Hp) (C : Addr) (cl : List (Str × Addr)) (fp : List Addr), PEx Y k (X.blk s H scope (compEnvC scope cl C X.env) fp) Wno elt x := fun s H C cl fp =>
    (sndE Y k x _ Wno _ (ok.blk s H _ _ fp (blkOk_by a1).kind) a7).1
  have hsw : swapsWith (.ListComp elt [⟨t, iter, ifs, 0⟩] scope lp) (some (.Name y p)) pos.line X.env = pure true := by
    rw [swaps_is ok.kind (.inr ⟨_, _, _, _, rfl⟩), h3]
  refine (ps_setLc (own := own) (g := gT X.K tg) (tt := tXt X.K Y.M Wno (evalC (Y.Γ k) Y.T cond)) (te := tX X.K Y.M Wno (evalE (Y.Γ k) Y.T x)) ok.calm ok.nd h1 h2 hsw (sndI Y k it X W _ _ ok a3) (blkOk_by a1) (fun s H C cl fp => sndT (X := X.blk s H scope (compEnvC scope cl C X.env) fp) (fun _ h => h) ok.calm ok.nd tg t a4) hc he (folded_no a2 _)).imp fun D σ H z => ?_
  have z' : tS X.K Y.M W (fun env S => bnS (evalE (Y.Γ k) Y.T (.lc m own tg it cond x) env S) env fun d S1 => some (.nx (env.set i (some d)) S1)) D σ H := by
    simpa only [tS, exec] using z
  refine lc_reads ok a1 a4 a5 ((tS_bind (Ra := rD X.K Y.M) z').imp ?_)
  rintro v H1 ⟨G, Φ, μ, S, env, d, r, er, ra, res⟩
  exact res.nx r (er.set ra)
theorem sndR {Y : Sys} {k : Nat} {X : Cx} {W : WX} (ok : XOk Y k X W) {x : Ex} {e : Expr} (h2 : simpB x = true) (he : okE Y.toTxt X.N x X.env.scope e = true) : SimpR Y k X e x := by
  have hv : ∀ (i : Nat) (e : Expr), okE Y.toTxt X.N (.v i) X.env.scope e = true → SimpR Y k X e (.v i) := fun i e he => by
    cases e with
    | Name x pos =>
      simp only [okE, Bool.and_eq_true, decide_eq_true_eq] at he
      exact simp_v he.1.1 he.1.2 he.2
    | _ => simp [okE] at he
  cases x with
  | v i => exact hv i e he
  | att c o f =>
    cases o with
    | v i =>
      unfold okE at he
      split at he
      · simp only [Bool.and_eq_true, decide_eq_true_eq] at he
        obtain ⟨⟨⟨rfl, k2⟩, k3⟩, k4⟩ := he
        exact simp_att ok k2 k3 (hv i _ k4)
      · cases he
    | _ => simp [simpB] at h2
  | _ => simp [simpB] at h2
mutual
theorem sndS (Y : Sys) (k : Nat) : ∀ (x : Stm) (X : Cx) (W : WX) (s : Stmt), XOk Y k X W → FOk X → okS Y.toTxt X.N x X.env.scope s = true → PSx Y k X W s x
  | .asg t x, X, W, s, ok, hfn, h => by
    unfold okS at h
    split at h
    · simp only [Bool.and_eq_true] at h
      exact ss_asg ok hfn.fn h.1.1 (sndE Y k x X W _ ok h.1.2).1 h.2
    · cases h
  | .asgC i m own tg it cond x, X, W, s, ok, hfn, h => by
    unfold okS at h
    split at h
    · simp only [Bool.and_eq_true, decide_eq_true_eq] at h
      exact ss_asgC ok h.1.1.1 h.1.1.2 h.1.2 h.2
    · cases h
  | .asgS o i x, X, W, s, ok, hfn, h => by
    unfold okS at h
    split at h
    · simp only [Bool.and_eq_true] at h
      obtain ⟨⟨⟨⟨h1, h2⟩, h3⟩, h4⟩, h6⟩ := h
      exact ss_asgS ok (sndE Y k o X W _ ok h2).1 (sndE Y k i X W _ ok h3).1 (sndE Y k x X W _ ok h1).1 h4 h6
    · cases h
  | .asgA c o f x, X, W, s, ok, hfn, h => by
    unfold okS at h
    split at h
    · simp only [Bool.and_eq_true, decide_eq_true_eq] at h
      obtain ⟨⟨⟨⟨rfl, h2⟩, h3⟩, h4⟩, h5⟩ := h
      exact ss_asgA ok h2 (sndE Y k o X W _ ok h4).1 (sndE Y k x X W _ ok h3).1 h5
    · cases h
  | .aug i o x, X, W, s, ok, hfn, h => by
    unfold okS at h
    split at h
    · simp only [Bool.and_eq_true, decide_eq_true_eq, Bool.or_eq_true] at h
      obtain ⟨⟨⟨⟨h1, h2⟩, rfl⟩, h4⟩, h5⟩ := h
      exact ss_aug ok h1 hfn.fn h2 h4 (sndE Y k x X W _ ok h5).1
    · cases h
  | .augS a i o x, X, W, s, ok, hfn, h => by
    unfold okS at h
    split at h
    · simp only [Bool.and_eq_true, decide_eq_true_eq, Bool.or_eq_true] at h
      obtain ⟨⟨⟨⟨⟨rfl, h2⟩, h3⟩, h4⟩, h5⟩, h6⟩ := h
      exact ss_augS ok h2 (sndE Y k a X W _ ok h3).1 (sndE Y k i X W _ ok h4).1 (sndE Y k x X W _ ok h5).1 h6
    · cases h
  | .ex x, X, W, s, ok, hfn, h => by
    unfold okS at h
    split at h
    · simp only [Bool.and_eq_true] at h
      exact ss_ex (sndE Y k x X W _ ok h.1).1 h.2
    · cases h
  | .ret x, X, W, s, ok, hfn, h => by
    unfold okS at h
    split at h
    · exact ss_ret (sndE Y k x X W _ ok h).1
    · cases h
  | .retN, X, W, s, ok, hfn, h => by
    unfold okS at h
    split at h
    · exact ss_retN
    · cases h
  | .ifs c a b, X, W, s, ok, hfn, h => by
    unfold okS at h
    split at h
    · simp only [Bool.and_eq_true] at h
      exact ss_ifs (sndE Y k c X W _ ok h.1.1).2 (sndSs Y k a X W _ ok hfn h.1.2) (sndSs Y k b X W _ ok hfn h.2)
    · cases h
  | .for t it b, X, W, s, ok, hfn, h => by
    unfold okS at h
    split at h
    · simp only [Bool.and_eq_true] at h
      exact ss_for ok hfn.fn h.1.1.1 (sndI Y k it X W _ _ ok h.1.1.2) h.1.2 (sndSs Y k b X W _ ok hfn h.2)
    · cases h
  | .forD kd t x b, X, W, s, ok, hfn, h => by
    unfold okS at h
    split at h
    · rename_i tg it l pos
      simp only [Bool.and_eq_true] at h
      obtain ⟨⟨⟨h1, h2⟩, h3⟩, h4⟩ := h
      have hb := sndSs Y k b X W _ ok hfn h4
      have sr : ∀ e, okE Y.toTxt X.N x X.env.scope e = true → SimpR Y k X e x := fun e he => sndR ok h2 he
      unfold okD at h3
      cases kd with
      | items =>
        dsimp only at h3
        split at h3
        · simp only [Bool.and_eq_true, decide_eq_true_eq] at h3
          obtain ⟨⟨⟨rfl, hba⟩, hl⟩, he⟩ := h3
          exact ss_dict ok hfn.fn h1 rfl hb (sr _ he) (fun td pe => pi_items pe (attributeBase_no hba _ _ _) hl) (fun td σ H R a o kvs hH hR htd => htd _ ⟨a, o, kvs, rfl, hH, hR⟩) (fun hl q => walkF_items hl q)
        · cases h3
      | vals =>
        dsimp only at h3
        split at h3
        · simp only [Bool.and_eq_true, decide_eq_true_eq] at h3
          obtain ⟨⟨⟨rfl, hba⟩, hl⟩, he⟩ := h3
          exact ss_dict ok hfn.fn h1 rfl hb (sr _ he) (fun td pe => pi_values pe (attributeBase_no hba _ _ _) hl) (fun td σ H R a o kvs hH hR htd => htd _ ⟨a, o, kvs, rfl, hH, hR⟩) (fun hl q => walkF_vals hl q)
        · cases h3
      | keys =>
        dsimp only at h3
        rw [Bool.and_eq_true] at h3
        exact ss_dict ok hfn.fn h1 h3.1 hb (sr _ h3.2) (fun td pe => pi_keys pe) (fun td σ H R a o kvs hH hR htd => htd _ ⟨a, o, rfl, .inl ⟨kvs, hH, hR⟩⟩) (fun hl q => walkF_keys hl)
    · cases h
  | .whl c b, X, W, s, ok, hfn, h => by
    unfold okS at h
    split at h
    · simp only [Bool.and_eq_true] at h
      exact ss_whl ok (sndE Y k c X W _ ok h.1).2 (sndSs Y k b X W _ ok hfn h.2)
    · cases h
  | .brk, X, W, s, ok, hfn, h => by
    unfold okS at h
    split at h
    · exact ss_brk
    · cases h
  | .cont, X, W, s, ok, hfn, h => by
    unfold okS at h
    split at h
    · exact ss_cont
    · cases h
  | .pass, X, W, s, ok, hfn, h => by
    unfold okS at h
    split at h
    · exact ss_pass
    · cases h
  | .raise c, X, W, s, ok, hfn, h => by
    unfold okS at h
    split at h
    · simp only [Bool.and_eq_true, decide_eq_true_eq] at h
      exact ss_raise ok h.1.1 h.1.2 h.2
    · cases h
  | .tryE b c nm hd, X, W, s, ok, hfn, h => by
    unfold okS at h
    split at h
    · simp only [Bool.and_eq_true, decide_eq_true_eq] at h
      obtain ⟨⟨⟨⟨⟨h1, h2⟩, h3⟩, h4⟩, h5⟩, h6⟩ := h
      exact ss_try ok hfn h1 h2 h3 h4 h6 fun W' pn xe o' => sndSs Y k b (X.tr pn xe) W' _ o' ⟨hfn.fn, hfn.stk, hfn.fr⟩ h5
    · cases h
theorem sndSs (Y : Sys) (k : Nat) : ∀ (xs : Stms) (X : Cx) (W : WX) (s : List Stmt), XOk Y k X W → FOk X → okSs Y.toTxt X.N xs X.env.scope s = true → PSsx Y k X W s xs
  | .nil, X, W, s, ok, hfn, h => by
    cases s with
    | nil =>
      refine pss_nil.imp fun D σ H z => ?_
      obtain ⟨G, Φ, μ, S, env, r, er, res⟩ := z
      rw [execs] at res
      exact res.nx r er
    | cons _ _ => simp [okSs] at h
  | .cons x r, X, W, s, ok, hfn, h => by
    cases s with
    | nil => simp [okSs] at h
    | cons s l =>
      simp only [okSs, Bool.and_eq_true] at h
      refine (pss_cons (sndS Y k x X W s ok hfn h.1) (sndSs Y k r X W l ok hfn h.2)).imp fun D σ H z => ?_
      obtain ⟨G, Φ, μ, S, env, r, er, res⟩ := z
      simp only [execs] at res
      exact ⟨G, Φ, μ, S, env, r, er, res.seq⟩
  | .fz i r, X, W, s, ok, hfn, h => by
    simp only [okSs] at h
    refine (sndSs Y k r X W s ok hfn h).imp fun D σ H z => ?_
    obtain ⟨G, Φ, μ, S, env, r, er, res⟩ := z
    simp only [execs] at res
    split at res
    · rename_i e S1 hz
      obtain ⟨G1, g1, r1, e1⟩ := fz_ok r er hz
      exact ⟨G1, Φ, μ, S1, e, r1, e1, SRes.mono g1 res⟩
    · exact res.elim
  | .fzd i r, X, W, s, ok, hfn, h => by
    simp only [okSs] at h
    refine (sndSs Y k r X W s ok hfn h).imp fun D σ H z => ?_
    obtain ⟨G, Φ, μ, S, env, r, er, res⟩ := z
    simp only [execs] at res
    split at res
    · rename_i d hd
      split at res
      · rename_i d' S1 hz
        obtain ⟨v, hv, q⟩ := er.at_ i _ hd
        obtain ⟨G1, g1, r1, q1⟩ := frz_ok 9 _ _ _ _ _ _ r q hz
        have e1 := (er.grow g1).set (i := i) q1
        rw [show σ.set i (some v) = σ from by
          apply List.ext_getElem?
          intro j
          by_cases hj : i = j
          · subst hj
            rw [List.getElem?_set_self (List.getElem?_eq_some_iff.mp hv).1, hv]
          · rw [List.getElem?_set_ne hj]] at e1
        exact ⟨G1, Φ, μ, S1, _, r1, e1, SRes.mono g1 res⟩
      · exact res.elim
    · exact res.elim
end
end
end Ip
/-! ## Defs keep what the function says; the end of a law -/
namespace Ip
open PySem PySem.Spec PyProof.Rows L2

structure DefOk (Y : Txt) (f : Fn) (d : He.DefD) : Prop where
  at_ : f.name = ("" : Str) ∨ d.at_ = (f.name, none)
  scope : FnScope f.N f.ps d.scope
  body : okSs Y f.N f.body d.scope d.body = true
  dfl : d.dfl = []
  kwd : d.kwd = []
  bind : ∀ (kV doc pm : Value) (an : Option Addr) (cdv ct : Value) (us : List Value), us.length = f.ps.length → bindArgs (PySem.W.fnOf d.name d.qual d.params d.body d.scope .none kV doc pm an cdv ct) ⟨us, []⟩ = pure (f.ps.zip us)
theorem envOf_rel {K : PySem.W.Frag} {M : Am} {G : Hp} {μ : Mu} {N : List Str} {ds : List D} {vs : List V} (q : RDs K M G μ ds vs) : EnR K M G μ (envOf N.length ds) (L2.start N vs) := by
  refine ⟨?_, fun i d h => ?_⟩
  · unfold envOf L2.start
    simp only [List.length_append, List.length_map, List.length_replicate, q.length]
  · unfold envOf at h
    unfold L2.start
    by_cases hi : i < ds.length
    · rw [List.getElem?_append_left (by simpa using hi), List.getElem?_map] at h
      cases hd : ds[i]? with
      | none => rw [hd] at h; cases h
      | some d' =>
        rw [hd] at h
        cases h
        obtain ⟨v, hv, qv⟩ := q.get hd
        have hl : i < vs.length := q.length ▸ hi
        exact ⟨v, by rw [List.getElem?_append_left (by simpa using hl), List.getElem?_map, hv]; rfl, qv⟩
    · rw [List.getElem?_append_right (by simpa using hi)] at h
      simp only [List.length_map] at h
      rw [List.getElem?_replicate] at h
      split at h <;> cases h
theorem outS_res {K : PySem.W.Frag} {M : Am} {W : WX} {σ : L2.St} {G Φ : Hp} {μ : Mu} {r : Option So} {Q : VK} {E : XK} (hW : ∀ c H, W c none σ H → E c none H) (res : Res K M W σ G Φ μ (outS r) (rD K M) Q) :
    SRes K M (fun c d _ H => E c d H) G Φ μ r { nx := fun _ H' => Q .non H', rt := Q } := by
  cases r with
  | none => exact res
  | some z =>
    cases z with
    | nx e S => exact fun G' μ' H' σ' g r er => res G' μ' H' .non g r .non
    | bk e S => exact res.elim
    | ct e S => exact res.elim
    | rt d S => exact res
    | ex c e S => exact fun G' μ' H' σ' g r er => hW _ _ (res G' μ' H' g r)
section
variable {Y : Sys} {P : Program} {w : World} {K : PySem.W.Frag} {mg : Str → Option Value} {base : Heap}
/-- THE RULE: every def of the text keeps what the function says, at every level -/
theorem all_ok (ds : List He.DefD) (hl : ds.length = Y.F.length) (hd : ∀ (i : Nat) (f : Fn) (d : He.DefD), Y.F[i]? = some f → ds[i]? = some d → DefOk Y.toTxt f d ∧ FunD K d.name d.qual d.params d.body d.scope [] [] (Y.fa i) (Y.fd i))
    (hf : ∀ k, (∀ (i : Nat) (f : Fn), Y.F[i]? = some f → FnOk P w K mg base (L2.CX P w) (2 * k) (Y.fa i) (Y.fd i) f.ps (spI Y K k i)) → Facts Y P w K mg base k) :
    ∀ k (i : Nat) (f : Fn), Y.F[i]? = some f → FnOk P w K mg base (L2.CX P w) (2 * k) (Y.fa i) (Y.fd i) f.ps (spI Y K k i)
  | 0, i, f, h => by
    have no : ∀ vs H Q E, ¬ spI Y K 0 i vs H Q E := fun vs H Q E ⟨_, _, _, _, _, _, _, res⟩ => res
    exact ⟨fun vs H Q E s => (no vs H Q E s).elim, fun _ _ _ _ _ _ _ _ _ _ _ _ _ s => (no _ _ _ _ s).elim⟩
  | k + 1, i, f, h => by
    have ih := all_ok ds hl hd hf k
    have F := hf k ih
    have hi : i < ds.length := hl ▸ (List.getElem?_eq_some_iff.mp h).1
    obtain ⟨D, FD⟩ := hd i f ds[i] h (List.getElem?_eq_getElem hi)
    refine FD.ok (k := 2 * k + 1) D.scope (fun vs H Q E s => ?_) (fun cdv A outer s H vs Q E hr sp => ?_)
    · obtain ⟨G, Φ, μ, S, xs, r, q, res⟩ := s
      rw [← q.length]
      rw [callK] at res
      simp only [h] at res
      split at res
      · rename_i e; exact e
      · exact res.elim
    · refine ⟨tS K Y.M (fun c d _ H => E c d H) (execs (Y.Γ k) Y.T f.body), ?_, ?_⟩
      · have ok : XOk Y k (cxOf (L2.CX P w) P w K mg base f.N ds[i].qual ds[i].scope (Y.fa i) cdv A outer s H E) (fun c d _ H => E c d H) :=
          ⟨rfl, D.scope.kind, D.scope.nd, hr, takes_of rfl rfl rfl rfl, passes_of rfl, F⟩
        exact sndSs Y k f.body _ _ _ ok ⟨fun _ => rfl, rfl, rfl⟩ D.body
      · obtain ⟨G, Φ, μ, S, xs, r, q, res⟩ := sp
        rw [callK] at res
        simp only [h] at res
        split at res
        · exact ⟨G, Φ, μ, S, _, r, envOf_rel q, outS_res (fun _ _ h => h) res⟩
        · exact res.elim
end
/-! ### the data of a law -/
structure Lw where
  F : List Fn
  ds : List He.DefD
  cs : List (Str × Cst)
  xs : List Str
  subs : List (List Bool)
  cl : List Cl
def Lw.tab (L : Lw) : Tab := ⟨L.cs.map fun q => q.2.d, L.subs⟩
def Lw.tx (L : Lw) : Txt := ⟨L.F, L.tab, L.cs.map (·.1), L.xs, L.cl⟩
def cFa (q : Str × Cst) : He.Fa := match q.2 with
  | .int i => .int q.1 i
  | .str z => .str q.1 z
  | _ => .int q.1 0
def clFas (q : Cl) : List He.Fa := .glo q.name :: .cls q.name :: .mkr q.name :: (q.fs.map (fun f => .noat q.name f) ++ q.ms.map fun m => .meth q.name m.1)
def Lw.fas (L : Lw) : List He.Fa := L.cl.flatMap clFas ++ ((L.F.filter fun f => decide (f.name ≠ ("" : Str))).map (fun f => .glo f.name) ++ L.cs.map cFa ++ L.xs.map .glo ++ L.xs.map .exc ++ bNames.map .free)
def Lw.am (L : Lw) (K : PySem.W.Frag) (xs : List Str) : Am := ⟨fun i => He.ga K ((L.cl.map (·.name)).getD i ("" : Str)), fun i => He.ga K (xs.getD i ("" : Str))⟩
noncomputable def Lw.sys (L : Lw) (K : PySem.W.Frag) (fd : Nat → FuncData) : Sys := { L.tx with
  M := L.am K L.xs
  fa := fun i => match L.ds[i]? with
    | some d => He.fAd K d.at_
    | none => 0
  fd := fd }
def atB (L : Lw) (i : Nat) (p : Str × Option Str) : Bool := match L.ds[i]? with
  | some d => decide (d.at_ = p)
  | none => false
def csOk (L : Lw) : Bool := (L.cs.all fun q => match q.2 with
  | .int _ => true
  | .str _ => true
  | _ => false) && L.cl.all fun q => atB L q.ini (q.name, some ("__init__" : Str)) && q.ms.all fun m => atB L m.2 (q.name, some m.1)
theorem atB_fa {L : Lw} {K : PySem.W.Frag} {fd : Nat → FuncData} {i : Nat} {p : Str × Option Str} (h : atB L i p = true) : (L.sys K fd).fa i = He.fAd K p := by
  unfold atB at h
  show (match L.ds[i]? with
    | some d => He.fAd K d.at_
    | none => 0) = _
  split at h
  · rw [of_decide_eq_true h]
  · cases h
/-- what the own exceptions' classes must say -/
def excC1 (K : PySem.W.Frag) (D : Addr) : Bool := He.eqO (PySem.W.findIn K (.ref D) "__getattribute__") (some (some (.builtin "BaseException.__getattribute__"))) && (He.eqO (PySem.W.findIn K (.ref D) "__getattr__") (some none) &&
  (decide (PySem.W.subIn K (.ref D) (.type "BaseException") = some true) && (PySem.W.hasDictIn K D && (He.eqO (PySem.W.findIn K (.ref D) "__class__") (some (some (.builtin "object.__class__"))) &&
  (He.eqO (PySem.W.specialIn K (.builtin "object.__class__") "__get__") (some (some (.builtin "getset_descriptor.__get__"))) && (decide (PySem.W.takesIn K (.builtin "object.__class__") = some true) && decide (PySem.W.mroIn K D (.type "object") = some true)))))))
theorem excC1_ok {K : PySem.W.Frag} {D : Addr} (h : excC1 K D = true) : ExcC K D := by
  obtain ⟨h1, h⟩ := He.ba h
  obtain ⟨h2, h⟩ := He.ba h
  obtain ⟨h3, h⟩ := He.ba h
  obtain ⟨h4, h⟩ := He.ba h
  obtain ⟨h5, h⟩ := He.ba h
  obtain ⟨h6, h⟩ := He.ba h
  obtain ⟨h7, h8⟩ := He.ba h
  exact ⟨He.eqO_ok h1, He.eqO_ok h2, of_decide_eq_true h3, h4, He.eqO_ok h5, He.eqO_ok h6, of_decide_eq_true h7, of_decide_eq_true h8⟩
def excP (K : PySem.W.Frag) (C D : Addr) (b : Bool) : Bool := decide (PySem.W.exmOne K (.ref C) (.ref D) = some b) && decide (PySem.W.kitOne K (.ref C) (.ref D) = some b)
def excB (K : PySem.W.Frag) (xs : List Str) (subs : List (List Bool)) : Bool := (List.range subs.length).all fun i => excC1 K (He.ga K (xs.getD i ("" : Str))) && (List.range (subs.getD i []).length).all fun j =>
  match (subs.getD i [])[j]? with
  | some b => excP K (He.ga K (xs.getD i ("" : Str))) (He.ga K (xs.getD j ("" : Str))) b
  | none => true
theorem excB_ok {K : PySem.W.Frag} {xs : List Str} {subs : List (List Bool)} {cs : List D} (h : excB K xs subs = true) {i j : Nat} {b : Bool} (e : (Tab.mk cs subs).sub i j = some b) :
    PySem.W.exmOne K (.ref (He.ga K (xs.getD i ("" : Str)))) (.ref (He.ga K (xs.getD j ("" : Str)))) = some b ∧ PySem.W.kitOne K (.ref (He.ga K (xs.getD i ("" : Str)))) (.ref (He.ga K (xs.getD j ("" : Str)))) = some b ∧ ExcC K (He.ga K (xs.getD i ("" : Str))) := by
  unfold Tab.sub at e
  dsimp only at e
  split at e
  · rename_i r hr
    have hi := (List.getElem?_eq_some_iff.mp hr).1
    have z := List.all_eq_true.mp h i (List.mem_range.mpr hi)
    obtain ⟨z1, z2⟩ := He.ba z
    have gd : subs.getD i [] = r := by rw [List.getD_eq_getElem?_getD, hr]; rfl
    rw [gd] at z2
    have hj := (List.getElem?_eq_some_iff.mp e).1
    have z3 := List.all_eq_true.mp z2 j (List.mem_range.mpr hj)
    rw [e] at z3
    obtain ⟨z4, z5⟩ := He.ba z3
    exact ⟨of_decide_eq_true z4, of_decide_eq_true z5, excC1_ok z1⟩
  · cases e
def obsX (n : Nat) (fa : List He.Fa) (fn : List He.DefD) (xs : List Str) (subs : List (List Bool)) (g : Addr → Option Obj) : He.AlD × Bool := (He.obsD fa fn (He.frG g (He.asD g n)), excB (He.frG g (He.asD g n)) xs subs)
def hookX (n : Nat) (fa : List He.Fa) (fn : List He.DefD) (xs : List Str) (subs : List (List Bool)) : PySem.W.Hook where
  α := He.AlD × Bool
  obs := fun s => obsX n fa fn xs subs s.heap.get?
  val := fun _ => (He.valD fn, true)
  says := fun _ h => ∃ K : PySem.W.Frag, K.In h ∧ He.SaysD fa fn K ∧ excB K xs subs = true
  of := fun _ _ e => ⟨_, He.frG_in, (Prod.mk.inj e).1, (Prod.mk.inj e).2⟩
  keeps := fun _ _ _ ⟨K, hK, c⟩ k => ⟨K, PySem.W.Frag.In.keeps hK k, c⟩
theorem obsX_eq {n : Nat} {fa : List He.Fa} {fn : List He.DefD} {xs : List Str} {subs : List (List Bool)} {g : Addr → Option Obj} {s : Shared} (h : ∀ a, g a = s.heap.get? a) : obsX n fa fn xs subs g = (hookX n fa fn xs subs).obs s := by
  have e : g = s.heap.get? := funext h
  rw [e] <;> rfl
/-- every def is what the term says -/
def AllOk (L : Lw) : Prop := ∀ (i : Nat) (f : Fn) (d : He.DefD), L.F[i]? = some f → L.ds[i]? = some d → DefOk L.tx f d
theorem facts_of {L : Lw} {P : Program} {w : World} {K : PySem.W.Frag} {mg : Str → Option Value} {base : Heap} {fd : Nat → FuncData} {h : Heap} (hc : csOk L = true) (ha : AllOk L) (hl : L.ds.length = L.F.length)
    (X : K.In h) (G : h.Ns mainGlobals mg) (c : He.SaysD L.fas L.ds K) (cx : excB K L.xs L.subs = true) (hfd : ∀ (i : Nat) (d : He.DefD), L.ds[i]? = some d → FunD K d.name d.qual d.params d.body d.scope [] [] (He.fAd K d.at_) (fd i)) :
    ∀ k, (∀ (i : Nat) (f : Fn), L.F[i]? = some f → FnOk P w K mg base (L2.CX P w) (2 * k) ((L.sys K fd).fa i) (fd i) f.ps (spI (L.sys K fd) K k i)) → Facts (L.sys K fd) P w K mg base k := by
  intro k ih
  have fact : ∀ f ∈ L.fas, f.ok K = true := fun f hf => by
    have := congrArg Prod.fst c
    simp only [He.obsD, He.valD, Bool.and_eq_true] at this
    exact List.all_eq_true.mp this.1 f hf
  have nm : ∀ (i : Nat) (f : Fn), L.F[i]? = some f → f.name ≠ ("" : Str) → (L.sys K fd).fa i = He.ga K f.name := fun i f e hne => by
    have hi : i < L.ds.length := hl ▸ (List.getElem?_eq_some_iff.mp e).1
    have hd := List.getElem?_eq_getElem hi
    have D := ha i f _ e hd
    have h2 := D.at_.resolve_left hne
    exact atB_fa (p := (f.name, none)) (by unfold atB; rw [hd]; exact decide_eq_true h2)
  have bindIt : ∀ (i : Nat) (f : Fn), L.F[i]? = some f → Binds K (fd i) f.ps [] := fun i f e => by
    have hi : i < L.ds.length := hl ▸ (List.getElem?_eq_some_iff.mp e).1
    have hd := List.getElem?_eq_getElem hi
    have D := ha i f _ e hd
    have FD := hfd i _ hd
    exact FD.bindsN (fun kV doc pm an cdv ct us hu => D.bind kV doc pm an cdv ct us hu)
  have keepIt : ∀ (i : Nat) (f : Fn), L.F[i]? = some f → PySem.W.keepIn K (.ref ((L.sys K fd).fa i)) = true := fun i f e => by
    have hi : i < L.ds.length := hl ▸ (List.getElem?_eq_some_iff.mp e).1
    have hd := List.getElem?_eq_getElem hi
    have FD := hfd i _ hd
    rw [atB_fa (p := (L.ds[i]).at_) (by unfold atB; rw [hd]; exact decide_eq_true rfl)]
    exact FD.kp
  rw [csOk, Bool.and_eq_true] at hc
  obtain ⟨hc, hcl⟩ := hc
  refine ⟨fun i f e hne => ?_, ih, fun i x e => ?_, fun i x e => ?_, fun x hx => ?_, bindIt, fun c q e => ?_, fun i j b e => excB_ok cx e⟩
  · have g : (He.Fa.glo f.name).ok K = true := fact _ (by unfold Lw.fas; simp only [List.mem_append, List.mem_map, List.mem_filter]; exact .inr (.inl (.inl (.inl (.inl ⟨f, ⟨List.mem_of_getElem? e, decide_eq_true hne⟩, rfl⟩)))))
    refine ⟨?_, keepIt i f e, bindIt i f e⟩
    rw [nm i f e hne]
    exact He.glo_ok X G g
  · have e : (L.cs.map (·.1))[i]? = some x := e
    rw [List.getElem?_map] at e
    cases hq : L.cs[i]? with
    | none => rw [hq] at e; cases e
    | some q =>
      rw [hq] at e
      cases e
      refine ⟨q.2, ?_, ?_⟩
      · show (L.cs.map fun q => q.2.d)[i]? = _
        rw [List.getElem?_map, hq]; rfl
      · have hm := List.mem_of_getElem? hq
        have g : (cFa q).ok K = true := fact _ (by unfold Lw.fas; simp only [List.mem_append, List.mem_map]; exact .inr (.inl (.inl (.inl (.inr ⟨q, hm, rfl⟩)))))
        have hcq := List.all_eq_true.mp hc q hm
        obtain ⟨x, z⟩ := q
        cases z with
        | int n => obtain ⟨t, ht⟩ := He.int_ok X G g; exact ⟨_, ht, t, rfl⟩
        | str n => obtain ⟨t, ht⟩ := He.str_ok X G g; exact ⟨_, ht, t, rfl⟩
        | non => cases hcq
        | bl b => cases hcq
  · have e : L.xs[i]? = some x := e
    have hm := List.mem_of_getElem? e
    have g1 : (He.Fa.glo x).ok K = true := fact _ (by unfold Lw.fas; simp only [List.mem_append, List.mem_map]; exact .inr (.inl (.inl (.inr ⟨x, hm, rfl⟩))))
    have g2 : (He.Fa.exc x).ok K = true := fact _ (by unfold Lw.fas; simp only [List.mem_append, List.mem_map]; exact .inr (.inl (.inr ⟨x, hm, rfl⟩)))
    have ex : L.xs.getD i ("" : Str) = x := by simp [List.getD_eq_getElem?_getD, e]
    obtain ⟨a1, a2, a3, a4⟩ := He.exc_ok g2
    show mg x = some (.ref (He.ga K (L.xs.getD i ("" : Str)))) ∧ PySem.W.keepIn K (.ref (He.ga K (L.xs.getD i ("" : Str)))) = true ∧ PySem.W.excIn K (He.ga K (L.xs.getD i ("" : Str))) He.veBase "ValueError.__new__" = true ∧
      PySem.W.subIn K (.ref (He.ga K (L.xs.getD i ("" : Str)))) (.type "BaseException") = some true ∧ PySem.W.typeIn K (.ref (He.ga K (L.xs.getD i ("" : Str)))) = some (.type "type")
    rw [ex]
    exact ⟨He.glo_ok X G g1, a2, a1, a3, a4⟩
  · have g : (He.Fa.free x).ok K = true := fact _ (by unfold Lw.fas; simp only [List.mem_append, List.mem_map]; exact .inr (.inr ⟨x, hx, rfl⟩))
    exact He.free_ok X G g
  · have e : L.cl[c]? = some q := e
    have hm := List.mem_of_getElem? e
    have ex : (L.cl.map (·.name)).getD c ("" : Str) = q.name := by simp [List.getD_eq_getElem?_getD, e]
    have cf : ∀ f ∈ clFas q, f.ok K = true := fun f hf => fact f (by unfold Lw.fas; rw [List.mem_append]; exact .inl (List.mem_flatMap.mpr ⟨q, hm, hf⟩))
    have mem : ∀ {f : He.Fa}, (f = .glo q.name ∨ f = .cls q.name ∨ f = .mkr q.name ∨ f ∈ q.fs.map (fun f => He.Fa.noat q.name f) ++ q.ms.map fun m => He.Fa.meth q.name m.1) → f ∈ clFas q := fun {f} h => by
      unfold clFas
      simp only [List.mem_cons]
      exact h
    have hq := List.all_eq_true.mp hcl q hm
    rw [Bool.and_eq_true] at hq
    show Cls K (He.ga K ((L.cl.map (·.name)).getD c ("" : Str))) ∧ mg q.name = some (.ref (He.ga K ((L.cl.map (·.name)).getD c ("" : Str)))) ∧ Mk K (He.ga K ((L.cl.map (·.name)).getD c ("" : Str))) ((L.sys K fd).fa q.ini) ∧
      (∀ f ∈ q.fs, NoAttr K (He.ga K ((L.cl.map (·.name)).getD c ("" : Str))) f) ∧ ∀ m i, (m, i) ∈ q.ms → Meth K (He.ga K ((L.cl.map (·.name)).getD c ("" : Str))) m ((L.sys K fd).fa i)
    rw [ex]
    refine ⟨He.cls_ok (cf _ (mem (.inr (.inl rfl)))), He.glo_ok X G (cf _ (mem (.inl rfl))), ?_, fun f hf => ?_, fun m i hmi => ?_⟩
    · rw [atB_fa hq.1]
      exact He.mkr_ok (cf _ (mem (.inr (.inr (.inl rfl)))))
    · exact He.noat_ok (cf _ (mem (.inr (.inr (.inr (List.mem_append.mpr (.inl (List.mem_map.mpr ⟨f, hf, rfl⟩))))))))
    · rw [atB_fa (List.all_eq_true.mp hq.2 _ hmi)]
      exact He.meth_ok (cf _ (mem (.inr (.inr (.inr (List.mem_append.mpr (.inr (List.mem_map.mpr ⟨(m, i), hmi, rfl⟩))))))))
/-- the end of a law: the promise of the law's def from what the function gives -/
theorem law_end {L : Lw} {l : PySem.W.OpenLaw} {q : Program} {loose : List Str} {XP : (Str → Option Value) → Heap → Prop} {d : DefRec} {j k n : Nat} {fl : Fn} {w0 : World → Heap → Prop}
    (hY : ∀ w h, w0 w h → ∃ K : PySem.W.Frag, K.In h ∧ He.SaysD L.fas L.ds K ∧ excB K L.xs L.subs = true)
    (hn : l.most = some n) (hn2 : n ≤ sizeLine) (hdf : d.params.defaults = []) (hr : Room (2 * k) callerA) (hc : csOk L = true) (ha : AllOk L) (hl : L.ds.length = L.F.length)
    (hj : L.F[j]? = some fl) (hne : fl.name ≠ ("" : Str)) (hps : fl.ps = [("script" : Str)]) (hname : d.name = fl.name)
    (hlaw : ∀ ns : List Int, ns.length ≤ n → (∀ z ∈ ns, Builtin.Int.intBits z ≤ 1048576) → ∃ S, callK L.F L.tab k j [.scr ns] [] = some (.ok (.bl true) S)) :
    PySem.W.WalkO q loose XP w0 l.row.toRowW d [] (fun f vs => PySem.call f vs) := by
  classical
  refine Att.attach_callB hn hdf fun w s₀ s₁ mg mb fa o pm cd doc a vs ns G Yw ho hd hcd hmg hobj hints hlen hbits hg => ?_
  obtain ⟨K, KX, c, cx⟩ := hY w _ Yw
  have hdef : ∀ i : Nat, ∃ fd : FuncData, ∀ d : He.DefD, L.ds[i]? = some d → FunD K d.name d.qual d.params d.body d.scope [] [] (He.fAd K d.at_) fd := fun i => by
    cases e : L.ds[i]? with
    | none => exact ⟨⟨"", "", default, default, default, 0, [], .none, .none, .none, .none, none, .none, .none, 0⟩, fun d h => by cases h⟩
    | some d =>
      obtain ⟨fd, h⟩ := c.def_ i e
      have hi : i < L.F.length := hl ▸ (List.getElem?_eq_some_iff.mp e).1
      have D := ha i _ d (List.getElem?_eq_getElem hi) e
      refine ⟨fd, fun d' h' => ?_⟩
      cases h'
      have h1 : d.dvs K = [] := by unfold He.DefD.dvs; rw [D.dfl]; rfl
      have h2 : d.kws K = [] := by unfold He.DefD.kws; rw [D.kwd]; rfl
      rw [h1, h2] at h
      exact h
  let fd : Nat → FuncData := fun i => Classical.choose (hdef i)
  have hfd : ∀ (i : Nat) (d : He.DefD), L.ds[i]? = some d → FunD K d.name d.qual d.params d.body d.scope [] [] (He.fAd K d.at_) (fd i) := fun i d e => Classical.choose_spec (hdef i) d e
  let Y := L.sys K fd
  have faEq : ∀ (i : Nat) (d : He.DefD), L.ds[i]? = some d → Y.fa i = He.fAd K d.at_ := fun i d e => atB_fa (by unfold atB; rw [e]; exact decide_eq_true rfl)
  have all : ∀ base : Heap, K.In base → base.Ns mainGlobals mg → FnOk l.prog w K mg base (L2.CX l.prog w) (2 * k) (Y.fa j) (fd j) fl.ps (spI Y K k j) := fun base KB GB =>
    all_ok (Y := Y) L.ds hl (fun i f d e1 e2 => by
      have D := ha i f d e1 e2
      refine ⟨D, ?_⟩
      rw [faEq i d e2]
      exact hfd i d e2) (facts_of hc ha hl KB GB c cx hfd) k j fl hj
  have hi : j < L.ds.length := hl ▸ (List.getElem?_eq_some_iff.mp hj).1
  have D := ha j fl _ hj (List.getElem?_eq_getElem hi)
  have hfa : fa = Y.fa j := by
    have g : (He.Fa.glo fl.name).ok K = true := by
      have := congrArg Prod.fst c
      simp only [He.obsD, He.valD, Bool.and_eq_true] at this
      exact List.all_eq_true.mp this.1 _ (by unfold Lw.fas; simp only [List.mem_append, List.mem_map, List.mem_filter]; exact .inr (.inl (.inl (.inl (.inl ⟨fl, ⟨List.mem_of_getElem? hj, decide_eq_true hne⟩, rfl⟩)))))
    have := He.glo_ok KX G.T.g g
    rw [← hname, hmg] at this
    rw [faEq j _ (List.getElem?_eq_getElem hi), D.at_.resolve_left hne, ← hname]
    cases this
    rfl
  subst hfa
  refine law_call KX G.T.g G.T.b G.T.builtins G.T.nolimit hg hobj hints (Nat.le_trans hlen hn2) hr (x := ("script" : Str)) (sp := spI Y K k j) (fun base KB GB => by have := all base KB GB; rw [hps] at this; exact this) (fun s u => ?_) (fun H hO hS => ?_) (fun H e s' h => ?_)
  · have := (hfd j _ (List.getElem?_eq_getElem hi)).bindsA (ps := [("script" : Str)]) (fun kV doc pm an cdv ct us hu => by have := D.bind kV doc pm an cdv ct us (by rw [hps]; exact hu); rw [hps] at this; exact this) s [u] rfl
    exact this
  · obtain ⟨S, e⟩ := hlaw ns hlen hbits
    refine ⟨H, fun _ => none, fun _ => none, [], [.scr ns], ⟨fun a u h => .inl h, fun _ _ h => (by cases h), fun _ _ h => (by simp at h), fun _ _ _ h => (by simp at h), fun _ _ _ h => (by cases h), fun _ _ h => (by cases h), fun _ _ h => (by cases h), fun _ _ h => (by cases h), fun _ _ h => (by cases h), fun _ _ h => (by cases h), fun _ _ h => (by simp at h)⟩, .cons (.scr hS) .nil, ?_⟩
    have e' : callK Y.F Y.T k j [.scr ns] [] = some (.ok (.bl true) S) := e
    rw [e']
    intro G' μ' H' v g r q
    cases q
    rfl
  · obtain ⟨a, B, H', cls, dd, _, _, _, _, _, _, _, hE⟩ := h
    exact hE
end Ip
/-! ## Simplification of the evaluator -/
namespace Ip
open PySem PySem.Spec PyProof.Rows L2
@[simp] theorem sl_eq {a b : String} : (Str.ofString a = Str.ofString b) = (a = b) := by
  apply propext
  constructor
  · intro h
    rw [Str.ofString_eq_toList, Str.ofString_eq_toList] at h
    have h2 : a.toList.map Char.toNat = b.toList.map Char.toNat := by
      injection h with h
      injection h
    apply String.ext
    have : ∀ l m : List Char, l.map Char.toNat = m.map Char.toNat → l = m := by
      intro l
      induction l with
      | nil => intro m h; cases m with | nil => rfl | cons _ _ => cases h
      | cons c l ih =>
        intro m h
        cases m with
        | nil => cases h
        | cons d m =>
          rw [List.map_cons, List.map_cons] at h
          injection h with h1 h2
          rw [ih m h2, Char.toNat_inj.mp h1]
    exact this _ _ h2
  · intro h; rw [h]
section
variable {S : Sto} {n : Nat} {i j : Int} {x y : Str} {a b : Bool} {d : D} {xs ys : List D} {m : Bool}
@[simp] theorem le_size {n : Nat} : (n ≤ PySem.sizeLine) = (n ≤ 16777216) := by rw [PySem.sizeLine_eq]
@[simp] theorem cmpD_eq {x y : D} : cmpD .eq x y S = eqD S x y := rfl
@[simp] theorem cmpD_ne {x y : D} : cmpD .ne x y S = (eqD S x y).map not := rfl
@[simp] theorem cmpD_in {x y : D} : cmpD .isin x y S = inD S x y := rfl
@[simp] theorem cmpD_nin {x y : D} : cmpD .notin x y S = (inD S x y).map not := rfl
@[simp] theorem cmpD_is {x y : D} : cmpD .is_ x y S = isD x y := rfl
@[simp] theorem cmpD_isnot {x y : D} : cmpD .isnot x y S = (isD x y).map not := rfl
@[simp] theorem cmpD_lt : cmpD .lt (.int i) (.int j) S = some (decide (i < j)) := rfl
@[simp] theorem cmpD_le : cmpD .le (.int i) (.int j) S = some (decide (i ≤ j)) := rfl
@[simp] theorem cmpD_gt : cmpD .gt (.int i) (.int j) S = some (decide (j < i)) := rfl
@[simp] theorem cmpD_ge : cmpD .ge (.int i) (.int j) S = some (decide (j ≤ i)) := rfl
/-- text y ahead of text x -/
def ltS (y x : Str) : Bool := decide (y.cps.toList < x.cps.toList)
@[simp] theorem cmpD_les : cmpD .le (.str x) (.str y) S = some (!ltS y x) := rfl
@[simp] theorem eqD_int : eqD S (.int i) (.int j) = some (decide (i = j)) := rfl
@[simp] theorem eqD_str : eqD S (.str x) (.str y) = some (decide (x = y)) := rfl
@[simp] theorem eqD_bl : eqD S (.bl a) (.bl b) = some (decide (a = b)) := rfl
@[simp] theorem eqD_non : eqD S .non .non = some true := rfl
@[simp] theorem truD_bl : truD S (.bl a) = some a := rfl
@[simp] theorem truD_non : truD S .non = some false := rfl
@[simp] theorem isD_nn : isD .non .non = some true := rfl
@[simp] theorem isD_in : isD (.int i) .non = some false := rfl
@[simp] theorem isD_sn : isD (.str x) .non = some false := rfl
@[simp] theorem isD_tn : isD (.tup xs) .non = some false := rfl
@[simp] theorem isD_ln : isD (.lst xs) .non = some false := rfl
@[simp] theorem isD_bn : isD (.bl a) .non = some false := rfl
@[simp] theorem isD_bb : isD (.bl a) (.bl b) = some (decide (a = b)) := rfl
@[simp] theorem binD_add : binD .add false (.int i) (.int j) S = some (.ok (.int (i + j)) S) := rfl
@[simp] theorem binD_sub : binD .sub false (.int i) (.int j) S = some (.ok (.int (i - j)) S) := rfl
@[simp] theorem binD_mod (h : 0 < j) : binD .mod false (.int i) (.int j) S = some (.ok (.int (i % j)) S) := by
  show okO ((binI .mod i j).map D.int) S = _
  unfold binI
  simp [h]
theorem binD_fdivL (h : 0 < j) (h2 : j < 2 ^ 400) : binD .fdiv false (.int i) (.int j) S = some (.ok (.int (i / j)) S) := by
  show okO ((binI .fdiv i j).map D.int) S = _
  have e : binI .fdiv i j = some (i / j) := by
    show (@ite _ (0 < j ∧ j < 2 ^ 400) (Classical.propDecidable _) (some (i / j)) none) = _
    exact if_pos ⟨h, h2⟩
  rw [e]; rfl
theorem small_400 (h2 : j < 1073741824) : j < 2 ^ 400 := by
  have : (1073741824 : Int) ≤ 2 ^ 400 := by decide +kernel
  omega
@[simp] theorem binD_fdiv (h : 0 < j) (h2 : j < 1073741824) : binD .fdiv false (.int i) (.int j) S = some (.ok (.int (i / j)) S) := binD_fdivL h (small_400 h2)
theorem binD_pow (h : 0 ≤ j ∧ j ≤ 1000000 ∧ i.natAbs < 2 ^ 64) : binD .pow false (.int i) (.int j) S = some (.ok (.int (i ^ j.toNat)) S) := by
  show okO ((binI .pow i j).map D.int) S = _
  unfold binI
  rw [if_pos h] <;> rfl
theorem binD_mul (h : (-(2 ^ 64) < i ∧ i < 2 ^ 64) ∨ (-(2 ^ 64) < j ∧ j < 2 ^ 64)) : binD .mul false (.int i) (.int j) S = some (.ok (.int (i * j)) S) := by
  show okO ((binI .mul i j).map D.int) S = _
  unfold binI
  rw [if_pos h] <;> rfl
theorem binD_strs (h : x.length + y.length ≤ sizeLine) : binD .add false (.str x) (.str y) S = some (.ok (.str (x ++ y)) S) := by
  show (if x.length + y.length ≤ sizeLine then some (Ro.ok (D.str (x ++ y)) S) else none) = _
  rw [if_pos h]
theorem binD_tups (h : xs.length + ys.length ≤ sizeLine) : binD .add false (.tup xs) (.tup ys) S = some (.ok (.tup (xs ++ ys)) S) := by
  show (if xs.length + ys.length ≤ sizeLine then some (Ro.ok (D.tup (xs ++ ys)) S) else none) = _
  rw [if_pos h]
theorem binD_lsts (h : xs.length + ys.length ≤ sizeLine) : binD .add m (.lst xs) (.lst ys) S = mkL m (xs ++ ys) S := by
  show (if xs.length + ys.length ≤ sizeLine then mkL m (xs ++ ys) S else none) = _
  rw [if_pos h]
@[simp] theorem biD_lenT : biD .len [.tup xs] S = some (.int xs.length) := rfl
@[simp] theorem biD_lenL : biD .len [.lst xs] S = some (.int xs.length) := rfl
@[simp] theorem biD_lenC {ns : List Int} : biD .len [.scr ns] S = some (.int ns.length) := by
  show (seqD S (.scr ns)).map (fun xs => D.int xs.length) = _
  simp [seqD]
theorem biD_lenS (h : x.length ≤ sizeLine) : biD .len [.str x] S = some (.int x.length) := by
  show (if x.length ≤ sizeLine then some (D.int x.length) else none) = _
  rw [if_pos h]
@[simp] theorem biD_int : biD .int [.int i] S = some (.int i) := rfl
@[simp] theorem biD_tupT : biD .tuple [.tup xs] S = some (.tup xs) := rfl
@[simp] theorem biD_tupL : biD .tuple [.lst xs] S = some (.tup xs) := rfl
@[simp] theorem biD_max : biD .max [.int i, .int j] S = some (.int (if j > i then j else i)) := rfl
@[simp] theorem biD_min : biD .min [.int i, .int j] S = some (.int (if j < i then j else i)) := rfl
theorem biD_tupR {n : Nat} (h : S[n]? = some (.lst xs)) : biD .tuple [.ref n] S = some (.tup xs) := by
  show (lstD S (.ref n)).map D.tup = _
  rw [lstD, getL_eq h]; rfl
@[simp] theorem ixD_tup : ixD S (.tup xs) (.int i) = atI xs i := rfl
@[simp] theorem ixD_lst : ixD S (.lst xs) (.int i) = atI xs i := rfl
@[simp] theorem ixD_scr {ns : List Int} : ixD S (.scr ns) (.int i) = atI (ns.map .int) i := rfl
theorem dctD_lst (h : S[n]? = some (.lst xs)) : dctD S (.ref n) = none := by
  unfold dctD; simp only [h]
theorem dctD_dref {t : Nat} {ks vs : List D} (h : S[n]? = some (.dct t ks vs)) : dctD S (.ref n) = some (t, ks, vs) := by
  unfold dctD; simp only [h]
theorem ixD_ref {n : Nat} (h : S[n]? = some (.lst xs)) : ixD S (.ref n) (.int i) = atI xs i := by
  show (match dctD S (.ref n) with
    | some q => match dGet q (.int i) with
      | some (some d) => some d
      | _ => none
    | none => match (D.int i), seqD S (.ref n) with
      | .int i, some xs => atI xs i
      | _, _ => none) = _
  rw [dctD_lst h]
  show (match (D.int i), getL S n with
      | .int i, some xs => atI xs i
      | _, _ => none) = _
  rw [getL_eq h]
@[simp] theorem ixD_dct {t : Nat} {ks vs : List D} {y : D} : ixD S (.dct t ks vs) y = (dGet (t, ks, vs) y).bind id := by
  have e : ixD S (.dct t ks vs) y = (match dGet (t, ks, vs) y with
      | some (some d) => some d
      | _ => none) := by
    cases y <;> rfl
  rw [e]
  cases dGet (t, ks, vs) y with
  | none => rfl
  | some o => cases o <;> rfl
theorem ixD_dref {t : Nat} {ks vs : List D} {y : D} (h : S[n]? = some (.dct t ks vs)) : ixD S (.ref n) y = (dGet (t, ks, vs) y).bind id := by
  have e : ixD S (.ref n) y = (match dctD S (.ref n) with
    | some q => match dGet q y with
      | some (some d) => some d
      | _ => none
    | none => match y, seqD S (.ref n) with
      | .int i, some xs => atI xs i
      | _, _ => none) := by
    cases y <;> rfl
  rw [e, dctD_dref h]
  show (match dGet (t, ks, vs) y with
      | some (some d) => some d
      | _ => none) = _
  cases dGet (t, ks, vs) y with
  | none => rfl
  | some o => cases o <;> rfl
@[simp] theorem inD_dct {t : Nat} {ks vs : List D} {y : D} : inD S y (.dct t ks vs) = (dGet (t, ks, vs) y).map Option.isSome := by
  cases y <;> rfl
theorem inD_dref {t : Nat} {ks vs : List D} {y : D} (h : S[n]? = some (.dct t ks vs)) : inD S y (.ref n) = (dGet (t, ks, vs) y).map Option.isSome := by
  have e : inD S y (.ref n) = (match dctD S (.ref n) with
    | some q => (dGet q y).map Option.isSome
    | none => match pd y, pd (res2 S (.ref n)) with
      | some a, some (.list b) => if SeqAt.shaped a = true ∧ SeqAt.shaped (.list b) = true then some (b.any fun z => PyData.eqv z a) else none
      | _, _ => none) := by
    cases y <;> rfl
  rw [e, dctD_dref h]
@[simp] theorem dGet_0s {ks vs : List D} : dGet (0, ks, vs) (.str x) = some (lookK kKey (.inr x) ks vs) := rfl
@[simp] theorem dGet_0i {ks vs : List D} : dGet (0, ks, vs) (.int i) = some (lookK kKey (.inl i) ks vs) := rfl
@[simp] theorem kKey_s : kKey (.str x) = some (.inr x) := rfl
@[simp] theorem kKey_i : kKey (.int i) = some (.inl i) := rfl
@[simp] theorem lookK_c {κ : Type} [DecidableEq κ] {f : D → Option κ} {k : κ} {a v : D} {ks vs : List D} : lookK f k (a :: ks) (v :: vs) = if f a = some k then some v else lookK f k ks vs := rfl
@[simp] theorem lookK_n {κ : Type} [DecidableEq κ] {f : D → Option κ} {k : κ} : lookK f k [] [] = none := rfl
theorem ixD_str (h : x.length ≤ sizeLine) : ixD S (.str x) (.int i) = (atI x.cps.toList i).map fun c => .str ⟨#[c]⟩ := by
  show (if x.length ≤ sizeLine then (atI x.cps.toList i).map fun c => D.str ⟨#[c]⟩ else none) = _
  rw [if_pos h]
@[simp] theorem slD_tup {l h : Option Int} : slD false (.tup xs) l h S = some (.ok (.tup (cutD xs l h)) S) := rfl
theorem slD_str {l h : Option Int} (hz : x.length ≤ sizeLine) : slD false (.str x) l h S = some (.ok (.str (cutS x l h)) S) := by
  show (if x.length ≤ sizeLine then some (Ro.ok (D.str (cutS x l h)) S) else none) = _
  rw [if_pos hz]
@[simp] theorem itD_tup : itD (.tup xs) = some xs := rfl
@[simp] theorem itD_lst : itD (.lst xs) = some xs := rfl
@[simp] theorem itD_str : itD (.str x) = some (x.cps.toList.map fun c => .str ⟨#[c]⟩) := rfl
@[simp] theorem atI_z {α : Type} {z : α} {r : List α} : atI (z :: r) 0 = some z := by simp [atI, ixN]
@[simp] theorem atI_1 {α : Type} {z z1 : α} {r : List α} : atI (z :: z1 :: r) 1 = some z1 := by
  unfold atI ixN
  rw [if_pos (by decide), if_pos (by simp only [List.length_cons]; omega)]; rfl
@[simp] theorem atI_2 {α : Type} {z z1 z2 : α} {r : List α} : atI (z :: z1 :: z2 :: r) 2 = some z2 := by
  unfold atI ixN
  rw [if_pos (by decide), if_pos (by simp only [List.length_cons]; omega)]; rfl
@[simp] theorem atI_3 {α : Type} {z z1 z2 z3 : α} {r : List α} : atI (z :: z1 :: z2 :: z3 :: r) 3 = some z3 := by
  unfold atI ixN
  rw [if_pos (by decide), if_pos (by simp only [List.length_cons]; omega)]; rfl
@[simp] theorem atI_nil {α : Type} {i : Int} : atI ([] : List α) i = none := by
  unfold atI ixN
  by_cases h : 0 ≤ i
  · rw [if_pos h, if_neg (by simp only [List.length_nil]; omega)]; rfl
  · rw [if_neg h, if_neg (by simp only [List.length_nil]; omega)]; rfl
theorem atI_in {α : Type} {l : List α} {i : Int} (h0 : 0 ≤ i) (h : i < l.length) : ∃ z, l[i.toNat]? = some z ∧ atI l i = some z := by
  have hl : i.toNat < l.length := by omega
  exact ⟨l[i.toNat], List.getElem?_eq_getElem hl, by unfold atI ixN; rw [if_pos h0, if_pos h]; exact List.getElem?_eq_getElem hl⟩
/-- the numbers from i on -/
def rg : Int → Nat → List D
  | _, 0 => []
  | i, n + 1 => .int i :: rg (i + 1) n
theorem rg_eq : ∀ (n : Nat) (i : Int), ((List.range n).map fun (k : Nat) => D.int (i + k)) = rg i n
  | 0, i => rfl
  | n + 1, i => by
    rw [List.range_succ_eq_map, List.map_cons, List.map_map, rg, ← rg_eq n (i + 1)]
    simp only [Int.natCast_zero, Int.add_zero, List.cons.injEq, true_and]
    refine List.map_congr_left fun k _ => ?_
    show D.int (i + ((k + 1 : Nat) : Int)) = D.int (i + 1 + k)
    congr 1; omega
theorem rngD_rg (h : -(2 ^ 62) ≤ i ∧ i < 2 ^ 62 ∧ -(2 ^ 62) ≤ j ∧ j < 2 ^ 62) : rngD i j = some (rg i (j - i).toNat) := by
  unfold rngD; rw [if_pos h, rg_eq]
theorem rngD_len {n : Nat} (h : n ≤ 16777216) : rngD 0 (n : Int) = some (rg 0 n) := by
  rw [rngD_rg ⟨by decide, by decide, by omega, by omega⟩, Int.sub_zero, Int.toNat_natCast]
/-- the item at a place, or nothing of note -/
def pk (l : List D) (i : Int) : D := (atI l i).getD .non
theorem atI_pk {l : List D} (h0 : 0 ≤ i) (h : i < l.length) : atI l i = some (pk l i) := by
  obtain ⟨z, _, e⟩ := atI_in h0 h
  rw [pk, e]; rfl
theorem pk_mem {l : List D} (h0 : 0 ≤ i) (h : i < l.length) : pk l i ∈ l := by
  obtain ⟨z, e1, e⟩ := atI_in h0 h
  rw [pk, e]; exact List.mem_of_getElem? e1
theorem getL_app {zs : List D} (h : getL S n = some zs) (T : Sto) : getL (S ++ T) n = some zs := by
  unfold getL at h ⊢
  cases e : S[n]? with
  | none => rw [e] at h; cases h
  | some o =>
    rw [e] at h
    rw [List.getElem?_append_left (List.getElem?_eq_some_iff.mp e).1, e]; exact h
theorem atI_last {α : Type} {z : α} {r : List α} : atI (z :: r) (-1) = some ((z :: r).getLast (by simp)) := by
  unfold atI ixN
  rw [if_neg (by decide), if_pos (by simp only [List.length_cons]; omega)]
  simp only [Option.bind_some]
  rw [List.getLast_eq_getElem]
  have : (-1 + ((z :: r).length : Int)).toNat = (z :: r).length - 1 := by omega
  rw [this]
  exact List.getElem?_eq_getElem (by simp only [List.length_cons]; omega)
theorem atI_nn {α : Type} {l : List α} {i : Nat} : atI l (i : Int) = l[i]? := by
  unfold atI ixN
  rw [if_pos (by omega)]
  by_cases h : (i : Int) < l.length
  · rw [if_pos h]; rfl
  · rw [if_neg h]
    have : l.length ≤ i := by omega
    rw [List.getElem?_eq_none this]; rfl
@[simp] theorem meD_sw : meD .startswith (.str x) [.str y] S = some (.ok (.bl (Txt.startswith x y)) S) := rfl
@[simp] theorem tyM_sw : tyM .startswith (.str x) S = true := rfl
theorem meD_app {n : Nat} (h : S[n]? = some (.lst xs)) (hz : xs.length < sizeLine) : meD .append (.ref n) [d] S = some (.ok .non (S.set n (.lst (xs ++ [d])))) := by
  show (match getL S n with
    | some zs => if zs.length < sizeLine then some (Ro.ok D.non (S.set n (.lst (zs ++ [d])))) else none
    | _ => none) = _
  rw [getL_eq h]
  simp only [hz, if_true]
theorem tyM_app {n : Nat} (h : S[n]? = some (.lst xs)) : tyM .append (.ref n) S = true := by
  show (getL S n).isSome = true
  rw [getL_eq h]; rfl
theorem frz_pure (j : Nat) (d : D) (S : Sto) (h : d.pure = true) : frz (j + 1) d S = some (d, S) := by
  cases d with
  | ref n => cases h
  | lst xs => rw [D.pure] at h; rw [frz, if_pos h]
  | tup xs => rw [D.pure] at h; rw [frz, if_pos h]
  | non => simp [frz, D.pure]
  | bl b => simp [frz, D.pure]
  | int b => simp [frz, D.pure]
  | str b => simp [frz, D.pure]
  | scr b => simp [frz, D.pure]
  | dct t ks vs => simp only [frz]; rw [if_pos h]
  | obj c ns vs => simp only [frz]; rw [if_pos h]
theorem mapF_pure (j : Nat) (S : Sto) : ∀ xs : List D, pures xs = true → mapF (frz (j + 1)) xs S = some (xs, S)
  | [], _ => rfl
  | x :: xs, h => by
    rw [pures, Bool.and_eq_true] at h
    rw [mapF, frz_pure j x S h.1]
    simp only
    rw [mapF_pure j S xs h.2]
theorem callP_z {Γ : Gam} {f : Nat} {ds : List D} {r d : D} {S1 S2 : Sto} (hp : pures ds = true) (h : Γ f ds [] = some (.ok r S1)) (hz : frz 9 r S1 = some (d, S2)) (hr : d.pure = true) : callP Γ true f ds S = some (.ok d S) := by
  unfold callP frzR
  simp only [hp, h, bnd_ok, hz, hr, if_true]
theorem callP_t {Γ : Gam} {f : Nat} {ds : List D} {r : D} {S1 : Sto} (hp : pures ds = true) (h : Γ f ds [] = some (.ok r S1)) (hr : r.pure = true) : callP Γ true f ds S = some (.ok r S) :=
  callP_z hp h (frz_pure 8 r S1 hr) hr
@[simp] theorem callP_f {Γ : Gam} {f : Nat} {ds : List D} : callP Γ false f ds S = Γ f ds S := rfl
theorem callP_tx {Γ : Gam} {f : Nat} {ds : List D} {c : Nat} {S1 : Sto} (hp : pures ds = true) (h : Γ f ds [] = some (.ex c S1)) : callP Γ true f ds S = some (.ex c S) := by
  unfold callP frzR
  simp only [hp, h, bnd_ex, if_true]
theorem cutD_mem {l h : Option Int} {y : D} (hy : y ∈ cutD xs l h) : y ∈ xs := List.mem_of_mem_drop (List.mem_of_mem_take hy)
theorem cutD_le {l h : Option Int} : (cutD xs l h).length ≤ xs.length := by
  unfold cutD
  rw [List.length_take, List.length_drop]; omega
theorem sIx_nn {n d : Nat} (h : 0 ≤ i) : HT.sIx n d (some i) = min i.toNat n := by
  show (if i < 0 then (i + (n : Int)).toNat else min i.toNat n) = _
  rw [if_neg (by omega)]
theorem cut_hi {α : Type} {l : List α} (h : 0 ≤ i) : (l.drop (HT.sIx l.length 0 none)).take (HT.sIx l.length l.length (some i) - HT.sIx l.length 0 none) = l.take i.toNat := by
  rw [sIx_nn h]
  show (l.drop 0).take (min i.toNat l.length - 0) = _
  rw [List.drop_zero, Nat.sub_zero, ← List.take_eq_take_min]
theorem cut_lo {α : Type} {l : List α} (h : 0 ≤ i) : (l.drop (HT.sIx l.length 0 (some i))).take (HT.sIx l.length l.length none - HT.sIx l.length 0 (some i)) = l.drop i.toNat := by
  rw [sIx_nn h]
  show (l.drop (min i.toNat l.length)).take (l.length - min i.toNat l.length) = _
  rw [List.take_of_length_le (by rw [List.length_drop]; omega)]
  by_cases c : i.toNat ≤ l.length
  · rw [Nat.min_eq_left c]
  · rw [Nat.min_eq_right (by omega), List.drop_of_length_le (Nat.le_refl _), List.drop_of_length_le (by omega)]
theorem cut_mid {α : Type} {l : List α} (h : 0 ≤ i) (h2 : 0 ≤ j) : ((l.drop (HT.sIx l.length 0 (some i))).take (HT.sIx l.length l.length (some j) - HT.sIx l.length 0 (some i))).length = min j.toNat l.length - min i.toNat l.length := by
  rw [sIx_nn h, sIx_nn h2, List.length_take, List.length_drop]; omega
theorem cutD_hi (h : 0 ≤ i) : cutD xs none (some i) = xs.take i.toNat := cut_hi h
theorem cutD_lo (h : 0 ≤ i) : cutD xs (some i) none = xs.drop i.toNat := cut_lo h
theorem cutD_mid (h : 0 ≤ i) (h2 : 0 ≤ j) : (cutD xs (some i) (some j)).length = min j.toNat xs.length - min i.toNat xs.length := cut_mid h h2
theorem cutS_hi (h : 0 ≤ i) : cutS x none (some i) = ⟨(x.cps.toList.take i.toNat).toArray⟩ := by
  unfold cutS
  rw [show x.length = x.cps.toList.length from Array.length_toList.symm, cut_hi h]
theorem cutS_lo (h : 0 ≤ i) : cutS x (some i) none = ⟨(x.cps.toList.drop i.toNat).toArray⟩ := by
  unfold cutS
  rw [show x.length = x.cps.toList.length from Array.length_toList.symm, cut_lo h]
theorem cutS_le {l h : Option Int} : (cutS x l h).length ≤ x.length := by
  show (((x.cps.toList.drop _).take _).toArray).size ≤ _
  rw [List.size_toArray, List.length_take, List.length_drop, show x.cps.toList.length = x.length from Array.length_toList]; omega
theorem lcLoop_map {turn : D → Sto → Option (Ro (Option D))} {f : D → Option D} : ∀ (xs : List D) (acc : List D), (∀ x ∈ xs, turn x S = some (.ok (f x) S)) → lcLoop turn xs S acc = some (.ok (acc ++ xs.filterMap f) S)
  | [], acc, _ => by simp [lcLoop]
  | x :: xs, acc, h => by
    rw [lcLoop, h x (by simp)]
    cases e : f x with
    | none => simp only [List.filterMap_cons, e]; exact lcLoop_map xs acc fun y hy => h y (by simp [hy])
    | some y =>
      simp only [List.filterMap_cons, e]
      rw [lcLoop_map xs (acc ++ [y]) fun y hy => h y (by simp [hy])]
      simp
end
end Ip
/-! ## loops and comprehensions, once more -/
namespace Ip
open PySem PySem.Spec PyProof.Rows L2
section
variable {Γ : Gam} {T : Tab} {S : Sto} {env : En}
theorem forL_all {body : En → Sto → Option So} {i : Nat} (p : D → Bool) : ∀ {xs : List D} {env : En}, (∀ x ∈ xs, body (env.set i (some x)) S = if p x then some (.nx (env.set i (some x)) S) else some (.rt (.bl false) S)) →
    ∃ e, forL (.n i) body xs env S = if xs.all p then some (.nx e S) else some (.rt (.bl false) S)
  | [], env, _ => ⟨env, rfl⟩
  | x :: xs, env, h => by
    obtain ⟨e, ih⟩ := forL_all (body := body) (i := i) p (xs := xs) (env := env.set i (some x)) (fun y hy => by
      rw [List.set_set]; exact h y (List.mem_cons_of_mem _ hy))
    refine ⟨e, ?_⟩
    simp only [forL, asgT]
    rw [h x (List.mem_cons_self ..), List.all_cons]
    cases hx : p x with
    | true => simp only [if_true, Bool.true_and]; exact ih
    | false => simp
theorem lc_no {m : Bool} {own : List (Str × Nat)} {i : Nat} {it : Itr} {x : Ex} {xs : List D} (f : D → D) (hi : evalI Γ T it env S = some (.ok xs S)) (hl : xs.length ≤ sizeLine)
    (hx : ∀ y ∈ xs, evalE Γ T x ((wipeE env (own.map (·.2))).set i (some y)) S = some (.ok (f y) S)) : evalE Γ T (.lc m own (.n i) it .no x) env S = mkL m (xs.map f) S := by
  rw [evalE, hi]
  simp only [bnd_ok]
  rw [if_pos hl, lcLoop_map (S := S) (f := fun y => some (f y)) xs []]
  · simp
  · intro y hy
    simp only [asgT, evalC, bnd_ok]
    rw [hx y hy]; rfl
theorem lc_so {m : Bool} {own : List (Str × Nat)} {i : Nat} {it : Itr} {c x : Ex} {xs : List D} (p : D → Bool) (f : D → D) (hi : evalI Γ T it env S = some (.ok xs S)) (hl : xs.length ≤ sizeLine)
    (hc : ∀ y ∈ xs, evalT Γ T c ((wipeE env (own.map (·.2))).set i (some y)) S = some (.ok (p y) S))
    (hx : ∀ y ∈ xs, p y = true → evalE Γ T x ((wipeE env (own.map (·.2))).set i (some y)) S = some (.ok (f y) S)) : evalE Γ T (.lc m own (.n i) it (.so c) x) env S = mkL m ((xs.filter p).map f) S := by
  rw [evalE, hi]
  simp only [bnd_ok]
  rw [if_pos hl, lcLoop_map (S := S) (f := fun y => if p y then some (f y) else none) xs []]
  · have q : ∀ l : List D, l.filterMap (fun y => if p y then some (f y) else none) = (l.filter p).map f := by
      intro l
      induction l with
      | nil => rfl
      | cons a l ih => cases h : p a <;> simp [h, ih]
    rw [q]
    simp
  · intro y hy
    simp only [asgT, evalC]
    rw [hc y hy]
    simp only [bnd_ok]
    cases hp : p y with
    | true => simp only [if_true]; rw [hx y hy hp]; rfl
    | false => simp
theorem asBls_map : ∀ bs : List Bool, asBls (bs.map .bl) = some bs
  | [] => rfl
  | b :: bs => by rw [List.map_cons, asBls, asBls_map bs]; rfl
@[simp] theorem biD_all {bs : List Bool} : biD .all [.lst (bs.map .bl)] S = some (.bl (bs.all id)) := by
  show ((some (bs.map D.bl)).bind asBls).map (fun bs => D.bl (bs.all id)) = _
  rw [Option.bind_some, asBls_map]; rfl
@[simp] theorem biD_allc {f : D → Bool} {xs : List D} : biD .all [.lst (xs.map (D.bl ∘ f))] S = some (.bl (xs.all f)) := by
  have e := biD_all (S := S) (bs := xs.map f)
  rw [List.map_map] at e
  rw [e]
  simp [List.all_map]
theorem asInts_map : ∀ bs : List Int, asInts (bs.map .int) = some bs
  | [] => rfl
  | b :: bs => by rw [List.map_cons, asInts, asInts_map bs]; rfl
@[simp] theorem biD_sum {bs : List Int} : biD .sum [.lst (bs.map .int)] S = some (.int bs.sum) := by
  show ((some (bs.map D.int)).bind asInts).map (fun bs => D.int bs.sum) = _
  rw [Option.bind_some, asInts_map]; rfl
end
end Ip
namespace Lk
open PySem PySem.Spec PyProof.Rows L2 Ip

def top (i : Nat) : Stmt := PySem.Challenge.pw_cutpapers_k12_large_runs.main.body.getD i (.Pass ⟨0, 0, 0, 0⟩)
def sub (i j : Nat) : Stmt := match top i with
  | .ClassDef _ _ _ b _ _ _ _ _ _ _ => b.getD j (.Pass ⟨0, 0, 0, 0⟩)
  | _ => .Pass ⟨0, 0, 0, 0⟩
abbrev i_is_integer : Nat := 0
abbrev i_is_variable : Nat := 1
abbrev i_is_changes : Nat := 2
abbrev i_is_event : Nat := 3
abbrev i_letters_of : Nat := 4
abbrev i_is_possible : Nat := 5
abbrev i_is_run : Nat := 6
abbrev i_Order___init__ : Nat := 7
abbrev i_Order_count : Nat := 8
abbrev i_Order_size : Nat := 9
abbrev i_Order_clock : Nat := 10
abbrev i_Order_before : Nat := 11
abbrev i_Order_empty : Nat := 12
abbrev i_Order_whole : Nat := 13
abbrev i_Order_is_cut : Nat := 14
abbrev i_Order_added : Nat := 15
abbrev i_Order_ups : Nat := 16
abbrev i_Order_state : Nat := 17
abbrev i_Order_under_way : Nat := 18
abbrev i_Order_cuts : Nat := 19
abbrev i_Order__reckon : Nat := 20
abbrev i_Order__ready : Nat := 21
abbrev i_Order__clock_of : Nat := 22
abbrev i_states_of : Nat := 23
abbrev i_places_of : Nat := 24
abbrev i_covers : Nat := 25
abbrev i_joined : Nat := 26
abbrev i__law_bag : Nat := 27
abbrev i__law_draw : Nat := 28
abbrev i__law_changes : Nat := 29
abbrev i__law_large : Nat := 30
abbrev i__law_is_cut : Nat := 31
abbrev i__law_up : Nat := 32
abbrev i__law_state : Nat := 33
abbrev i__law_way : Nat := 34
abbrev i__law_many : Nat := 35
abbrev i__law_rows_right : Nat := 36
abbrev i__law_before_right : Nat := 37
abbrev i__law_near : Nat := 38
abbrev i__law_cut_right : Nat := 39
abbrev i_law : Nat := 40
abbrev g_MOST_PROCESSES : Nat := 0
abbrev g_MOST_EVENTS : Nat := 1
abbrev g_MOST_VALUE : Nat := 2
abbrev g_MOST_LETTER : Nat := 3
abbrev g_VARIABLES_forms : Nat := 4
abbrev g_VARIABLES_order : Nat := 5
def b_is_integer : Stms := (.cons (.ifs (.or (.not (.isi (.v 0) .int)) (.isi (.v 0) .bool)) (.cons (.ret (.c (.bl false))) .nil) .nil) (.cons (.ret (.and (.cmp .le (.v 1) (.v 0)) (.cmp .le (.v 0) (.v 2)))) .nil))
abbrev s_is_integer : Stmt := top 9
def f_is_integer : Fn := { name := "is_integer", ps := ["value", "least", "greatest"], N := ["value", "least", "greatest"], body := b_is_integer }
def d_is_integer : He.DefD := ⟨("is_integer", none), "is_integer", "is_integer", defArgs s_is_integer, defBody s_is_integer, defScope s_is_integer, [], []⟩
def b_is_variable : Stms := (.cons (.ret (.and (.isi (.v 0) .str) (.and (.cmp .eq (.bi .len (.cons (.v 0) .nil)) (.c (.int 1))) (.cmp .isin (.v 0) (.g g_VARIABLES_forms))))) .nil)
abbrev s_is_variable : Stmt := top 12
def f_is_variable : Fn := { name := "is_variable", ps := ["value"], N := ["value"], body := b_is_variable }
def d_is_variable : He.DefD := ⟨("is_variable", none), "is_variable", "is_variable", defArgs s_is_variable, defBody s_is_variable, defScope s_is_variable, [], []⟩
def l_is_changes_1 : Stms := (.cons (.ifs (.or (.not (.isi (.v 2) .tuple)) (.or (.cmp .ne (.bi .len (.cons (.v 2) .nil)) (.c (.int 2))) (.not (.call i_is_variable true (.cons (.ix (.v 2) (.c (.int 0))) .nil))))) (.cons (.ret (.c (.bl false))) .nil) .nil) (.cons (.ifs (.or (.cmp .le (.ix (.v 2) (.c (.int 0))) (.v 1)) (.not (.call i_is_integer true (.cons (.ix (.v 2) (.c (.int 1))) (.cons (.neg (.g g_MOST_VALUE)) (.cons (.g g_MOST_VALUE) .nil)))))) (.cons (.ret (.c (.bl false))) .nil) .nil) (.cons (.asg (.n 1) (.ix (.v 2) (.c (.int 0)))) .nil)))
def b_is_changes : Stms := (.cons (.ifs (.not (.isi (.v 0) .tuple)) (.cons (.ret (.c (.bl false))) .nil) .nil) (.cons (.asg (.n 1) (.c (.str ""))) (.cons (.for (.n 2) (.of (.v 0)) l_is_changes_1) (.cons (.ret (.c (.bl true))) .nil))))
abbrev s_is_changes : Stmt := top 13
def f_is_changes : Fn := { name := "is_changes", ps := ["value"], N := ["value", "last", "change"], body := b_is_changes }
def d_is_changes : He.DefD := ⟨("is_changes", none), "is_changes", "is_changes", defArgs s_is_changes, defBody s_is_changes, defScope s_is_changes, [], []⟩
def b_is_event : Stms := (.cons (.ifs (.or (.not (.isi (.v 0) .tuple)) (.or (.cmp .eq (.v 0) (.tup .nil)) (.not (.isi (.ix (.v 0) (.c (.int 0))) .str)))) (.cons (.ret (.c (.bl false))) .nil) .nil) (.cons (.ifs (.cmp .eq (.ix (.v 0) (.c (.int 0))) (.c (.str "step"))) (.cons (.ret (.and (.cmp .eq (.bi .len (.cons (.v 0) .nil)) (.c (.int 2))) (.call i_is_changes true (.cons (.ix (.v 0) (.c (.int 1))) .nil)))) .nil) .nil) (.cons (.ifs (.or (.cmp .notin (.ix (.v 0) (.c (.int 0))) (.tup (.cons (.c (.str "send")) (.cons (.c (.str "take")) .nil)))) (.cmp .ne (.bi .len (.cons (.v 0) .nil)) (.c (.int 3)))) (.cons (.ret (.c (.bl false))) .nil) .nil) (.cons (.ret (.and (.call i_is_integer true (.cons (.ix (.v 0) (.c (.int 1))) (.cons (.c (.int 1)) (.cons (.g g_MOST_LETTER) .nil)))) (.call i_is_changes true (.cons (.ix (.v 0) (.c (.int 2))) .nil)))) .nil))))
abbrev s_is_event : Stmt := top 14
def f_is_event : Fn := { name := "is_event", ps := ["value"], N := ["value"], body := b_is_event }
def d_is_event : He.DefD := ⟨("is_event", none), "is_event", "is_event", defArgs s_is_event, defBody s_is_event, defScope s_is_event, [], []⟩
def q_letters_of_1 : Oe := (.so (.cmp .eq (.ix (.v 3) (.c (.int 0))) (.v 1)))
def e_letters_of_1 : Ex := (.ix (.v 3) (.c (.int 1)))
def k_letters_of_1 : Ex := (.lc2 false [("row", 2), ("event", 3)] (.n 2) (.of (.v 0)) .no [3] (.n 3) (.of (.v 2)) q_letters_of_1 e_letters_of_1)
def b_letters_of : Stms := (.cons (.ret k_letters_of_1) .nil)
abbrev s_letters_of : Stmt := top 15
def f_letters_of : Fn := { name := "letters_of", ps := ["run", "kind"], N := ["run", "kind", "row", "event"], body := b_letters_of }
def d_letters_of : He.DefD := ⟨("letters_of", none), "letters_of", "letters_of", defArgs s_letters_of, defBody s_letters_of, defScope s_letters_of, [], []⟩
def w_is_possible_1 : Ex := (.v 5)
def w_is_possible_2 : Ex := (.cmp .lt (.ix (.v 2) (.v 6)) (.bi .len (.cons (.v 4) .nil)))
def l_is_possible_1 : Stms := (.cons (.asg (.n 7) (.ix (.v 4) (.ix (.v 2) (.v 6)))) (.cons (.ifs (.and (.cmp .eq (.ix (.v 7) (.c (.int 0))) (.c (.str "take"))) (.cmp .notin (.ix (.v 7) (.c (.int 1))) (.v 1))) (.cons .brk .nil) .nil) (.cons (.ifs (.cmp .eq (.ix (.v 7) (.c (.int 0))) (.c (.str "send"))) (.cons (.asgS (.v 1) (.ix (.v 7) (.c (.int 1))) (.c (.bl true))) .nil) .nil) (.cons (.augS (.v 2) (.v 6) .add (.c (.int 1))) (.cons (.aug 3 .sub (.c (.int 1))) (.cons (.asg (.n 5) (.c (.bl true))) .nil))))))
def l_is_possible_2 : Stms := (.cons (.whl w_is_possible_2 l_is_possible_1) .nil)
def l_is_possible_3 : Stms := (.cons (.asg (.n 5) (.c (.bl false))) (.cons (.for (.t (.cons (.n 6) (.cons (.n 4) .nil))) (.enum (.v 0)) l_is_possible_2) .nil))
def e_is_possible_1 : Ex := (.bi .len (.cons (.v 4) .nil))
def k_is_possible_1 : Ex := (.lc false [("row", 4)] (.n 4) (.of (.v 0)) .no e_is_possible_1)
def b_is_possible : Stms := (.cons (.asg (.n 1) (.dct true 0 [] [])) (.cons (.asg (.n 2) (.bin .mul true (.lst false (.cons (.c (.int 0)) .nil)) (.bi .len (.cons (.v 0) .nil)))) (.cons (.asg (.n 3) (.bi .sum (.cons k_is_possible_1 .nil))) (.cons (.asg (.n 5) (.c (.bl true))) (.cons (.whl w_is_possible_1 l_is_possible_3) (.cons (.ret (.cmp .eq (.v 3) (.c (.int 0)))) .nil))))))
abbrev s_is_possible : Stmt := top 16
def f_is_possible : Fn := { name := "is_possible", ps := ["run"], N := ["run", "sent", "done", "left", "row", "moved", "process", "event"], body := b_is_possible }
def d_is_possible : He.DefD := ⟨("is_possible", none), "is_possible", "is_possible", defArgs s_is_possible, defBody s_is_possible, defScope s_is_possible, [], []⟩
def l_is_run_1 : Stms := (.cons (.ifs (.not (.call i_is_event true (.cons (.v 2) .nil))) (.cons (.ret (.c (.bl false))) .nil) .nil) .nil)
def l_is_run_2 : Stms := (.cons (.ifs (.or (.not (.isi (.v 1) .tuple)) (.cmp .gt (.bi .len (.cons (.v 1) .nil)) (.g g_MOST_EVENTS))) (.cons (.ret (.c (.bl false))) .nil) .nil) (.cons (.for (.n 2) (.of (.v 1)) l_is_run_1) .nil))
def b_is_run : Stms := (.cons (.ifs (.or (.not (.isi (.v 0) .tuple)) (.not (.call i_is_integer true (.cons (.bi .len (.cons (.v 0) .nil)) (.cons (.c (.int 1)) (.cons (.g g_MOST_PROCESSES) .nil)))))) (.cons (.ret (.c (.bl false))) .nil) .nil) (.cons (.for (.n 1) (.of (.v 0)) l_is_run_2) (.cons (.asg (.n 3) (.call i_letters_of true (.cons (.v 0) (.cons (.c (.str "send")) .nil)))) (.cons (.asg (.n 4) (.call i_letters_of true (.cons (.v 0) (.cons (.c (.str "take")) .nil)))) (.cons (.ifs (.or (.cmp .ne (.lens (.v 3)) (.bi .len (.cons (.v 3) .nil))) (.cmp .ne (.lens (.v 4)) (.bi .len (.cons (.v 4) .nil)))) (.cons (.ret (.c (.bl false))) .nil) .nil) (.cons (.ret (.call i_is_possible true (.cons (.v 0) .nil))) .nil))))))
abbrev s_is_run : Stmt := top 17
def f_is_run : Fn := { name := "is_run", ps := ["value"], N := ["value", "row", "event", "sends", "takes"], body := b_is_run }
def d_is_run : He.DefD := ⟨("is_run", none), "is_run", "is_run", defArgs s_is_run, defBody s_is_run, defScope s_is_run, [], []⟩
def e_Order___init___1 : Ex := (.lst true (.cons (.bin .mul false (.tup (.cons (.c (.int 0)) .nil)) (.bi .len (.cons (.v 1) .nil))) .nil))
def k_Order___init___1 : Ex := (.lc false [("_", 3)] (.n 3) (.of (.v 1)) .no e_Order___init___1)
def e_Order___init___2 : Ex := (.call i_states_of true (.cons (.v 2) .nil))
def k_Order___init___2 : Ex := (.lc false [("row", 2)] (.n 2) (.of (.v 1)) .no e_Order___init___2)
def b_Order___init__ : Stms := (.cons (.ifs (.not (.call i_is_run true (.cons (.v 1) .nil))) (.cons (.raise 1) .nil) .nil) (.cons (.asgA 0 (.v 0) "_run" (.v 1)) (.cons (.asgA 0 (.v 0) "_states" k_Order___init___2) (.cons (.asgA 0 (.v 0) "_sends" (.call i_places_of true (.cons (.v 1) (.cons (.c (.str "send")) .nil)))) (.cons (.asgA 0 (.v 0) "_takes" (.call i_places_of true (.cons (.v 1) (.cons (.c (.str "take")) .nil)))) (.cons (.asgA 0 (.v 0) "_clocks" k_Order___init___1) (.cons (.ex (.mcl 0 i_Order__reckon "_reckon" false (.v 0) .nil)) .nil)))))))
abbrev s_Order___init__ : Stmt := sub 20 0
def f_Order___init__ : Fn := { name := "", ps := ["self", "run"], N := ["self", "run", "row", "_"], body := b_Order___init__ }
def d_Order___init__ : He.DefD := ⟨("Order", some "__init__"), "__init__", "Order.__init__", defArgs s_Order___init__, defBody s_Order___init__, defScope s_Order___init__, [], []⟩
def b_Order_count : Stms := (.cons (.ret (.bi .len (.cons (.att 0 (.v 0) "_run") .nil))) .nil)
abbrev s_Order_count : Stmt := sub 20 1
def f_Order_count : Fn := { name := "", ps := ["self"], N := ["self"], body := b_Order_count }
def d_Order_count : He.DefD := ⟨("Order", some "count"), "count", "Order.count", defArgs s_Order_count, defBody s_Order_count, defScope s_Order_count, [], []⟩
def b_Order_size : Stms := (.cons (.ret (.bi .len (.cons (.ix (.att 0 (.v 0) "_run") (.v 1)) .nil))) .nil)
abbrev s_Order_size : Stmt := sub 20 2
def f_Order_size : Fn := { name := "", ps := ["self", "process"], N := ["self", "process"], body := b_Order_size }
def d_Order_size : He.DefD := ⟨("Order", some "size"), "size", "Order.size", defArgs s_Order_size, defBody s_Order_size, defScope s_Order_size, [], []⟩
def b_Order_clock : Stms := (.cons (.ret (.ix (.ix (.att 0 (.v 0) "_clocks") (.v 1)) (.v 2))) .nil)
abbrev s_Order_clock : Stmt := sub 20 3
def f_Order_clock : Fn := { name := "", ps := ["self", "process", "event"], N := ["self", "process", "event"], body := b_Order_clock }
def d_Order_clock : He.DefD := ⟨("Order", some "clock"), "clock", "Order.clock", defArgs s_Order_clock, defBody s_Order_clock, defScope s_Order_clock, [], []⟩
def b_Order_before : Stms := (.cons (.ifs (.cmp .eq (.v 1) (.v 3)) (.cons (.ret (.cmp .lt (.v 2) (.v 4))) .nil) .nil) (.cons (.ret (.cmp .ge (.ix (.ix (.ix (.att 0 (.v 0) "_clocks") (.v 3)) (.v 4)) (.v 1)) (.v 2))) .nil))
abbrev s_Order_before : Stmt := sub 20 4
def f_Order_before : Fn := { name := "", ps := ["self", "process", "event", "other", "later"], N := ["self", "process", "event", "other", "later"], body := b_Order_before }
def d_Order_before : He.DefD := ⟨("Order", some "before"), "before", "Order.before", defArgs s_Order_before, defBody s_Order_before, defScope s_Order_before, [], []⟩
def b_Order_empty : Stms := (.cons (.ret (.bin .mul false (.tup (.cons (.c (.int 0)) .nil)) (.mcl 0 i_Order_count "count" true (.v 0) .nil))) .nil)
abbrev s_Order_empty : Stmt := sub 20 5
def f_Order_empty : Fn := { name := "", ps := ["self"], N := ["self"], body := b_Order_empty }
def d_Order_empty : He.DefD := ⟨("Order", some "empty"), "empty", "Order.empty", defArgs s_Order_empty, defBody s_Order_empty, defScope s_Order_empty, [], []⟩
def e_Order_whole_1 : Ex := (.bi .len (.cons (.v 1) .nil))
def k_Order_whole_1 : Ex := (.lc false [("row", 1)] (.n 1) (.of (.att 0 (.v 0) "_run")) .no e_Order_whole_1)
def b_Order_whole : Stms := (.cons (.ret (.bi .tuple (.cons k_Order_whole_1 .nil))) .nil)
abbrev s_Order_whole : Stmt := sub 20 6
def f_Order_whole : Fn := { name := "", ps := ["self"], N := ["self", "row"], body := b_Order_whole }
def d_Order_whole : He.DefD := ⟨("Order", some "whole"), "whole", "Order.whole", defArgs s_Order_whole, defBody s_Order_whole, defScope s_Order_whole, [], []⟩
def e_Order_is_cut_1 : Ex := (.call i_covers true (.cons (.v 1) (.cons (.ix (.ix (.att 0 (.v 0) "_clocks") (.v 2)) (.v 3)) .nil)))
def k_Order_is_cut_1 : Ex := (.lc false [("process", 2), ("number", 3)] (.t (.cons (.n 2) (.cons (.n 3) .nil))) (.enum (.v 1)) .no e_Order_is_cut_1)
def l_Order_is_cut_1 : Stms := (.cons (.ifs (.not (.call i_is_integer true (.cons (.v 3) (.cons (.c (.int 0)) (.cons (.mcl 0 i_Order_size "size" true (.v 0) (.cons (.v 2) .nil)) .nil))))) (.cons (.ret (.c (.bl false))) .nil) .nil) .nil)
def b_Order_is_cut : Stms := (.cons (.ifs (.or (.not (.isi (.v 1) .tuple)) (.cmp .ne (.bi .len (.cons (.v 1) .nil)) (.mcl 0 i_Order_count "count" true (.v 0) .nil))) (.cons (.ret (.c (.bl false))) .nil) .nil) (.cons (.for (.t (.cons (.n 2) (.cons (.n 3) .nil))) (.enum (.v 1)) l_Order_is_cut_1) (.cons (.ret (.bi .all (.cons k_Order_is_cut_1 .nil))) .nil)))
abbrev s_Order_is_cut : Stmt := sub 20 7
def f_Order_is_cut : Fn := { name := "", ps := ["self", "value"], N := ["self", "value", "process", "number"], body := b_Order_is_cut }
def d_Order_is_cut : He.DefD := ⟨("Order", some "is_cut"), "is_cut", "Order.is_cut", defArgs s_Order_is_cut, defBody s_Order_is_cut, defScope s_Order_is_cut, [], []⟩
def b_Order_added : Stms := (.cons (.ret (.bin .add false (.bin .add false (.sl false (.v 1) .no (.so (.v 2))) (.tup (.cons (.bin .add false (.ix (.v 1) (.v 2)) (.c (.int 1))) .nil))) (.sl false (.v 1) (.so (.bin .add false (.v 2) (.c (.int 1)))) .no))) .nil)
abbrev s_Order_added : Stmt := sub 20 8
def f_Order_added : Fn := { name := "", ps := ["self", "cut", "process"], N := ["self", "cut", "process"], body := b_Order_added }
def d_Order_added : He.DefD := ⟨("Order", some "added"), "added", "Order.added", defArgs s_Order_added, defBody s_Order_added, defScope s_Order_added, [], []⟩
def l_Order_ups_1 : Stms := (.cons (.ifs (.cmp .lt (.ix (.v 1) (.v 3)) (.mcl 0 i_Order_size "size" true (.v 0) (.cons (.v 3) .nil))) (.cons (.ifs (.call i_covers true (.cons (.mcl 0 i_Order_added "added" true (.v 0) (.cons (.v 1) (.cons (.v 3) .nil))) (.cons (.ix (.ix (.att 0 (.v 0) "_clocks") (.v 3)) (.bin .add false (.ix (.v 1) (.v 3)) (.c (.int 1)))) .nil))) (.cons (.ex (.me .append (.v 2) (.cons (.v 3) .nil))) .nil) .nil) .nil) .nil) .nil)
def b_Order_ups : Stms := (.cons (.asg (.n 2) (.lst true .nil)) (.cons (.for (.n 3) (.rng1 (.mcl 0 i_Order_count "count" true (.v 0) .nil)) l_Order_ups_1) (.cons (.ret (.v 2)) .nil)))
abbrev s_Order_ups : Stmt := sub 20 9
def f_Order_ups : Fn := { name := "", ps := ["self", "cut"], N := ["self", "cut", "found", "process"], body := b_Order_ups }
def d_Order_ups : He.DefD := ⟨("Order", some "ups"), "ups", "Order.ups", defArgs s_Order_ups, defBody s_Order_ups, defScope s_Order_ups, [], []⟩
def b_Order_state : Stms := (.cons (.ret (.ix (.ix (.att 0 (.v 0) "_states") (.v 1)) (.v 2))) .nil)
abbrev s_Order_state : Stmt := sub 20 10
def f_Order_state : Fn := { name := "", ps := ["self", "process", "events"], N := ["self", "process", "events"], body := b_Order_state }
def d_Order_state : He.DefD := ⟨("Order", some "state"), "state", "Order.state", defArgs s_Order_state, defBody s_Order_state, defScope s_Order_state, [], []⟩
def l_Order_under_way_1 : Stms := (.cons (.ifs (.cmp .le (.v 5) (.ix (.v 1) (.v 4))) (.cons (.asg (.t (.cons (.n 6) (.cons (.n 7) .nil))) (.me .get (.att 0 (.v 0) "_takes") (.cons (.v 3) (.cons (.tup (.cons (.v 4) (.cons (.c (.int 0)) .nil))) .nil)))) (.cons (.ifs (.or (.cmp .notin (.v 3) (.att 0 (.v 0) "_takes")) (.cmp .gt (.v 7) (.ix (.v 1) (.v 6)))) (.cons (.aug 2 .add (.c (.int 1))) .nil) .nil) .nil)) .nil) .nil)
def b_Order_under_way : Stms := (.cons (.asg (.n 2) (.c (.int 0))) (.cons (.forD .items (.t (.cons (.n 3) (.cons (.t (.cons (.n 4) (.cons (.n 5) .nil))) .nil))) (.att 0 (.v 0) "_sends") l_Order_under_way_1) (.cons (.ret (.v 2)) .nil)))
abbrev s_Order_under_way : Stmt := sub 20 11
def f_Order_under_way : Fn := { name := "", ps := ["self", "cut"], N := ["self", "cut", "found", "letter", "process", "event", "taker", "take"], body := b_Order_under_way }
def d_Order_under_way : He.DefD := ⟨("Order", some "under_way"), "under_way", "Order.under_way", defArgs s_Order_under_way, defBody s_Order_under_way, defScope s_Order_under_way, [], []⟩
def w_Order_cuts_1 : Ex := (.cmp .ne (.v 3) (.lst false .nil))
def l_Order_cuts_1 : Stms := (.cons (.asgS (.v 4) (.mcl 0 i_Order_added "added" true (.v 0) (.cons (.v 5) (.cons (.v 6) .nil))) (.c (.bl true))) .nil)
def l_Order_cuts_2 : Stms := (.cons (.for (.n 6) (.of (.mcl 0 i_Order_ups "ups" true (.v 0) (.cons (.v 5) .nil))) l_Order_cuts_1) .nil)
def l_Order_cuts_3 : Stms := (.cons (.ex (.me .extend (.v 2) (.cons (.v 3) .nil))) (.cons (.ifs (.cmp .gt (.bi .len (.cons (.v 2) .nil)) (.v 1)) (.cons (.raise 2) .nil) .nil) (.cons (.asg (.n 4) (.dct true 1 [] [])) (.cons (.for (.n 5) (.of (.v 3)) l_Order_cuts_2) (.cons (.asg (.n 3) (.bf .sorted false (.cons (.v 4) .nil))) .nil)))))
def b_Order_cuts : Stms := (.cons (.asg (.n 2) (.lst true .nil)) (.cons (.asg (.n 3) (.lst false (.cons (.mcl 0 i_Order_empty "empty" true (.v 0) .nil) .nil))) (.cons (.whl w_Order_cuts_1 l_Order_cuts_3) (.cons (.ret (.v 2)) .nil))))
abbrev s_Order_cuts : Stmt := sub 20 12
def f_Order_cuts : Fn := { name := "", ps := ["self", "most"], N := ["self", "most", "found", "level", "following", "cut", "process"], body := b_Order_cuts }
def d_Order_cuts : He.DefD := ⟨("Order", some "cuts"), "cuts", "Order.cuts", defArgs s_Order_cuts, defBody s_Order_cuts, defScope s_Order_cuts, [], []⟩
def w_Order__reckon_1 : Ex := (.cmp .gt (.v 1) (.c (.int 0)))
def l_Order__reckon_1 : Stms := (.cons (.asg (.n 4) (.bi .len (.cons (.ix (.att 0 (.v 0) "_clocks") (.v 3)) .nil))) (.cons (.ifs (.and (.cmp .le (.v 4) (.bi .len (.cons (.v 2) .nil))) (.mcl 0 i_Order__ready "_ready" false (.v 0) (.cons (.ix (.v 2) (.bin .sub false (.v 4) (.c (.int 1)))) .nil))) (.cons (.ex (.me .append (.ix (.att 0 (.v 0) "_clocks") (.v 3)) (.cons (.mcl 0 i_Order__clock_of "_clock_of" false (.v 0) (.cons (.v 3) (.cons (.v 4) (.cons (.ix (.v 2) (.bin .sub false (.v 4) (.c (.int 1)))) .nil)))) .nil))) (.cons (.aug 1 .sub (.c (.int 1))) .nil)) .nil) .nil))
def l_Order__reckon_2 : Stms := (.cons (.for (.t (.cons (.n 3) (.cons (.n 2) .nil))) (.enum (.att 0 (.v 0) "_run")) l_Order__reckon_1) .nil)
def e_Order__reckon_1 : Ex := (.bi .len (.cons (.v 2) .nil))
def k_Order__reckon_1 : Ex := (.lc false [("row", 2)] (.n 2) (.of (.att 0 (.v 0) "_run")) .no e_Order__reckon_1)
def b_Order__reckon : Stms := (.cons (.asg (.n 1) (.bi .sum (.cons k_Order__reckon_1 .nil))) (.cons (.whl w_Order__reckon_1 l_Order__reckon_2) .nil))
abbrev s_Order__reckon : Stmt := sub 20 13
def f_Order__reckon : Fn := { name := "", ps := ["self"], N := ["self", "left", "row", "process", "done"], body := b_Order__reckon }
def d_Order__reckon : He.DefD := ⟨("Order", some "_reckon"), "_reckon", "Order._reckon", defArgs s_Order__reckon, defBody s_Order__reckon, defScope s_Order__reckon, [], []⟩
def b_Order__ready : Stms := (.cons (.ifs (.cmp .ne (.ix (.v 1) (.c (.int 0))) (.c (.str "take"))) (.cons (.ret (.c (.bl true))) .nil) .nil) (.cons (.asg (.t (.cons (.n 2) (.cons (.n 3) .nil))) (.ix (.att 0 (.v 0) "_sends") (.ix (.v 1) (.c (.int 1))))) (.cons (.ret (.cmp .lt (.v 3) (.bi .len (.cons (.ix (.att 0 (.v 0) "_clocks") (.v 2)) .nil)))) .nil)))
abbrev s_Order__ready : Stmt := sub 20 14
def f_Order__ready : Fn := { name := "", ps := ["self", "event"], N := ["self", "event", "sender", "send"], body := b_Order__ready }
def d_Order__ready : He.DefD := ⟨("Order", some "_ready"), "_ready", "Order._ready", defArgs s_Order__ready, defBody s_Order__ready, defScope s_Order__ready, [], []⟩
def b_Order__clock_of : Stms := (.cons (.asg (.n 4) (.ix (.ix (.att 0 (.v 0) "_clocks") (.v 1)) (.neg (.c (.int 1))))) (.cons (.ifs (.cmp .eq (.ix (.v 3) (.c (.int 0))) (.c (.str "take"))) (.cons (.asg (.t (.cons (.n 5) (.cons (.n 6) .nil))) (.ix (.att 0 (.v 0) "_sends") (.ix (.v 3) (.c (.int 1))))) (.cons (.asg (.n 4) (.call i_joined true (.cons (.v 4) (.cons (.ix (.ix (.att 0 (.v 0) "_clocks") (.v 5)) (.v 6)) .nil)))) .nil)) .nil) (.cons (.ret (.bin .add false (.bin .add false (.sl false (.v 4) .no (.so (.v 1))) (.tup (.cons (.v 2) .nil))) (.sl false (.v 4) (.so (.bin .add false (.v 1) (.c (.int 1)))) .no))) .nil)))
abbrev s_Order__clock_of : Stmt := sub 20 15
def f_Order__clock_of : Fn := { name := "", ps := ["self", "process", "number", "event"], N := ["self", "process", "number", "event", "clock", "sender", "send"], body := b_Order__clock_of }
def d_Order__clock_of : He.DefD := ⟨("Order", some "_clock_of"), "_clock_of", "Order._clock_of", defArgs s_Order__clock_of, defBody s_Order__clock_of, defScope s_Order__clock_of, [], []⟩
def l_states_of_1 : Stms := (.cons (.asgS (.v 3) (.me .index (.g g_VARIABLES_order) (.cons (.v 4) .nil)) (.v 5)) .nil)
def l_states_of_2 : Stms := (.cons (.asg (.n 3) (.bf .list true (.cons (.ix (.v 1) (.neg (.c (.int 1)))) .nil))) (.cons (.for (.t (.cons (.n 4) (.cons (.n 5) .nil))) (.of (.ix (.v 2) (.neg (.c (.int 1))))) l_states_of_1) (.cons (.ex (.me .append (.v 1) (.cons (.bi .tuple (.cons (.v 3) .nil)) .nil))) .nil)))
def b_states_of : Stms := (.cons (.asg (.n 1) (.lst true (.cons (.bin .mul false (.tup (.cons (.c (.int 0)) .nil)) (.bi .len (.cons (.g g_VARIABLES_order) .nil))) .nil))) (.cons (.for (.n 2) (.of (.v 0)) l_states_of_2) (.fz 1 (.cons (.ret (.v 1)) .nil))))
abbrev s_states_of : Stmt := top 21
def f_states_of : Fn := { name := "states_of", ps := ["row"], N := ["row", "states", "event", "state", "variable", "value"], body := b_states_of }
def d_states_of : He.DefD := ⟨("states_of", none), "states_of", "states_of", defArgs s_states_of, defBody s_states_of, defScope s_states_of, [], []⟩
def l_places_of_1 : Stms := (.cons (.ifs (.cmp .eq (.ix (.v 6) (.c (.int 0))) (.v 1)) (.cons (.asgS (.v 2) (.ix (.v 6) (.c (.int 1))) (.tup (.cons (.v 3) (.cons (.bin .add false (.v 5) (.c (.int 1))) .nil)))) .nil) .nil) .nil)
def l_places_of_2 : Stms := (.cons (.for (.t (.cons (.n 5) (.cons (.n 6) .nil))) (.enum (.v 4)) l_places_of_1) .nil)
def b_places_of : Stms := (.cons (.asg (.n 2) (.dct true 0 [] [])) (.cons (.for (.t (.cons (.n 3) (.cons (.n 4) .nil))) (.enum (.v 0)) l_places_of_2) (.fz 2 (.cons (.ret (.v 2)) .nil))))
abbrev s_places_of : Stmt := top 22
def f_places_of : Fn := { name := "places_of", ps := ["run", "kind"], N := ["run", "kind", "places", "process", "row", "index", "event"], body := b_places_of }
def d_places_of : He.DefD := ⟨("places_of", none), "places_of", "places_of", defArgs s_places_of, defBody s_places_of, defScope s_places_of, [], []⟩
def e_covers_1 : Ex := (.cmp .le (.ix (.v 1) (.v 2)) (.v 3))
def k_covers_1 : Ex := (.lc false [("process", 2), ("number", 3)] (.t (.cons (.n 2) (.cons (.n 3) .nil))) (.enum (.v 0)) .no e_covers_1)
def b_covers : Stms := (.cons (.ret (.bi .all (.cons k_covers_1 .nil))) .nil)
abbrev s_covers : Stmt := top 23
def f_covers : Fn := { name := "covers", ps := ["cut", "clock"], N := ["cut", "clock", "process", "number"], body := b_covers }
def d_covers : He.DefD := ⟨("covers", none), "covers", "covers", defArgs s_covers, defBody s_covers, defScope s_covers, [], []⟩
def e_joined_1 : Ex := (.bi .max (.cons (.v 3) (.cons (.ix (.v 1) (.v 2)) .nil)))
def k_joined_1 : Ex := (.lc false [("process", 2), ("number", 3)] (.t (.cons (.n 2) (.cons (.n 3) .nil))) (.enum (.v 0)) .no e_joined_1)
def b_joined : Stms := (.cons (.ret (.bi .tuple (.cons k_joined_1 .nil))) .nil)
abbrev s_joined : Stmt := top 24
def f_joined : Fn := { name := "joined", ps := ["one", "other"], N := ["one", "other", "process", "number"], body := b_joined }
def d_joined : He.DefD := ⟨("joined", none), "joined", "joined", defArgs s_joined, defBody s_joined, defScope s_joined, [], []⟩
def b__law_bag : Stms := (.cons (.asg (.n 2) (.c (.int 0))) (.cons (.ifs (.cmp .lt (.v 1) (.bi .len (.cons (.v 0) .nil))) (.cons (.asg (.n 2) (.bi .int (.cons (.ix (.v 0) (.v 1)) .nil))) .nil) .nil) (.cons (.ifs (.cmp .ge (.v 2) (.bin .pow false (.c (.int 10)) (.c (.int 18)))) (.cons (.ret (.lst true (.cons (.v 2) (.cons (.v 2) (.cons (.v 1) .nil))))) .nil) .nil) (.cons (.ret (.lst true (.cons (.c (.int 0)) (.cons (.v 2) (.cons (.v 1) .nil))))) .nil))))
abbrev s__law_bag : Stmt := top 26
def f__law_bag : Fn := { name := "_law_bag", ps := ["script", "k"], N := ["script", "k", "cell"], body := b__law_bag }
def d__law_bag : He.DefD := ⟨("_law_bag", none), "_law_bag", "_law_bag", defArgs s__law_bag, defBody s__law_bag, defScope s__law_bag, [], []⟩
def b__law_draw : Stms := (.cons (.ifs (.cmp .eq (.ix (.v 0) (.c (.int 0))) (.c (.int 0))) (.cons (.asg (.n 2) (.bin .mod false (.bi .int (.cons (.bin .add false (.bin .add false (.bin .mul false (.ix (.v 0) (.c (.int 1))) (.c (.int 48271))) (.bin .mul false (.ix (.v 0) (.c (.int 2))) (.c (.int 69621)))) (.c (.int 11))) .nil)) (.c (.int 2147483647)))) (.cons (.asgS (.v 0) (.c (.int 0)) (.bin .add false (.bin .mul false (.v 2) (.c (.int 2147483629))) (.bin .mod false (.bi .int (.cons (.bin .add false (.bin .mul false (.v 2) (.v 2)) (.bin .mul false (.ix (.v 0) (.c (.int 2))) (.c (.int 16807)))) .nil)) (.c (.int 2147483629))))) (.cons (.asgS (.v 0) (.c (.int 1)) (.v 2)) .nil))) .nil) (.cons (.asg (.n 3) (.ix (.v 0) (.c (.int 0)))) (.cons (.asgS (.v 0) (.c (.int 0)) (.bin .fdiv false (.v 3) (.v 1))) (.cons (.ret (.bin .mod false (.bi .int (.cons (.v 3) .nil)) (.v 1))) .nil))))
abbrev s__law_draw : Stmt := top 27
def f__law_draw : Fn := { name := "_law_draw", ps := ["bag", "many"], N := ["bag", "many", "seed", "rest"], body := b__law_draw }
def d__law_draw : He.DefD := ⟨("_law_draw", none), "_law_draw", "_law_draw", defArgs s__law_draw, defBody s__law_draw, defScope s__law_draw, [], []⟩
def l__law_changes_1 : Stms := (.cons (.ifs (.cmp .eq (.call i__law_draw false (.cons (.v 0) (.cons (.c (.int 4)) .nil))) (.c (.int 0))) (.cons (.ex (.me .append (.v 1) (.cons (.tup (.cons (.v 2) (.cons (.ix (.lst false (.cons (.c (.int 0)) (.cons (.c (.int 1)) (.cons (.neg (.c (.int 1))) (.cons (.c (.int 2)) (.cons (.c (.int 1000)) (.cons (.neg (.c (.int 1000))) (.cons (.bin .sub false (.call i__law_draw false (.cons (.v 0) (.cons (.c (.int 2001)) .nil))) (.c (.int 1000))) .nil)))))))) (.call i__law_draw false (.cons (.v 0) (.cons (.c (.int 7)) .nil)))) .nil))) .nil))) .nil) .nil) .nil)
def b__law_changes : Stms := (.cons (.asg (.n 1) (.lst true .nil)) (.cons (.for (.n 2) (.of (.c (.str "abcd"))) l__law_changes_1) (.cons (.ret (.bi .tuple (.cons (.v 1) .nil))) .nil)))
abbrev s__law_changes : Stmt := top 28
def f__law_changes : Fn := { name := "_law_changes", ps := ["bag"], N := ["bag", "changes", "variable"], body := b__law_changes }
def d__law_changes : He.DefD := ⟨("_law_changes", none), "_law_changes", "_law_changes", defArgs s__law_changes, defBody s__law_changes, defScope s__law_changes, [], []⟩
def e__law_large_1 : Ex := (.bi .tuple (.cons (.v 9) .nil))
def k__law_large_1 : Ex := (.lc false [("row", 9)] (.n 9) (.of (.v 3)) .no e__law_large_1)
def e__law_large_2 : Ex := (.bi .max (.cons (.ix (.v 10) (.v 4)) (.cons (.ix (.ix (.ix (.v 5) (.v 13)) (.v 14)) (.v 4)) .nil)))
def k__law_large_2 : Ex := (.lc true [("k", 4)] (.n 4) (.rng1 (.v 1)) .no e__law_large_2)
def l__law_large_1 : Stms := (.cons (.asg (.n 8) (.call i__law_draw false (.cons (.v 0) (.cons (.v 1) .nil)))) (.cons (.asg (.n 9) (.ix (.v 3) (.v 8))) (.cons (.ifs (.cmp .ge (.bi .len (.cons (.v 9) .nil)) (.c (.int 30))) (.cons .cont .nil) .nil) (.cons (.asg (.n 10) (.bf .list true (.cons (.ix (.ix (.v 5) (.v 8)) (.neg (.c (.int 1)))) .nil))) (.cons (.asg (.n 11) (.call i__law_draw false (.cons (.v 0) (.cons (.c (.int 5)) .nil)))) (.cons (.ifs (.and (.cmp .lt (.v 11) (.c (.int 2))) (.cmp .gt (.bi .len (.cons (.v 6) .nil)) (.c (.int 0)))) (.cons (.asg (.t (.cons (.n 12) (.cons (.n 13) (.cons (.n 14) .nil)))) (.me .pop (.v 6) (.cons (.call i__law_draw false (.cons (.v 0) (.cons (.bi .len (.cons (.v 6) .nil)) .nil))) .nil))) (.cons (.asg (.n 10) k__law_large_2) (.cons (.ex (.me .append (.v 9) (.cons (.tup (.cons (.c (.str "take")) (.cons (.v 12) (.cons (.call i__law_changes false (.cons (.v 0) .nil)) .nil)))) .nil))) .nil))) (.cons (.ifs (.cmp .lt (.v 11) (.c (.int 4))) (.cons (.ex (.me .append (.v 9) (.cons (.tup (.cons (.c (.str "send")) (.cons (.ix (.lst false (.cons (.bin .add false (.v 7) (.c (.int 1))) (.cons (.bin .sub false (.c (.int 999)) (.v 7)) .nil))) (.call i__law_draw false (.cons (.v 0) (.cons (.c (.int 2)) .nil)))) (.cons (.call i__law_changes false (.cons (.v 0) .nil)) .nil)))) .nil))) (.cons (.ex (.me .append (.v 6) (.cons (.tup (.cons (.ix (.ix (.v 9) (.neg (.c (.int 1)))) (.c (.int 1))) (.cons (.v 8) (.cons (.bi .len (.cons (.v 9) .nil)) .nil)))) .nil))) .nil)) (.cons (.ex (.me .append (.v 9) (.cons (.tup (.cons (.c (.str "step")) (.cons (.call i__law_changes false (.cons (.v 0) .nil)) .nil))) .nil))) .nil)) .nil)) (.cons (.asgS (.v 10) (.v 8) (.bi .len (.cons (.v 9) .nil))) (.cons (.asg (.n 15) (.ix (.v 5) (.v 8))) (.cons (.ex (.me .append (.v 15) (.cons (.bi .tuple (.cons (.v 10) .nil)) .nil))) .nil)))))))))
def e__law_large_3 : Ex := (.lst true (.cons (.bi .tuple (.cons (.bin .mul false (.lst false (.cons (.c (.int 0)) .nil)) (.v 1)) .nil)) .nil))
def k__law_large_3 : Ex := (.lc false [("k", 4)] (.n 4) (.rng1 (.v 1)) .no e__law_large_3)
def e__law_large_4 : Ex := (.lst true .nil)
def k__law_large_4 : Stm := (.asgC 3 false [("k", 4)] (.n 4) (.rng1 (.v 1)) .no e__law_large_4)
def b__law_large : Stms := (.cons k__law_large_4 (.cons (.asg (.n 5) k__law_large_3) (.cons (.asg (.n 6) (.lst true .nil)) (.cons (.for (.n 7) (.rng1 (.v 2)) l__law_large_1) (.fzd 3 (.fzd 5 (.cons (.ret (.tup (.cons (.bi .tuple (.cons k__law_large_1 .nil)) (.cons (.v 5) .nil)))) .nil)))))))
abbrev s__law_large : Stmt := top 29
def f__law_large : Fn := { name := "_law_large", ps := ["bag", "count", "many"], N := ["bag", "count", "many", "rows", "k", "clocks", "flight", "j", "process", "row", "clock", "kind", "letter", "sender", "send", "known"], body := b__law_large }
def d__law_large : He.DefD := ⟨("_law_large", none), "_law_large", "_law_large", defArgs s__law_large, defBody s__law_large, defScope s__law_large, [], []⟩
def l__law_is_cut_1 : Stms := (.cons (.ifs (.cmp .gt (.ix (.v 3) (.v 4)) (.ix (.v 1) (.v 4))) (.cons (.ret (.c (.bl false))) .nil) .nil) .nil)
def l__law_is_cut_2 : Stms := (.cons (.asg (.n 3) (.ix (.ix (.v 0) (.v 2)) (.ix (.v 1) (.v 2)))) (.cons (.for (.n 4) (.rng1 (.bi .len (.cons (.v 1) .nil))) l__law_is_cut_1) .nil))
def b__law_is_cut : Stms := (.cons (.for (.n 2) (.rng1 (.bi .len (.cons (.v 1) .nil))) l__law_is_cut_2) (.cons (.ret (.c (.bl true))) .nil))
abbrev s__law_is_cut : Stmt := top 30
def f__law_is_cut : Fn := { name := "_law_is_cut", ps := ["clocks", "cut"], N := ["clocks", "cut", "process", "clock", "other"], body := b__law_is_cut }
def d__law_is_cut : He.DefD := ⟨("_law_is_cut", none), "_law_is_cut", "_law_is_cut", defArgs s__law_is_cut, defBody s__law_is_cut, defScope s__law_is_cut, [], []⟩
def l__law_up_1 : Stms := (.cons (.asg (.n 5) (.bin .add false (.bin .add false (.sl false (.v 2) .no (.so (.v 4))) (.tup (.cons (.bin .add false (.ix (.v 2) (.v 4)) (.c (.int 1))) .nil))) (.sl false (.v 2) (.so (.bin .add false (.v 4) (.c (.int 1)))) .no))) (.cons (.ifs (.and (.cmp .lt (.ix (.v 2) (.v 4)) (.bi .len (.cons (.ix (.v 0) (.v 4)) .nil))) (.call i__law_is_cut true (.cons (.v 1) (.cons (.v 5) .nil)))) (.cons (.ex (.me .append (.v 3) (.cons (.v 4) .nil))) .nil) .nil) .nil))
def b__law_up : Stms := (.cons (.asg (.n 3) (.lst true .nil)) (.cons (.for (.n 4) (.rng1 (.bi .len (.cons (.v 0) .nil))) l__law_up_1) (.cons (.ret (.v 3)) .nil)))
abbrev s__law_up : Stmt := top 31
def f__law_up : Fn := { name := "_law_up", ps := ["run", "clocks", "cut"], N := ["run", "clocks", "cut", "found", "process", "up"], body := b__law_up }
def d__law_up : He.DefD := ⟨("_law_up", none), "_law_up", "_law_up", defArgs s__law_up, defBody s__law_up, defScope s__law_up, [], []⟩
def l__law_state_1 : Stms := (.cons (.asgS (.v 3) (.v 5) (.v 6)) .nil)
def l__law_state_2 : Stms := (.cons (.for (.t (.cons (.n 5) (.cons (.n 6) .nil))) (.of (.ix (.v 4) (.neg (.c (.int 1))))) l__law_state_1) .nil)
def b__law_state : Stms := (.cons (.asg (.n 3) (.dct true 0 [(.str "a"), (.str "b"), (.str "c"), (.str "d")] [(.int 0), (.int 0), (.int 0), (.int 0)])) (.cons (.for (.n 4) (.of (.sl false (.ix (.v 0) (.v 1)) .no (.so (.v 2)))) l__law_state_2) (.cons (.ret (.v 3)) .nil)))
abbrev s__law_state : Stmt := top 32
def f__law_state : Fn := { name := "_law_state", ps := ["run", "process", "events"], N := ["run", "process", "events", "state", "event", "variable", "value"], body := b__law_state }
def d__law_state : He.DefD := ⟨("_law_state", none), "_law_state", "_law_state", defArgs s__law_state, defBody s__law_state, defScope s__law_state, [], []⟩
def q__law_way_1 : Oe := (.so (.cmp .notin (.v 6) (.v 3)))
def e__law_way_1 : Ex := (.v 6)
def k__law_way_1 : Ex := (.lc false [("letter", 6)] (.n 6) (.of (.v 2)) q__law_way_1 e__law_way_1)
def l__law_way_1 : Stms := (.cons (.ifs (.cmp .eq (.ix (.v 5) (.c (.int 0))) (.c (.str "send"))) (.cons (.ex (.me .append (.v 2) (.cons (.ix (.v 5) (.c (.int 1))) .nil))) .nil) .nil) (.cons (.ifs (.cmp .eq (.ix (.v 5) (.c (.int 0))) (.c (.str "take"))) (.cons (.ex (.me .append (.v 3) (.cons (.ix (.v 5) (.c (.int 1))) .nil))) .nil) .nil) .nil))
def l__law_way_2 : Stms := (.cons (.for (.n 5) (.of (.sl false (.ix (.v 0) (.v 4)) .no (.so (.ix (.v 1) (.v 4))))) l__law_way_1) .nil)
def b__law_way : Stms := (.cons (.asg (.n 2) (.lst true .nil)) (.cons (.asg (.n 3) (.lst true .nil)) (.cons (.for (.n 4) (.rng1 (.bi .len (.cons (.v 0) .nil))) l__law_way_2) (.fz 2 (.fz 3 (.cons (.ret (.bi .len (.cons k__law_way_1 .nil))) .nil))))))
abbrev s__law_way : Stmt := top 33
def f__law_way : Fn := { name := "_law_way", ps := ["run", "cut"], N := ["run", "cut", "sent", "taken", "process", "event", "letter"], body := b__law_way }
def d__law_way : He.DefD := ⟨("_law_way", none), "_law_way", "_law_way", defArgs s__law_way, defBody s__law_way, defScope s__law_way, [], []⟩
def l__law_many_1 : Stms := (.cons (.ret (.bi .len (.cons (.mcl 0 i_Order_cuts "cuts" true (.v 0) (.cons (.v 1) .nil)) .nil))) .nil)
def b__law_many : Stms := (.cons (.tryE l__law_many_1 2 none (.ret (.neg (.c (.int 1))))) .nil)
abbrev s__law_many : Stmt := top 34
def f__law_many : Fn := { name := "_law_many", ps := ["order", "most"], N := ["order", "most"], body := b__law_many }
def d__law_many : He.DefD := ⟨("_law_many", none), "_law_many", "_law_many", defArgs s__law_many, defBody s__law_many, defScope s__law_many, [], []⟩
def l__law_rows_right_1 : Stms := (.cons (.asg (.n 5) (.call i__law_state true (.cons (.v 1) (.cons (.v 3) (.cons (.v 4) .nil))))) (.cons (.ifs (.cmp .ne (.mcl 0 i_Order_clock "clock" true (.v 0) (.cons (.v 3) (.cons (.v 4) .nil))) (.ix (.ix (.v 2) (.v 3)) (.v 4))) (.cons (.ret (.c (.bl false))) .nil) .nil) (.cons (.ifs (.cmp .ne (.mcl 0 i_Order_state "state" true (.v 0) (.cons (.v 3) (.cons (.v 4) .nil))) (.tup (.cons (.ix (.v 5) (.c (.str "a"))) (.cons (.ix (.v 5) (.c (.str "b"))) (.cons (.ix (.v 5) (.c (.str "c"))) (.cons (.ix (.v 5) (.c (.str "d"))) .nil)))))) (.cons (.ret (.c (.bl false))) .nil) .nil) .nil)))
def l__law_rows_right_2 : Stms := (.cons (.ifs (.cmp .ne (.mcl 0 i_Order_size "size" true (.v 0) (.cons (.v 3) .nil)) (.bi .len (.cons (.ix (.v 1) (.v 3)) .nil))) (.cons (.ret (.c (.bl false))) .nil) .nil) (.cons (.for (.n 4) (.rng1 (.bin .add false (.bi .len (.cons (.ix (.v 1) (.v 3)) .nil)) (.c (.int 1)))) l__law_rows_right_1) .nil))
def b__law_rows_right : Stms := (.cons (.for (.n 3) (.rng1 (.bi .len (.cons (.v 1) .nil))) l__law_rows_right_2) (.cons (.ret (.c (.bl true))) .nil))
abbrev s__law_rows_right : Stmt := top 35
def f__law_rows_right : Fn := { name := "_law_rows_right", ps := ["order", "run", "clocks"], N := ["order", "run", "clocks", "process", "events", "state"], body := b__law_rows_right }
def d__law_rows_right : He.DefD := ⟨("_law_rows_right", none), "_law_rows_right", "_law_rows_right", defArgs s__law_rows_right, defBody s__law_rows_right, defScope s__law_rows_right, [], []⟩
def l__law_before_right_1 : Stms := (.cons (.asg (.n 5) (.call i__law_draw false (.cons (.v 0) (.cons (.bi .len (.cons (.v 2) .nil)) .nil)))) (.cons (.asg (.n 6) (.call i__law_draw false (.cons (.v 0) (.cons (.bi .len (.cons (.v 2) .nil)) .nil)))) (.cons (.ifs (.and (.cmp .gt (.bi .len (.cons (.ix (.v 2) (.v 5)) .nil)) (.c (.int 0))) (.cmp .gt (.bi .len (.cons (.ix (.v 2) (.v 6)) .nil)) (.c (.int 0)))) (.cons (.asg (.n 7) (.bin .add false (.c (.int 1)) (.call i__law_draw false (.cons (.v 0) (.cons (.bi .len (.cons (.ix (.v 2) (.v 5)) .nil)) .nil))))) (.cons (.asg (.n 8) (.bin .add false (.c (.int 1)) (.call i__law_draw false (.cons (.v 0) (.cons (.bi .len (.cons (.ix (.v 2) (.v 6)) .nil)) .nil))))) (.cons (.asg (.n 9) (.and (.cmp .ge (.ix (.ix (.ix (.v 3) (.v 6)) (.v 8)) (.v 5)) (.v 7)) (.cmp .ne (.tup (.cons (.v 5) (.cons (.v 7) .nil))) (.tup (.cons (.v 6) (.cons (.v 8) .nil)))))) (.cons (.ifs (.cmp .ne (.mcl 0 i_Order_before "before" true (.v 1) (.cons (.v 5) (.cons (.v 7) (.cons (.v 6) (.cons (.v 8) .nil))))) (.v 9)) (.cons (.ret (.c (.bl false))) .nil) .nil) .nil)))) .nil) .nil)))
def b__law_before_right : Stms := (.cons (.for (.n 4) (.rng1 (.c (.int 12))) l__law_before_right_1) (.cons (.ret (.c (.bl true))) .nil))
abbrev s__law_before_right : Stmt := top 36
def f__law_before_right : Fn := { name := "_law_before_right", ps := ["bag", "order", "run", "clocks"], N := ["bag", "order", "run", "clocks", "k", "process", "other", "event", "later", "due"], body := b__law_before_right }
def d__law_before_right : He.DefD := ⟨("_law_before_right", none), "_law_before_right", "_law_before_right", defArgs s__law_before_right, defBody s__law_before_right, defScope s__law_before_right, [], []⟩
def b__law_near : Stms := (.cons (.asg (.n 3) (.call i__law_draw false (.cons (.v 0) (.cons (.bi .len (.cons (.v 1) .nil)) .nil)))) (.cons (.asg (.n 4) (.bi .max (.cons (.c (.int 0)) (.cons (.bi .min (.cons (.bi .len (.cons (.ix (.v 1) (.v 3)) .nil)) (.cons (.bin .sub false (.bin .add false (.ix (.v 2) (.v 3)) (.call i__law_draw false (.cons (.v 0) (.cons (.c (.int 7)) .nil)))) (.c (.int 3))) .nil))) .nil)))) (.cons (.ret (.bin .add false (.bin .add false (.sl false (.v 2) .no (.so (.v 3))) (.tup (.cons (.v 4) .nil))) (.sl false (.v 2) (.so (.bin .add false (.v 3) (.c (.int 1)))) .no))) .nil)))
abbrev s__law_near : Stmt := top 37
def f__law_near : Fn := { name := "_law_near", ps := ["bag", "run", "cut"], N := ["bag", "run", "cut", "process", "number"], body := b__law_near }
def d__law_near : He.DefD := ⟨("_law_near", none), "_law_near", "_law_near", defArgs s__law_near, defBody s__law_near, defScope s__law_near, [], []⟩
def b__law_cut_right : Stms := (.cons (.asg (.n 5) (.call i__law_up true (.cons (.v 2) (.cons (.v 3) (.cons (.v 4) .nil))))) (.cons (.ifs (.or (.cmp .isnot (.mcl 0 i_Order_is_cut "is_cut" true (.v 1) (.cons (.v 4) .nil)) (.c (.bl true))) (.or (.cmp .ne (.mcl 0 i_Order_ups "ups" true (.v 1) (.cons (.v 4) .nil)) (.v 5)) (.cmp .ne (.mcl 0 i_Order_under_way "under_way" true (.v 1) (.cons (.v 4) .nil)) (.call i__law_way true (.cons (.v 2) (.cons (.v 4) .nil)))))) (.cons (.ret (.c (.bl false))) .nil) .nil) (.cons (.asg (.n 6) (.call i__law_near false (.cons (.v 0) (.cons (.v 2) (.cons (.v 4) .nil))))) (.cons (.asg (.n 7) (.mcl 0 i_Order_is_cut "is_cut" true (.v 1) (.cons (.v 6) .nil))) (.cons (.ifs (.or (.not (.isi (.v 7) .bool)) (.cmp .ne (.v 7) (.call i__law_is_cut true (.cons (.v 3) (.cons (.v 6) .nil))))) (.cons (.ret (.c (.bl false))) .nil) .nil) (.cons (.ret (.c (.bl true))) .nil))))))
abbrev s__law_cut_right : Stmt := top 38
def f__law_cut_right : Fn := { name := "_law_cut_right", ps := ["bag", "order", "run", "clocks", "cut"], N := ["bag", "order", "run", "clocks", "cut", "ups", "near", "told"], body := b__law_cut_right }
def d__law_cut_right : He.DefD := ⟨("_law_cut_right", none), "_law_cut_right", "_law_cut_right", defArgs s__law_cut_right, defBody s__law_cut_right, defScope s__law_cut_right, [], []⟩
def l_law_1 : Stms := (.cons (.ifs (.and (.cmp .eq (.bin .mod false (.v 10) (.c (.int 8))) (.bin .mod false (.v 7) (.c (.int 8)))) (.not (.call i__law_cut_right false (.cons (.v 8) (.cons (.v 4) (.cons (.v 2) (.cons (.v 3) (.cons (.v 9) .nil)))))))) (.cons (.ret (.c (.bl false))) .nil) .nil) (.cons (.asg (.n 11) (.call i__law_up true (.cons (.v 2) (.cons (.v 3) (.cons (.v 9) .nil))))) (.cons (.ifs (.cmp .gt (.bi .len (.cons (.v 11) .nil)) (.c (.int 0))) (.cons (.asg (.n 9) (.mcl 0 i_Order_added "added" true (.v 4) (.cons (.v 9) (.cons (.ix (.v 11) (.call i__law_draw false (.cons (.v 8) (.cons (.bi .len (.cons (.v 11) .nil)) .nil)))) .nil)))) .nil) .nil) .nil)))
def l_law_2 : Stms := (.cons (.asg (.n 8) (.call i__law_bag false (.cons (.v 0) (.cons (.v 7) .nil)))) (.cons (.asg (.n 9) (.mcl 0 i_Order_empty "empty" true (.v 4) .nil)) (.cons (.for (.n 10) (.rng1 (.bin .add false (.v 5) (.c (.int 1)))) l_law_1) (.cons (.ifs (.or (.cmp .ne (.v 9) (.mcl 0 i_Order_whole "whole" true (.v 4) .nil)) (.not (.call i__law_before_right false (.cons (.v 8) (.cons (.v 4) (.cons (.v 2) (.cons (.v 3) .nil))))))) (.cons (.ret (.c (.bl false))) .nil) .nil) .nil))))
def e_law_1 : Ex := (.bi .len (.cons (.v 6) .nil))
def k_law_1 : Ex := (.lc false [("row", 6)] (.n 6) (.of (.v 2)) .no e_law_1)
def e_law_2 : Ex := (.bi .len (.cons (.v 6) .nil))
def k_law_2 : Ex := (.lc false [("row", 6)] (.n 6) (.of (.v 2)) .no e_law_2)
def b_law : Stms := (.cons (.asg (.n 1) (.call i__law_bag false (.cons (.v 0) (.cons (.c (.int 0)) .nil)))) (.cons (.asg (.t (.cons (.n 2) (.cons (.n 3) .nil))) (.call i__law_large false (.cons (.v 1) (.cons (.bin .add false (.c (.int 1)) (.call i__law_draw false (.cons (.v 1) (.cons (.c (.int 6)) .nil)))) (.cons (.call i__law_draw false (.cons (.v 1) (.cons (.c (.int 121)) .nil))) .nil))))) (.cons (.asg (.n 4) (.mk 0 i_Order___init__ false (.cons (.v 2) .nil))) (.cons (.asg (.n 5) (.bi .sum (.cons k_law_2 .nil))) (.cons (.ifs (.or (.cmp .ne (.mcl 0 i_Order_count "count" true (.v 4) .nil) (.bi .len (.cons (.v 2) .nil))) (.cmp .ne (.mcl 0 i_Order_whole "whole" true (.v 4) .nil) (.bi .tuple (.cons k_law_1 .nil)))) (.cons (.ret (.c (.bl false))) .nil) .nil) (.cons (.ifs (.or (.not (.call i__law_rows_right true (.cons (.v 4) (.cons (.v 2) (.cons (.v 3) .nil))))) (.cmp .ne (.call i__law_many true (.cons (.v 4) (.cons (.v 5) .nil))) (.neg (.c (.int 1))))) (.cons (.ret (.c (.bl false))) .nil) .nil) (.cons (.for (.n 7) (.rng1 (.bi .max (.cons (.c (.int 1)) (.cons (.bi .min (.cons (.c (.int 5)) (.cons (.bi .len (.cons (.v 0) .nil)) .nil))) .nil)))) l_law_2) (.cons (.ret (.cmp .eq (.call i__law_many true (.cons (.v 4) (.cons (.c (.int 0)) .nil))) (.neg (.c (.int 1))))) .nil))))))))
abbrev s_law : Stmt := top 39
def f_law : Fn := { name := "law", ps := ["script"], N := ["script", "first", "run", "clocks", "order", "size", "row", "k", "bag", "cut", "turn", "ups"], body := b_law }
def d_law : He.DefD := ⟨("law", none), "law", "law", defArgs s_law, defBody s_law, defScope s_law, [], []⟩
def F : List Fn := [f_is_integer, f_is_variable, f_is_changes, f_is_event, f_letters_of, f_is_possible, f_is_run, f_Order___init__, f_Order_count, f_Order_size, f_Order_clock, f_Order_before, f_Order_empty, f_Order_whole, f_Order_is_cut, f_Order_added, f_Order_ups, f_Order_state, f_Order_under_way, f_Order_cuts, f_Order__reckon, f_Order__ready, f_Order__clock_of, f_states_of, f_places_of, f_covers, f_joined, f__law_bag, f__law_draw, f__law_changes, f__law_large, f__law_is_cut, f__law_up, f__law_state, f__law_way, f__law_many, f__law_rows_right, f__law_before_right, f__law_near, f__law_cut_right, f_law]
def ds : List He.DefD := [d_is_integer, d_is_variable, d_is_changes, d_is_event, d_letters_of, d_is_possible, d_is_run, d_Order___init__, d_Order_count, d_Order_size, d_Order_clock, d_Order_before, d_Order_empty, d_Order_whole, d_Order_is_cut, d_Order_added, d_Order_ups, d_Order_state, d_Order_under_way, d_Order_cuts, d_Order__reckon, d_Order__ready, d_Order__clock_of, d_states_of, d_places_of, d_covers, d_joined, d__law_bag, d__law_draw, d__law_changes, d__law_large, d__law_is_cut, d__law_up, d__law_state, d__law_way, d__law_many, d__law_rows_right, d__law_before_right, d__law_near, d__law_cut_right, d_law]
def cs : List (Str × Cst) := [("MOST_PROCESSES", .int 6), ("MOST_EVENTS", .int 30), ("MOST_VALUE", .int 1000), ("MOST_LETTER", .int 999), ("VARIABLES_forms", .str "abcd"), ("VARIABLES_order", .str "abcd")]
def xs : List Str := ["CutError", "BadRun", "TooMany"]
def subs : List (List Bool) := [[true, false, false], [true, true, false], [true, false, true]]
def cl : List Cl := [⟨"Order", ["_run", "_states", "_sends", "_takes", "_clocks"], i_Order___init__, [("count", i_Order_count), ("size", i_Order_size), ("clock", i_Order_clock), ("before", i_Order_before), ("empty", i_Order_empty), ("whole", i_Order_whole), ("is_cut", i_Order_is_cut), ("added", i_Order_added), ("ups", i_Order_ups), ("state", i_Order_state), ("under_way", i_Order_under_way), ("cuts", i_Order_cuts), ("_reckon", i_Order__reckon), ("_ready", i_Order__ready), ("_clock_of", i_Order__clock_of)]⟩]
def L : Lw := ⟨F, ds, cs, xs, subs, cl⟩
def tx : Txt := L.tx
def T0 : Ip.Tab := L.tab
noncomputable abbrev C (k : Nat) : Gam := callK L.F T0 k
@[simp] theorem t_MOST_PROCESSES : T0.consts[g_MOST_PROCESSES]? = some (.int 6) := rfl
@[simp] theorem t_MOST_EVENTS : T0.consts[g_MOST_EVENTS]? = some (.int 30) := rfl
@[simp] theorem t_MOST_VALUE : T0.consts[g_MOST_VALUE]? = some (.int 1000) := rfl
@[simp] theorem t_MOST_LETTER : T0.consts[g_MOST_LETTER]? = some (.int 999) := rfl
@[simp] theorem t_VARIABLES_forms : T0.consts[g_VARIABLES_forms]? = some (.str "abcd") := rfl
@[simp] theorem t_VARIABLES_order : T0.consts[g_VARIABLES_order]? = some (.str "abcd") := rfl
theorem c_is_integer (k : Nat) (a0 a1 a2 : D) (S : Sto) : C (k + 1) i_is_integer [a0, a1, a2] S = outS (execs (C k) T0 b_is_integer [some a0, some a1, some a2] S) := rfl
theorem c_is_variable (k : Nat) (a0 : D) (S : Sto) : C (k + 1) i_is_variable [a0] S = outS (execs (C k) T0 b_is_variable [some a0] S) := rfl
theorem c_is_changes (k : Nat) (a0 : D) (S : Sto) : C (k + 1) i_is_changes [a0] S = outS (execs (C k) T0 b_is_changes [some a0, none, none] S) := rfl
theorem c_is_event (k : Nat) (a0 : D) (S : Sto) : C (k + 1) i_is_event [a0] S = outS (execs (C k) T0 b_is_event [some a0] S) := rfl
theorem c_letters_of (k : Nat) (a0 a1 : D) (S : Sto) : C (k + 1) i_letters_of [a0, a1] S = outS (execs (C k) T0 b_letters_of [some a0, some a1, none, none] S) := rfl
theorem c_is_possible (k : Nat) (a0 : D) (S : Sto) : C (k + 1) i_is_possible [a0] S = outS (execs (C k) T0 b_is_possible [some a0, none, none, none, none, none, none, none] S) := rfl
theorem c_is_run (k : Nat) (a0 : D) (S : Sto) : C (k + 1) i_is_run [a0] S = outS (execs (C k) T0 b_is_run [some a0, none, none, none, none] S) := rfl
theorem c_Order___init__ (k : Nat) (a0 a1 : D) (S : Sto) : C (k + 1) i_Order___init__ [a0, a1] S = outS (execs (C k) T0 b_Order___init__ [some a0, some a1, none, none] S) := rfl
theorem c_Order_count (k : Nat) (a0 : D) (S : Sto) : C (k + 1) i_Order_count [a0] S = outS (execs (C k) T0 b_Order_count [some a0] S) := rfl
theorem c_Order_size (k : Nat) (a0 a1 : D) (S : Sto) : C (k + 1) i_Order_size [a0, a1] S = outS (execs (C k) T0 b_Order_size [some a0, some a1] S) := rfl
theorem c_Order_clock (k : Nat) (a0 a1 a2 : D) (S : Sto) : C (k + 1) i_Order_clock [a0, a1, a2] S = outS (execs (C k) T0 b_Order_clock [some a0, some a1, some a2] S) := rfl
theorem c_Order_before (k : Nat) (a0 a1 a2 a3 a4 : D) (S : Sto) : C (k + 1) i_Order_before [a0, a1, a2, a3, a4] S = outS (execs (C k) T0 b_Order_before [some a0, some a1, some a2, some a3, some a4] S) := rfl
theorem c_Order_empty (k : Nat) (a0 : D) (S : Sto) : C (k + 1) i_Order_empty [a0] S = outS (execs (C k) T0 b_Order_empty [some a0] S) := rfl
theorem c_Order_whole (k : Nat) (a0 : D) (S : Sto) : C (k + 1) i_Order_whole [a0] S = outS (execs (C k) T0 b_Order_whole [some a0, none] S) := rfl
theorem c_Order_is_cut (k : Nat) (a0 a1 : D) (S : Sto) : C (k + 1) i_Order_is_cut [a0, a1] S = outS (execs (C k) T0 b_Order_is_cut [some a0, some a1, none, none] S) := rfl
theorem c_Order_added (k : Nat) (a0 a1 a2 : D) (S : Sto) : C (k + 1) i_Order_added [a0, a1, a2] S = outS (execs (C k) T0 b_Order_added [some a0, some a1, some a2] S) := rfl
theorem c_Order_ups (k : Nat) (a0 a1 : D) (S : Sto) : C (k + 1) i_Order_ups [a0, a1] S = outS (execs (C k) T0 b_Order_ups [some a0, some a1, none, none] S) := rfl
theorem c_Order_state (k : Nat) (a0 a1 a2 : D) (S : Sto) : C (k + 1) i_Order_state [a0, a1, a2] S = outS (execs (C k) T0 b_Order_state [some a0, some a1, some a2] S) := rfl
theorem c_Order_under_way (k : Nat) (a0 a1 : D) (S : Sto) : C (k + 1) i_Order_under_way [a0, a1] S = outS (execs (C k) T0 b_Order_under_way [some a0, some a1, none, none, none, none, none, none] S) := rfl
theorem c_Order_cuts (k : Nat) (a0 a1 : D) (S : Sto) : C (k + 1) i_Order_cuts [a0, a1] S = outS (execs (C k) T0 b_Order_cuts [some a0, some a1, none, none, none, none, none] S) := rfl
theorem c_Order__reckon (k : Nat) (a0 : D) (S : Sto) : C (k + 1) i_Order__reckon [a0] S = outS (execs (C k) T0 b_Order__reckon [some a0, none, none, none, none] S) := rfl
theorem c_Order__ready (k : Nat) (a0 a1 : D) (S : Sto) : C (k + 1) i_Order__ready [a0, a1] S = outS (execs (C k) T0 b_Order__ready [some a0, some a1, none, none] S) := rfl
theorem c_Order__clock_of (k : Nat) (a0 a1 a2 a3 : D) (S : Sto) : C (k + 1) i_Order__clock_of [a0, a1, a2, a3] S = outS (execs (C k) T0 b_Order__clock_of [some a0, some a1, some a2, some a3, none, none, none] S) := rfl
theorem c_states_of (k : Nat) (a0 : D) (S : Sto) : C (k + 1) i_states_of [a0] S = outS (execs (C k) T0 b_states_of [some a0, none, none, none, none, none] S) := rfl
theorem c_places_of (k : Nat) (a0 a1 : D) (S : Sto) : C (k + 1) i_places_of [a0, a1] S = outS (execs (C k) T0 b_places_of [some a0, some a1, none, none, none, none, none] S) := rfl
theorem c_covers (k : Nat) (a0 a1 : D) (S : Sto) : C (k + 1) i_covers [a0, a1] S = outS (execs (C k) T0 b_covers [some a0, some a1, none, none] S) := rfl
theorem c_joined (k : Nat) (a0 a1 : D) (S : Sto) : C (k + 1) i_joined [a0, a1] S = outS (execs (C k) T0 b_joined [some a0, some a1, none, none] S) := rfl
theorem c__law_bag (k : Nat) (a0 a1 : D) (S : Sto) : C (k + 1) i__law_bag [a0, a1] S = outS (execs (C k) T0 b__law_bag [some a0, some a1, none] S) := rfl
theorem c__law_draw (k : Nat) (a0 a1 : D) (S : Sto) : C (k + 1) i__law_draw [a0, a1] S = outS (execs (C k) T0 b__law_draw [some a0, some a1, none, none] S) := rfl
theorem c__law_changes (k : Nat) (a0 : D) (S : Sto) : C (k + 1) i__law_changes [a0] S = outS (execs (C k) T0 b__law_changes [some a0, none, none] S) := rfl
theorem c__law_large (k : Nat) (a0 a1 a2 : D) (S : Sto) : C (k + 1) i__law_large [a0, a1, a2] S = outS (execs (C k) T0 b__law_large [some a0, some a1, some a2, none, none, none, none, none, none, none, none, none, none, none, none, none] S) := rfl
theorem c__law_is_cut (k : Nat) (a0 a1 : D) (S : Sto) : C (k + 1) i__law_is_cut [a0, a1] S = outS (execs (C k) T0 b__law_is_cut [some a0, some a1, none, none, none] S) := rfl
theorem c__law_up (k : Nat) (a0 a1 a2 : D) (S : Sto) : C (k + 1) i__law_up [a0, a1, a2] S = outS (execs (C k) T0 b__law_up [some a0, some a1, some a2, none, none, none] S) := rfl
theorem c__law_state (k : Nat) (a0 a1 a2 : D) (S : Sto) : C (k + 1) i__law_state [a0, a1, a2] S = outS (execs (C k) T0 b__law_state [some a0, some a1, some a2, none, none, none, none] S) := rfl
theorem c__law_way (k : Nat) (a0 a1 : D) (S : Sto) : C (k + 1) i__law_way [a0, a1] S = outS (execs (C k) T0 b__law_way [some a0, some a1, none, none, none, none, none] S) := rfl
theorem c__law_many (k : Nat) (a0 a1 : D) (S : Sto) : C (k + 1) i__law_many [a0, a1] S = outS (execs (C k) T0 b__law_many [some a0, some a1] S) := rfl
theorem c__law_rows_right (k : Nat) (a0 a1 a2 : D) (S : Sto) : C (k + 1) i__law_rows_right [a0, a1, a2] S = outS (execs (C k) T0 b__law_rows_right [some a0, some a1, some a2, none, none, none] S) := rfl
theorem c__law_before_right (k : Nat) (a0 a1 a2 a3 : D) (S : Sto) : C (k + 1) i__law_before_right [a0, a1, a2, a3] S = outS (execs (C k) T0 b__law_before_right [some a0, some a1, some a2, some a3, none, none, none, none, none, none] S) := rfl
theorem c__law_near (k : Nat) (a0 a1 a2 : D) (S : Sto) : C (k + 1) i__law_near [a0, a1, a2] S = outS (execs (C k) T0 b__law_near [some a0, some a1, some a2, none, none] S) := rfl
theorem c__law_cut_right (k : Nat) (a0 a1 a2 a3 a4 : D) (S : Sto) : C (k + 1) i__law_cut_right [a0, a1, a2, a3, a4] S = outS (execs (C k) T0 b__law_cut_right [some a0, some a1, some a2, some a3, some a4, none, none, none] S) := rfl
theorem c_law (k : Nat) (a0 : D) (S : Sto) : C (k + 1) i_law [a0] S = outS (execs (C k) T0 b_law [some a0, none, none, none, none, none, none, none, none, none, none, none] S) := rfl
theorem ok_is_integer : DefOk L.tx f_is_integer d_is_integer := ⟨.inr rfl, ⟨rfl, rfl, rfl, by decide +kernel, rfl, by decide +kernel, by decide +kernel⟩, by kernel_rfl, rfl, rfl, fun _ _ _ _ _ _ us hl => match us, hl with | [_, _, _], _ => rfl⟩
theorem ok_is_variable : DefOk L.tx f_is_variable d_is_variable := ⟨.inr rfl, ⟨rfl, rfl, rfl, by decide +kernel, rfl, by decide +kernel, by decide +kernel⟩, by kernel_rfl, rfl, rfl, fun _ _ _ _ _ _ us hl => match us, hl with | [_], _ => rfl⟩
theorem ok_is_changes : DefOk L.tx f_is_changes d_is_changes := ⟨.inr rfl, ⟨rfl, rfl, rfl, by decide +kernel, rfl, by decide +kernel, by decide +kernel⟩, by kernel_rfl, rfl, rfl, fun _ _ _ _ _ _ us hl => match us, hl with | [_], _ => rfl⟩
theorem ok_is_event : DefOk L.tx f_is_event d_is_event := ⟨.inr rfl, ⟨rfl, rfl, rfl, by decide +kernel, rfl, by decide +kernel, by decide +kernel⟩, by kernel_rfl, rfl, rfl, fun _ _ _ _ _ _ us hl => match us, hl with | [_], _ => rfl⟩
theorem ok_letters_of : DefOk L.tx f_letters_of d_letters_of := ⟨.inr rfl, ⟨rfl, rfl, rfl, by decide +kernel, rfl, by decide +kernel, by decide +kernel⟩, by kernel_rfl, rfl, rfl, fun _ _ _ _ _ _ us hl => match us, hl with | [_, _], _ => rfl⟩
theorem ok_is_possible : DefOk L.tx f_is_possible d_is_possible := ⟨.inr rfl, ⟨rfl, rfl, rfl, by decide +kernel, rfl, by decide +kernel, by decide +kernel⟩, by kernel_rfl, rfl, rfl, fun _ _ _ _ _ _ us hl => match us, hl with | [_], _ => rfl⟩
theorem ok_is_run : DefOk L.tx f_is_run d_is_run := ⟨.inr rfl, ⟨rfl, rfl, rfl, by decide +kernel, rfl, by decide +kernel, by decide +kernel⟩, by kernel_rfl, rfl, rfl, fun _ _ _ _ _ _ us hl => match us, hl with | [_], _ => rfl⟩
theorem ok_Order___init__ : DefOk L.tx f_Order___init__ d_Order___init__ := ⟨.inl rfl, ⟨rfl, rfl, rfl, by decide +kernel, rfl, by decide +kernel, by decide +kernel⟩, by kernel_rfl, rfl, rfl, fun _ _ _ _ _ _ us hl => match us, hl with | [_, _], _ => rfl⟩
theorem ok_Order_count : DefOk L.tx f_Order_count d_Order_count := ⟨.inl rfl, ⟨rfl, rfl, rfl, by decide +kernel, rfl, by decide +kernel, by decide +kernel⟩, by kernel_rfl, rfl, rfl, fun _ _ _ _ _ _ us hl => match us, hl with | [_], _ => rfl⟩
theorem ok_Order_size : DefOk L.tx f_Order_size d_Order_size := ⟨.inl rfl, ⟨rfl, rfl, rfl, by decide +kernel, rfl, by decide +kernel, by decide +kernel⟩, by kernel_rfl, rfl, rfl, fun _ _ _ _ _ _ us hl => match us, hl with | [_, _], _ => rfl⟩
theorem ok_Order_clock : DefOk L.tx f_Order_clock d_Order_clock := ⟨.inl rfl, ⟨rfl, rfl, rfl, by decide +kernel, rfl, by decide +kernel, by decide +kernel⟩, by kernel_rfl, rfl, rfl, fun _ _ _ _ _ _ us hl => match us, hl with | [_, _, _], _ => rfl⟩
theorem ok_Order_before : DefOk L.tx f_Order_before d_Order_before := ⟨.inl rfl, ⟨rfl, rfl, rfl, by decide +kernel, rfl, by decide +kernel, by decide +kernel⟩, by kernel_rfl, rfl, rfl, fun _ _ _ _ _ _ us hl => match us, hl with | [_, _, _, _, _], _ => rfl⟩
theorem ok_Order_empty : DefOk L.tx f_Order_empty d_Order_empty := ⟨.inl rfl, ⟨rfl, rfl, rfl, by decide +kernel, rfl, by decide +kernel, by decide +kernel⟩, by kernel_rfl, rfl, rfl, fun _ _ _ _ _ _ us hl => match us, hl with | [_], _ => rfl⟩
theorem ok_Order_whole : DefOk L.tx f_Order_whole d_Order_whole := ⟨.inl rfl, ⟨rfl, rfl, rfl, by decide +kernel, rfl, by decide +kernel, by decide +kernel⟩, by kernel_rfl, rfl, rfl, fun _ _ _ _ _ _ us hl => match us, hl with | [_], _ => rfl⟩
theorem ok_Order_is_cut : DefOk L.tx f_Order_is_cut d_Order_is_cut := ⟨.inl rfl, ⟨rfl, rfl, rfl, by decide +kernel, rfl, by decide +kernel, by decide +kernel⟩, by kernel_rfl, rfl, rfl, fun _ _ _ _ _ _ us hl => match us, hl with | [_, _], _ => rfl⟩
theorem ok_Order_added : DefOk L.tx f_Order_added d_Order_added := ⟨.inl rfl, ⟨rfl, rfl, rfl, by decide +kernel, rfl, by decide +kernel, by decide +kernel⟩, by kernel_rfl, rfl, rfl, fun _ _ _ _ _ _ us hl => match us, hl with | [_, _, _], _ => rfl⟩
theorem ok_Order_ups : DefOk L.tx f_Order_ups d_Order_ups := ⟨.inl rfl, ⟨rfl, rfl, rfl, by decide +kernel, rfl, by decide +kernel, by decide +kernel⟩, by kernel_rfl, rfl, rfl, fun _ _ _ _ _ _ us hl => match us, hl with | [_, _], _ => rfl⟩
theorem ok_Order_state : DefOk L.tx f_Order_state d_Order_state := ⟨.inl rfl, ⟨rfl, rfl, rfl, by decide +kernel, rfl, by decide +kernel, by decide +kernel⟩, by kernel_rfl, rfl, rfl, fun _ _ _ _ _ _ us hl => match us, hl with | [_, _, _], _ => rfl⟩
theorem ok_Order_under_way : DefOk L.tx f_Order_under_way d_Order_under_way := ⟨.inl rfl, ⟨rfl, rfl, rfl, by decide +kernel, rfl, by decide +kernel, by decide +kernel⟩, by kernel_rfl, rfl, rfl, fun _ _ _ _ _ _ us hl => match us, hl with | [_, _], _ => rfl⟩
theorem ok_Order_cuts : DefOk L.tx f_Order_cuts d_Order_cuts := ⟨.inl rfl, ⟨rfl, rfl, rfl, by decide +kernel, rfl, by decide +kernel, by decide +kernel⟩, by kernel_rfl, rfl, rfl, fun _ _ _ _ _ _ us hl => match us, hl with | [_, _], _ => rfl⟩
theorem ok_Order__reckon : DefOk L.tx f_Order__reckon d_Order__reckon := ⟨.inl rfl, ⟨rfl, rfl, rfl, by decide +kernel, rfl, by decide +kernel, by decide +kernel⟩, by kernel_rfl, rfl, rfl, fun _ _ _ _ _ _ us hl => match us, hl with | [_], _ => rfl⟩
theorem ok_Order__ready : DefOk L.tx f_Order__ready d_Order__ready := ⟨.inl rfl, ⟨rfl, rfl, rfl, by decide +kernel, rfl, by decide +kernel, by decide +kernel⟩, by kernel_rfl, rfl, rfl, fun _ _ _ _ _ _ us hl => match us, hl with | [_, _], _ => rfl⟩
theorem ok_Order__clock_of : DefOk L.tx f_Order__clock_of d_Order__clock_of := ⟨.inl rfl, ⟨rfl, rfl, rfl, by decide +kernel, rfl, by decide +kernel, by decide +kernel⟩, by kernel_rfl, rfl, rfl, fun _ _ _ _ _ _ us hl => match us, hl with | [_, _, _, _], _ => rfl⟩
theorem ok_states_of : DefOk L.tx f_states_of d_states_of := ⟨.inr rfl, ⟨rfl, rfl, rfl, by decide +kernel, rfl, by decide +kernel, by decide +kernel⟩, by kernel_rfl, rfl, rfl, fun _ _ _ _ _ _ us hl => match us, hl with | [_], _ => rfl⟩
theorem ok_places_of : DefOk L.tx f_places_of d_places_of := ⟨.inr rfl, ⟨rfl, rfl, rfl, by decide +kernel, rfl, by decide +kernel, by decide +kernel⟩, by kernel_rfl, rfl, rfl, fun _ _ _ _ _ _ us hl => match us, hl with | [_, _], _ => rfl⟩
theorem ok_covers : DefOk L.tx f_covers d_covers := ⟨.inr rfl, ⟨rfl, rfl, rfl, by decide +kernel, rfl, by decide +kernel, by decide +kernel⟩, by kernel_rfl, rfl, rfl, fun _ _ _ _ _ _ us hl => match us, hl with | [_, _], _ => rfl⟩
theorem ok_joined : DefOk L.tx f_joined d_joined := ⟨.inr rfl, ⟨rfl, rfl, rfl, by decide +kernel, rfl, by decide +kernel, by decide +kernel⟩, by kernel_rfl, rfl, rfl, fun _ _ _ _ _ _ us hl => match us, hl with | [_, _], _ => rfl⟩
theorem ok__law_bag : DefOk L.tx f__law_bag d__law_bag := ⟨.inr rfl, ⟨rfl, rfl, rfl, by decide +kernel, rfl, by decide +kernel, by decide +kernel⟩, by kernel_rfl, rfl, rfl, fun _ _ _ _ _ _ us hl => match us, hl with | [_, _], _ => rfl⟩
theorem ok__law_draw : DefOk L.tx f__law_draw d__law_draw := ⟨.inr rfl, ⟨rfl, rfl, rfl, by decide +kernel, rfl, by decide +kernel, by decide +kernel⟩, by kernel_rfl, rfl, rfl, fun _ _ _ _ _ _ us hl => match us, hl with | [_, _], _ => rfl⟩
theorem ok__law_changes : DefOk L.tx f__law_changes d__law_changes := ⟨.inr rfl, ⟨rfl, rfl, rfl, by decide +kernel, rfl, by decide +kernel, by decide +kernel⟩, by kernel_rfl, rfl, rfl, fun _ _ _ _ _ _ us hl => match us, hl with | [_], _ => rfl⟩
theorem ok__law_large : DefOk L.tx f__law_large d__law_large := ⟨.inr rfl, ⟨rfl, rfl, rfl, by decide +kernel, rfl, by decide +kernel, by decide +kernel⟩, by kernel_rfl, rfl, rfl, fun _ _ _ _ _ _ us hl => match us, hl with | [_, _, _], _ => rfl⟩
theorem ok__law_is_cut : DefOk L.tx f__law_is_cut d__law_is_cut := ⟨.inr rfl, ⟨rfl, rfl, rfl, by decide +kernel, rfl, by decide +kernel, by decide +kernel⟩, by kernel_rfl, rfl, rfl, fun _ _ _ _ _ _ us hl => match us, hl with | [_, _], _ => rfl⟩
theorem ok__law_up : DefOk L.tx f__law_up d__law_up := ⟨.inr rfl, ⟨rfl, rfl, rfl, by decide +kernel, rfl, by decide +kernel, by decide +kernel⟩, by kernel_rfl, rfl, rfl, fun _ _ _ _ _ _ us hl => match us, hl with | [_, _, _], _ => rfl⟩
theorem ok__law_state : DefOk L.tx f__law_state d__law_state := ⟨.inr rfl, ⟨rfl, rfl, rfl, by decide +kernel, rfl, by decide +kernel, by decide +kernel⟩, by kernel_rfl, rfl, rfl, fun _ _ _ _ _ _ us hl => match us, hl with | [_, _, _], _ => rfl⟩
theorem ok__law_way : DefOk L.tx f__law_way d__law_way := ⟨.inr rfl, ⟨rfl, rfl, rfl, by decide +kernel, rfl, by decide +kernel, by decide +kernel⟩, by kernel_rfl, rfl, rfl, fun _ _ _ _ _ _ us hl => match us, hl with | [_, _], _ => rfl⟩
theorem ok__law_many : DefOk L.tx f__law_many d__law_many := ⟨.inr rfl, ⟨rfl, rfl, rfl, by decide +kernel, rfl, by decide +kernel, by decide +kernel⟩, by kernel_rfl, rfl, rfl, fun _ _ _ _ _ _ us hl => match us, hl with | [_, _], _ => rfl⟩
theorem ok__law_rows_right : DefOk L.tx f__law_rows_right d__law_rows_right := ⟨.inr rfl, ⟨rfl, rfl, rfl, by decide +kernel, rfl, by decide +kernel, by decide +kernel⟩, by kernel_rfl, rfl, rfl, fun _ _ _ _ _ _ us hl => match us, hl with | [_, _, _], _ => rfl⟩
theorem ok__law_before_right : DefOk L.tx f__law_before_right d__law_before_right := ⟨.inr rfl, ⟨rfl, rfl, rfl, by decide +kernel, rfl, by decide +kernel, by decide +kernel⟩, by kernel_rfl, rfl, rfl, fun _ _ _ _ _ _ us hl => match us, hl with | [_, _, _, _], _ => rfl⟩
theorem ok__law_near : DefOk L.tx f__law_near d__law_near := ⟨.inr rfl, ⟨rfl, rfl, rfl, by decide +kernel, rfl, by decide +kernel, by decide +kernel⟩, by kernel_rfl, rfl, rfl, fun _ _ _ _ _ _ us hl => match us, hl with | [_, _, _], _ => rfl⟩
theorem ok__law_cut_right : DefOk L.tx f__law_cut_right d__law_cut_right := ⟨.inr rfl, ⟨rfl, rfl, rfl, by decide +kernel, rfl, by decide +kernel, by decide +kernel⟩, by kernel_rfl, rfl, rfl, fun _ _ _ _ _ _ us hl => match us, hl with | [_, _, _, _, _], _ => rfl⟩
theorem ok_law : DefOk L.tx f_law d_law := ⟨.inr rfl, ⟨rfl, rfl, rfl, by decide +kernel, rfl, by decide +kernel, by decide +kernel⟩, by kernel_rfl, rfl, rfl, fun _ _ _ _ _ _ us hl => match us, hl with | [_], _ => rfl⟩
theorem all_ok : AllOk L := fun i f d h1 h2 => by
  match i, h1, h2 with
  | 0, h1, h2 => cases h1; cases h2; exact ok_is_integer
  | 1, h1, h2 => cases h1; cases h2; exact ok_is_variable
  | 2, h1, h2 => cases h1; cases h2; exact ok_is_changes
  | 3, h1, h2 => cases h1; cases h2; exact ok_is_event
  | 4, h1, h2 => cases h1; cases h2; exact ok_letters_of
  | 5, h1, h2 => cases h1; cases h2; exact ok_is_possible
  | 6, h1, h2 => cases h1; cases h2; exact ok_is_run
  | 7, h1, h2 => cases h1; cases h2; exact ok_Order___init__
  | 8, h1, h2 => cases h1; cases h2; exact ok_Order_count
  | 9, h1, h2 => cases h1; cases h2; exact ok_Order_size
  | 10, h1, h2 => cases h1; cases h2; exact ok_Order_clock
  | 11, h1, h2 => cases h1; cases h2; exact ok_Order_before
  | 12, h1, h2 => cases h1; cases h2; exact ok_Order_empty
  | 13, h1, h2 => cases h1; cases h2; exact ok_Order_whole
  | 14, h1, h2 => cases h1; cases h2; exact ok_Order_is_cut
  | 15, h1, h2 => cases h1; cases h2; exact ok_Order_added
  | 16, h1, h2 => cases h1; cases h2; exact ok_Order_ups
  | 17, h1, h2 => cases h1; cases h2; exact ok_Order_state
  | 18, h1, h2 => cases h1; cases h2; exact ok_Order_under_way
  | 19, h1, h2 => cases h1; cases h2; exact ok_Order_cuts
  | 20, h1, h2 => cases h1; cases h2; exact ok_Order__reckon
  | 21, h1, h2 => cases h1; cases h2; exact ok_Order__ready
  | 22, h1, h2 => cases h1; cases h2; exact ok_Order__clock_of
  | 23, h1, h2 => cases h1; cases h2; exact ok_states_of
  | 24, h1, h2 => cases h1; cases h2; exact ok_places_of
  | 25, h1, h2 => cases h1; cases h2; exact ok_covers
  | 26, h1, h2 => cases h1; cases h2; exact ok_joined
  | 27, h1, h2 => cases h1; cases h2; exact ok__law_bag
  | 28, h1, h2 => cases h1; cases h2; exact ok__law_draw
  | 29, h1, h2 => cases h1; cases h2; exact ok__law_changes
  | 30, h1, h2 => cases h1; cases h2; exact ok__law_large
  | 31, h1, h2 => cases h1; cases h2; exact ok__law_is_cut
  | 32, h1, h2 => cases h1; cases h2; exact ok__law_up
  | 33, h1, h2 => cases h1; cases h2; exact ok__law_state
  | 34, h1, h2 => cases h1; cases h2; exact ok__law_way
  | 35, h1, h2 => cases h1; cases h2; exact ok__law_many
  | 36, h1, h2 => cases h1; cases h2; exact ok__law_rows_right
  | 37, h1, h2 => cases h1; cases h2; exact ok__law_before_right
  | 38, h1, h2 => cases h1; cases h2; exact ok__law_near
  | 39, h1, h2 => cases h1; cases h2; exact ok__law_cut_right
  | 40, h1, h2 => cases h1; cases h2; exact ok_law
  | _ + 41, h1, _ => simp [L, F] at h1
end Lk
namespace Lk
open PySem PySem.Spec PyProof.Rows L2 Ip
abbrev R : PySem.W.OpenRow := PySem.W.OpenLaw.row PySem.Challenge.rw_cutpapers_k12_large_runs
def loose : List PySem.Str := (["CutError", "BadRun", "TooMany", "MOST_PROCESSES", "MOST_EVENTS", "MOST_VALUE", "MOST_LETTER", "is_integer", "VARIABLES_forms", "is_variable", "is_changes", "is_event", "letters_of", "is_possible", "is_run", "VARIABLES_order", "Order", "states_of", "places_of", "covers"] : List PySem.Str) ++ (["joined", "_law_bag", "_law_draw", "_law_changes", "_law_large", "_law_is_cut", "_law_up", "_law_state", "_law_way", "_law_many", "_law_rows_right", "_law_before_right", "_law_near", "_law_cut_right"] : List PySem.Str)
abbrev hk : PySem.W.Hook := hookX 5 L.fas L.ds L.xs L.subs
def ob (s : PySem.W.SharedT) : He.AlD × Bool := obsX 5 L.fas L.ds L.xs L.subs (HandSHeadRun.getT s)
theorem ob_eq (s : PySem.W.SharedT) : ob s = hk.obs s.abs := obsX_eq (HandSHeadRun.getT_eq s)
theorem run (w : World) : HandSHeadRun.RunEq R (PySem.W.view R.prog [39]) hk ob 4000 loose w := by
  intro os
  kernel_rfl
end Lk
namespace Lk
open PySem PySem.W PySem.Calls PyProof.Rows L2
theorem holds_of {k : Nat} (hk9 : k ≤ 40) (hlaw : ∀ ns : List Int, ns.length ≤ 63 → (∀ z ∈ ns, Builtin.Int.intBits z ≤ 1048576) → ∃ S, Ip.callK L.F L.tab k i_law [.scr ns] [] = some (.ok (.bl true) S)) : PySem.Challenge.rw_cutpapers_k12_large_runs.Holds := by
  w_on; o_law
  refine HandSHeadRun.head_any (r := OpenLaw.row PySem.Challenge.rw_cutpapers_k12_large_runs) (q := view (OpenLaw.row PySem.Challenge.rw_cutpapers_k12_large_runs).prog [39]) (H := Lk.hk) (ob := Lk.ob) (M := 4000) (loose := Lk.loose) (d := HandSHeadRun.topDef (OpenLaw.row PySem.Challenge.rw_cutpapers_k12_large_runs).prog 39) (kwd := []) Lk.ob_eq
    (by kernel_rfl) (fun s => by kernel_rfl) Lk.run (by kernel_rfl) (by kernel_rfl) (by kernel_rfl) (by rfl) (by first | assumption | decide +kernel) (by decide +kernel) ⟨rfl, rfl, rfl, rfl, rfl, by decide +kernel⟩ ?hw ?hc
  case hw => w_witness2
  case hc =>
    refine Ip.law_end (L := Lk.L) (l := PySem.Challenge.rw_cutpapers_k12_large_runs) (n := 63) (k := k) (j := Lk.i_law) (fl := Lk.f_law) (fun w h Y => Y) rfl (by decide) (by kernel_rfl) ⟨rfl, ?_, ?_⟩ (by decide +kernel) Lk.all_ok rfl rfl (by decide) rfl (by kernel_rfl) hlaw
    · show callerA.depth + 3 * (2 * k) + 5 < recursionLimit
      have : callerA.depth + 3 * (2 * 40) + 5 < recursionLimit := by decide
      omega
    · show callerA.units + 16 * (2 * k) + 200 < cLine
      have : callerA.units + 16 * (2 * 40) + 200 < cLine := by decide
      omega
end Lk
namespace Lk
open PyProof.Rows L2 Ip
/-! ### data: what the laws draw -/
def leaf : D → Bool
  | .non => true
  | .bl _ => true
  | .int _ => true
  | .str x => decide (x.length ≤ 100000) && P3Ok x
  | _ => false
where P3Ok (x : PySem.Str) : Bool := PySem.PyData.strOk x
def dat : Nat → D → Bool
  | 0, d => leaf d
  | n + 1, .tup xs => decide (xs.length ≤ 1000 + n) && xs.all (dat n)
  | n + 1, .lst xs => decide (xs.length ≤ 1000 + n) && xs.all (dat n)
  | _ + 1, d => leaf d
theorem dat_leaf {d : D} (h : leaf d = true) : ∀ n, dat n d = true
  | 0 => h
  | n + 1 => by
    cases d <;> first | exact h | cases h
theorem dat_tup {n : Nat} {xs : List D} : (dat (n + 1) (.tup xs) = true) ↔ (xs.length ≤ 1000 + n ∧ xs.all (dat n) = true) := by
  rw [dat, Bool.and_eq_true, decide_eq_true_eq]
theorem dat_lst {n : Nat} {xs : List D} : (dat (n + 1) (.lst xs) = true) ↔ (xs.length ≤ 1000 + n ∧ xs.all (dat n) = true) := by
  rw [dat, Bool.and_eq_true, decide_eq_true_eq]
theorem dat_mono : ∀ {n m : Nat} {d : D}, n ≤ m → dat n d = true → dat m d = true
  | 0, m, d, _, h => dat_leaf h m
  | n + 1, 0, d, hl, h => by omega
  | n + 1, m + 1, .tup xs, hl, h => by
    rw [dat_tup, List.all_eq_true] at h ⊢
    exact ⟨by omega, fun x hx => dat_mono (by omega) (h.2 x hx)⟩
  | n + 1, m + 1, .lst xs, hl, h => by
    rw [dat_lst, List.all_eq_true] at h ⊢
    exact ⟨by omega, fun x hx => dat_mono (by omega) (h.2 x hx)⟩
  | n + 1, m + 1, .non, hl, h => h
  | n + 1, m + 1, .bl _, hl, h => h
  | n + 1, m + 1, .int _, hl, h => h
  | n + 1, m + 1, .str _, hl, h => h
  | n + 1, m + 1, .scr _, hl, h => by cases h
  | n + 1, m + 1, .dct _ _ _, hl, h => by cases h
  | n + 1, m + 1, .obj _ _ _, hl, h => by cases h
  | n + 1, m + 1, .ref _, hl, h => by cases h
mutual
theorem dat_pure : ∀ (n : Nat) (d : D), dat n d = true → d.pure = true
  | 0, d, h => by cases d <;> first | rfl | cases h
  | n + 1, d, h => by
    cases d with
    | tup xs => rw [D.pure]; exact dats_pure n xs (by first | (rw [dat_tup] at h; exact h.2) | (rw [dat_lst] at h; exact h.2))
    | lst xs => rw [D.pure]; exact dats_pure n xs (by first | (rw [dat_tup] at h; exact h.2) | (rw [dat_lst] at h; exact h.2))
    | _ => first | rfl | cases h
theorem dats_pure : ∀ (n : Nat) (xs : List D), xs.all (dat n) = true → pures xs = true
  | n, [], _ => rfl
  | n, x :: xs, h => by
    rw [List.all_cons, Bool.and_eq_true] at h
    rw [pures, dat_pure n x h.1, dats_pure n xs h.2]; rfl
end
-- what == reads
mutual
theorem dat_pd : ∀ (n : Nat) (d : D), dat n d = true → ∃ a, pd d = some a ∧ a.canLay0 = true ∧ a.depth ≤ n
  | 0, d, h => by
    cases d with
    | non => exact ⟨_, rfl, by simp [PySem.PyData.canLay0], by simp [PySem.PyData.depth]⟩
    | bl b => exact ⟨_, rfl, by simp [PySem.PyData.canLay0], by simp [PySem.PyData.depth]⟩
    | int b => exact ⟨_, rfl, by simp [PySem.PyData.canLay0], by simp [PySem.PyData.depth]⟩
    | str x =>
      have h : (decide (x.length ≤ 100000) && PySem.PyData.strOk x) = true := h
      rw [Bool.and_eq_true] at h
      exact ⟨_, rfl, by simp [PySem.PyData.canLay0, h.2], by simp [PySem.PyData.depth]⟩
    | _ => cases h
  | n + 1, d, h => by
    cases d with
    | non => exact ⟨_, rfl, by simp [PySem.PyData.canLay0], by simp [PySem.PyData.depth]⟩
    | bl b => exact ⟨_, rfl, by simp [PySem.PyData.canLay0], by simp [PySem.PyData.depth]⟩
    | int b => exact ⟨_, rfl, by simp [PySem.PyData.canLay0], by simp [PySem.PyData.depth]⟩
    | str x =>
      have h : (decide (x.length ≤ 100000) && PySem.PyData.strOk x) = true := h
      rw [Bool.and_eq_true] at h
      exact ⟨_, rfl, by simp [PySem.PyData.canLay0, h.2], by simp [PySem.PyData.depth]⟩
    | tup xs =>
      obtain ⟨as, h1, h2, h3⟩ := dats_pd n xs (dat_tup.mp h).2
      exact ⟨.tuple as, by rw [pd, h1]; rfl, by rw [PySem.PyData.canLay0]; exact h2, by rw [PySem.PyData.depth]; omega⟩
    | lst xs =>
      obtain ⟨as, h1, h2, h3⟩ := dats_pd n xs (dat_lst.mp h).2
      exact ⟨.list as, by rw [pd, h1]; rfl, by rw [PySem.PyData.canLay0]; exact h2, by rw [PySem.PyData.depth]; omega⟩
    | _ => cases h
theorem dats_pd : ∀ (n : Nat) (xs : List D), xs.all (dat n) = true → ∃ as, pds xs = some as ∧ PySem.PyData.canLayAll0 as = true ∧ PySem.PyData.depthAll as ≤ n
  | n, [], _ => ⟨[], rfl, rfl, by simp [PySem.PyData.depthAll]⟩
  | n, x :: xs, h => by
    rw [List.all_cons, Bool.and_eq_true] at h
    obtain ⟨a, h1, h2, h3⟩ := dat_pd n x h.1
    obtain ⟨as, h4, h5, h6⟩ := dats_pd n xs h.2
    exact ⟨a :: as, by rw [pds, h1, h4], by rw [PySem.PyData.canLayAll0, h2, h5]; rfl, by rw [PySem.PyData.depthAll]; omega⟩
end
theorem dat_res1 {S : Sto} {n : Nat} {d : D} (h : dat n d = true) : res1 S d = d := by
  cases d <;> first | rfl | (cases n <;> cases h)
theorem dat_res2 {S : Sto} {n : Nat} {d : D} (h : dat n d = true) : res2 S d = d := by
  cases d with
  | lst xs =>
    cases n with
    | zero => cases h
    | succ n =>
      rw [res2]
      congr 1
      rw [dat_lst, List.all_eq_true] at h
      conv => rhs; rw [← List.map_id xs]
      exact List.map_congr_left fun x hx => dat_res1 (h.2 x hx)
  | _ => first | rfl | (cases n <;> cases h)
theorem dat_shaped {n : Nat} {d : D} (hn : n ≤ 64) (h : dat n d = true) : ∃ a, pd d = some a ∧ PySem.SeqAt.shaped a = true := by
  obtain ⟨a, h1, h2, h3⟩ := dat_pd n d h
  exact ⟨a, h1, by unfold PySem.SeqAt.shaped; rw [h2, decide_eq_true (show a.depth ≤ 64 by omega)]; rfl⟩
/-- value == () -/
def isNil : D → Bool
  | .tup [] => true
  | _ => false
theorem eqD_nil {S : Sto} {n : Nat} {d : D} (hn : n ≤ 64) (h : dat n d = true) : eqD S d (.tup []) = some (isNil d) := by
  obtain ⟨a, h1, h2⟩ := dat_shaped hn h
  have e : eqD S d (.tup []) = (match pd (res2 S d), pd (res2 S (.tup [])) with
    | some a, some b => if PySem.SeqAt.shaped a = true ∧ PySem.SeqAt.shaped b = true then some (PySem.PyData.eqv a b) else none
    | _, _ => none) := by cases d <;> rfl
  rw [e, dat_res2 h, h1]
  have e2 : pd (res2 S (.tup [])) = some (.tuple []) := rfl
  rw [e2]
  simp only
  rw [if_pos ⟨h2, by decide⟩]
  congr 1
  cases d with
  | tup xs =>
    rw [pd] at h1
    cases xs with
    | nil => cases h1; simp [PySem.PyData.eqv, PySem.PyData.eqvAll, isNil]
    | cons x xs =>
      cases hx : pds (x :: xs) with
      | none => rw [hx] at h1; cases h1
      | some as =>
        rw [hx] at h1; cases h1
        cases as with
        | nil => rw [pds] at hx; split at hx <;> cases hx
        | cons a as => simp [PySem.PyData.eqv, PySem.PyData.eqvAll, isNil]
  | lst xs =>
    rw [pd] at h1
    cases hx : pds xs with
    | none => rw [hx] at h1; cases h1
    | some as => rw [hx] at h1; cases h1; simp [PySem.PyData.eqv, isNil]
  | non => cases h1; simp [PySem.PyData.eqv, isNil]
  | bl b => cases h1; simp [PySem.PyData.eqv, isNil]
  | int b => cases h1; simp [PySem.PyData.eqv, isNil]
  | str b => cases h1; simp [PySem.PyData.eqv, isNil]
  | _ => cases h1
theorem str_len {x : PySem.Str} (h : leaf (.str x) = true) : x.length ≤ PySem.sizeLine := by
  have h : (decide (x.length ≤ 100000) && PySem.PyData.strOk x) = true := h
  rw [Bool.and_eq_true, decide_eq_true_eq] at h
  have : (100000 : Nat) ≤ PySem.sizeLine := by decide
  omega
theorem dat_str {n : Nat} {x : PySem.Str} (h : dat n (.str x) = true) : leaf (.str x) = true := by cases n <;> exact h
theorem dat_isi {n : Nat} {d : D} (h : dat n d = true) (t : TyN) : ∃ b, ∀ S, isiD S d t = some b := by
  cases d <;> first | exact ⟨_, fun _ => rfl⟩ | (cases n <;> cases h)
end Lk
namespace Lk
open PyProof.Rows L2 Ip
/-! ### texts as lists of signs -/
abbrev mk (l : List Nat) : PySem.Str := ⟨⟨l⟩⟩
theorem mk_inj {a b : List Nat} : (mk a = mk b) ↔ a = b := by simp [mk]
theorem mk_app (a b : List Nat) : (mk a ++ mk b : PySem.Str) = mk (a ++ b) := TL.ext_tl (by rw [TL.tl_append])
theorem mk_tl (x : PySem.Str) : x = mk (TL.tl x) := TL.ext_tl rfl
/-! ### runs as a type of their own, and which events can be put into one row -/
abbrev Ch : Type := Nat × Int
inductive Ev where
  | step (cs : List Ch) | send (l : Int) (cs : List Ch) | take (l : Int) (cs : List Ch)
abbrev Rn : Type := List (List Ev)
def evAt (rows : Rn) (p i : Nat) : Option Ev := (rows.getD p [])[i]?
/-- the letter was sent in the first d events -/
def Sent (rows : Rn) (d : Nat → Nat) (l : Int) : Prop := ∃ p i cs, i < d p ∧ evAt rows p i = some (.send l cs)
/-- the next event of p can be added -/
def Nxt (rows : Rn) (d : Nat → Nat) (p : Nat) : Prop := ∃ e, evAt rows p (d p) = some e ∧ ∀ l cs, e = .take l cs → Sent rows d l
def bump (d : Nat → Nat) (p : Nat) : Nat → Nat := fun q => if q = p then d q + 1 else d q
inductive Reach (rows : Rn) : (Nat → Nat) → Prop
  | zero : Reach rows (fun _ => 0)
  | step {d : Nat → Nat} {p : Nat} : Reach rows d → Nxt rows d p → Reach rows (bump d p)
theorem Sent.mono {rows : Rn} {d d' : Nat → Nat} {l : Int} (h : ∀ q, d q ≤ d' q) : Sent rows d l → Sent rows d' l := fun ⟨p, i, cs, hi, e⟩ => ⟨p, i, cs, Nat.lt_of_lt_of_le hi (h p), e⟩
theorem bump_same {d : Nat → Nat} {p : Nat} : bump d p p = d p + 1 := by simp [bump]
theorem bump_ne {d : Nat → Nat} {p q : Nat} (h : q ≠ p) : bump d p q = d q := by simp [bump, h]
theorem bump_le {d : Nat → Nat} {p : Nat} (q : Nat) : d q ≤ bump d p q := by unfold bump; split <;> omega
theorem Reach.le_stuck {rows : Rn} {d d' : Nat → Nat} (h : Reach rows d) (hs : ∀ p, ¬ Nxt rows d' p) : ∀ q, d q ≤ d' q := by
  induction h with
  | zero => intro q; exact Nat.zero_le _
  | step r en ih =>
    rename_i d p
    intro q
    by_cases hq : q = p
    · subst hq
      rw [bump_same]
      by_cases c : d q = d' q
      · exfalso
        obtain ⟨e, he, ht⟩ := en
        exact hs q ⟨e, by rw [← c]; exact he, fun l cs z => (ht l cs z).mono ih⟩
      · have := ih q; omega
    · rw [bump_ne hq]; exact ih q
theorem Reach.le_len {rows : Rn} {d : Nat → Nat} (h : Reach rows d) : ∀ q, d q ≤ (rows.getD q []).length := by
  induction h with
  | zero => intro q; exact Nat.zero_le _
  | step r en ih =>
    rename_i d p
    intro q
    by_cases hq : q = p
    · subst hq
      obtain ⟨e, he, _⟩ := en
      have := (List.getElem?_eq_some_iff.mp he).1
      rw [bump_same]; omega
    · rw [bump_ne hq]; exact ih q
def Full (rows : Rn) (d : Nat → Nat) : Prop := ∀ p, d p = (rows.getD p []).length
/-- all events can be put into one row -/
def Poss (rows : Rn) : Prop := ∃ d, Reach rows d ∧ Full rows d
theorem poss_stuck {rows : Rn} {d : Nat → Nat} (h : Reach rows d) (hs : ∀ p, ¬ Nxt rows d p) : Poss rows ↔ Full rows d := by
  constructor
  · rintro ⟨f, rf, hf⟩ p
    have a := rf.le_stuck hs p
    have b := h.le_len p
    rw [hf p] at a
    omega
  · exact fun f => ⟨d, h, f⟩
/-- the number of events -/
def tot (n : Nat) (d : Nat → Nat) : Nat := ((List.range n).map d).sum
theorem tot_succ {n : Nat} {d : Nat → Nat} : tot (n + 1) d = tot n d + d n := by
  unfold tot; rw [List.range_succ, List.map_append, List.sum_append]; simp
theorem tot_mono {d d' : Nat → Nat} (h : ∀ q, d q ≤ d' q) : ∀ n, tot n d ≤ tot n d'
  | 0 => Nat.le_refl _
  | n + 1 => by rw [tot_succ, tot_succ]; have := tot_mono h n; have := h n; omega
theorem tot_bump {d : Nat → Nat} {p : Nat} : ∀ n, p < n → tot n (bump d p) = tot n d + 1
  | 0, h => by omega
  | n + 1, h => by
    rw [tot_succ, tot_succ]
    by_cases c : p = n
    · subst c
      have : ∀ m, m ≤ p → tot m (bump d p) = tot m d := by
        intro m
        induction m with
        | zero => intro _; rfl
        | succ m ih => intro hm; rw [tot_succ, tot_succ, ih (by omega), bump_ne (by omega)]
      rw [this p (Nat.le_refl _), bump_same]; omega
    · rw [tot_bump n (by omega), bump_ne (by omega)]; omega
theorem tot_eq {d d' : Nat → Nat} (h : ∀ q, d q ≤ d' q) : ∀ {n : Nat}, tot n d = tot n d' → ∀ q, q < n → d q = d' q
  | 0, _, q, hq => by omega
  | n + 1, e, q, hq => by
    rw [tot_succ, tot_succ] at e
    have a := tot_mono h n
    have b := h n
    by_cases c : q = n
    · subst c; omega
    · exact tot_eq h (n := n) (by omega) q (by omega)
def lens (rows : Rn) : Nat → Nat := fun p => (rows.getD p []).length
theorem full_iff {rows : Rn} {d : Nat → Nat} (h : Reach rows d) : Full rows d ↔ tot rows.length d = tot rows.length (lens rows) := by
  constructor
  · intro f
    have : d = lens rows := funext f
    rw [this]
  · intro e p
    by_cases hp : p < rows.length
    · exact tot_eq (d' := lens rows) h.le_len e p hp
    · have := h.le_len p
      have e0 : (rows.getD p []) = [] := by rw [List.getD_eq_getElem?_getD, List.getElem?_eq_none (by omega)]; rfl
      rw [e0] at this ⊢
      simp at this ⊢
      exact this
theorem en_lt {rows : Rn} {d : Nat → Nat} {p : Nat} (h : Nxt rows d p) : p < rows.length := by
  obtain ⟨e, he, _⟩ := h
  refine Classical.byContradiction fun c => ?_
  unfold evAt at he
  have e0 : (rows.getD p []) = [] := by rw [List.getD_eq_getElem?_getD, List.getElem?_eq_none (by omega)]; rfl
  rw [e0] at he
  simp at he
/-! ### is_possible -/
def chD (q : Ch) : D := .tup [.str (mk [q.1]), .int q.2]
def csD (cs : List Ch) : D := .tup (cs.map chD)
def Ev.d : Ev → D
  | .step cs => .tup [.str "step", csD cs]
  | .send l cs => .tup [.str "send", .int l, csD cs]
  | .take l cs => .tup [.str "take", .int l, csD cs]
def rowD (r : List Ev) : D := .tup (r.map Ev.d)
def rnD (rows : Rn) : D := .tup (rows.map rowD)
def kt (ks : List Int) : Ob := .dct 0 (ks.map .int) (ks.map fun _ => .bl true)
def dl (n : Nat) (d : Nat → Nat) : List D := (List.range n).map fun p => .int (d p)
def stt (ks : List Int) (n : Nat) (d : Nat → Nat) : Sto := [kt ks, .lst (dl n d)]
def insK (l : Int) (ks : List Int) : List Int := if l ∈ ks then ks else ks ++ [l]
theorem lookK_kt (l : Int) : ∀ ks : List Int, lookK kKey (.inl l) (ks.map .int) (ks.map fun _ => .bl true) = if l ∈ ks then some (.bl true) else none
  | [] => rfl
  | a :: ks => by
    rw [List.map_cons, List.map_cons, lookK_c, lookK_kt l ks, kKey_i]
    by_cases h : a = l
    · subst h; simp
    · have h2 : ¬ (some (Sum.inl a : Key) = some (Sum.inl l)) := by simp [h]
      rw [if_neg h2]
      simp only [List.mem_cons, show ¬ (l = a) from fun e => h e.symm, false_or]
theorem repV_kt (l : Int) : ∀ ks : List Int, repV kKey (.inl l) (.bl true) (ks.map .int) (ks.map fun _ => .bl true) = ks.map fun _ => .bl true
  | [] => rfl
  | a :: ks => by
    rw [List.map_cons, List.map_cons, repV, repV_kt l ks]
    split <;> rfl
theorem putS_kt {ks : List Int} {n : Nat} {d : Nat → Nat} {l : Int} {env : En} (h : ks.length ≤ 1000) : putS 0 (.int l) (.bl true) env (stt ks n d) = some (.nx env (stt (insK l ks) n d)) := by
  have e0 : (stt ks n d)[0]? = some (.dct 0 (ks.map .int) (ks.map fun _ => .bl true)) := rfl
  unfold putS
  rw [e0]
  simp only
  rw [if_pos (by rw [List.length_map, PySem.sizeLine_eq]; omega)]
  have e1 : dPut (0, ks.map D.int, ks.map fun _ => D.bl true) (.int l) (.bl true) = some ((insK l ks).map .int, (insK l ks).map fun _ => .bl true) := by
    show some (putW kKey (.inl l) (.int l) (.bl true) (ks.map .int) (ks.map fun _ => .bl true)) = _
    unfold putW insK
    rw [lookK_kt]
    by_cases c : l ∈ ks
    · rw [if_pos c, if_pos c, repV_kt]; rfl
    · rw [if_neg c, if_neg c]; simp
  rw [e1]; rfl
theorem dl_len {n : Nat} {d : Nat → Nat} : (dl n d).length = n := by simp [dl]
theorem dl_get {n p : Nat} {d : Nat → Nat} (h : p < n) : (dl n d)[p]? = some (.int (d p)) := by
  unfold dl; rw [List.getElem?_map, List.getElem?_range h]; rfl
theorem dl_set {n p : Nat} {d : Nat → Nat} (h : p < n) : (dl n d).set p (.int ((d p : Int) + 1)) = dl n (bump d p) := by
  refine List.ext_getElem? fun q => ?_
  by_cases c : q < n
  · rw [dl_get c]
    by_cases e : p = q
    · subst e
      rw [List.getElem?_set_self (by rw [dl_len]; exact h), bump_same]
      congr 2
    · rw [List.getElem?_set_ne e, dl_get c, bump_ne (fun z => e z.symm)]
  · rw [List.getElem?_eq_none (by rw [List.length_set, dl_len]; omega), List.getElem?_eq_none (by rw [dl_len]; omega)]
theorem ixD_done {ks : List Int} {n p : Nat} {d : Nat → Nat} (h : p < n) : ixD (stt ks n d) (.ref 1) (.int (p : Int)) = some (.int (d p)) := by
  rw [ixD_ref (xs := dl n d) rfl, atI_nn, dl_get h]
theorem sent_in {ks : List Int} {n : Nat} {d : Nat → Nat} {l : Int} : inD (stt ks n d) (.int l) (.ref 0) = some (decide (l ∈ ks)) := by
  rw [inD_dref (t := 0) (ks := ks.map .int) (vs := ks.map fun _ => .bl true) rfl, dGet_0i, lookK_kt]
  by_cases c : l ∈ ks <;> simp [c]
theorem aug_done (k : Nat) {ks : List Int} {n p : Nat} {d : Nat → Nat} (h : p < n) {v0 v1 v3 v4 v5 v7 : Option D} :
    exec (C k) T0 (.augS (.v 2) (.v 6) .add (.c (.int 1))) [v0, v1, some (.ref 1), v3, v4, v5, some (.int (p : Int)), v7] (stt ks n d) = some (.nx [v0, v1, some (.ref 1), v3, v4, v5, some (.int (p : Int)), v7] (stt ks n (bump d p))) := by
  have g : getL (stt ks n d) 1 = some (dl n d) := rfl
  have a : atI (dl n d) (p : Int) = some (.int (d p)) := by rw [atI_nn, dl_get h]
  have i : ixN (dl n d).length (p : Int) = some p := by
    rw [dl_len]
    unfold ixN
    simp
    omega
  have s : (stt ks n d).set 1 (.lst ((dl n d).set p (.int ((d p : Int) + 1)))) = stt ks n (bump d p) := by
    rw [dl_set h]; rfl
  simp [g, a, i, augI, s]
end Lk
namespace Lk
open PyProof.Rows L2 Ip
/-! ### is_possible's loops -/
def KS (rows : Rn) (d : Nat → Nat) (ks : List Int) : Prop := (∀ l, l ∈ ks ↔ Sent rows d l) ∧ ks.length ≤ tot rows.length d
theorem sent_bump {rows : Rn} {d : Nat → Nat} {p : Nat} {e : Ev} (he : evAt rows p (d p) = some e) (l : Int) : Sent rows (bump d p) l ↔ Sent rows d l ∨ ∃ cs, e = .send l cs := by
  constructor
  · rintro ⟨q, i, cs, hi, h⟩
    by_cases c : q = p
    · subst c
      rw [bump_same] at hi
      by_cases c2 : i = d q
      · subst c2
        rw [he] at h
        exact .inr ⟨cs, Option.some.inj h⟩
      · exact .inl ⟨q, i, cs, by omega, h⟩
    · rw [bump_ne c] at hi
      exact .inl ⟨q, i, cs, hi, h⟩
  · rintro (h | ⟨cs, rfl⟩)
    · exact h.mono bump_le
    · exact ⟨p, d p, cs, by rw [bump_same]; omega, he⟩
theorem KS.none {rows : Rn} {d : Nat → Nat} {ks : List Int} {p : Nat} {e : Ev} (h : KS rows d ks) (hp : p < rows.length) (he : evAt rows p (d p) = some e) (hn : ∀ l cs, e ≠ .send l cs) : KS rows (bump d p) ks :=
  ⟨fun l => by rw [h.1 l, sent_bump he]; exact ⟨.inl, fun z => z.elim id fun ⟨cs, z⟩ => absurd z (hn l cs)⟩, by rw [tot_bump _ hp]; have := h.2; omega⟩
theorem KS.send {rows : Rn} {d : Nat → Nat} {ks : List Int} {p : Nat} {l : Int} {cs : List Ch} (h : KS rows d ks) (hp : p < rows.length) (he : evAt rows p (d p) = some (.send l cs)) : KS rows (bump d p) (insK l ks) := by
  refine ⟨fun m => ?_, ?_⟩
  · rw [sent_bump he, ← h.1 m]
    unfold insK
    by_cases c : l ∈ ks
    · rw [if_pos c]
      constructor
      · exact .inl
      · rintro (z | ⟨cs', z⟩)
        · exact z
        · injection z with z _; rw [← z]; exact c
    · rw [if_neg c, List.mem_append, List.mem_singleton]
      constructor
      · rintro (z | rfl)
        · exact .inl z
        · exact .inr ⟨cs, rfl⟩
      · rintro (z | ⟨cs', z⟩)
        · exact .inl z
        · injection z with z _; exact .inr z.symm
  · rw [tot_bump _ hp]
    have := h.2
    unfold insK
    split
    · omega
    · rw [List.length_append, List.length_singleton]; omega
/-- the slots of is_possible -/
def pe (rows : Rn) (T : Int) (r : Option D) (mv : Bool) (v6 v7 : Option D) (d : Nat → Nat) : Ip.En := [some (rnD rows), some (.ref 0), some (.ref 1), some (.int (T - tot rows.length d)), r, some (.bl mv), v6, v7]
def Small (rows : Rn) : Prop := rows.length ≤ 6 ∧ ∀ p, (rows.getD p []).length ≤ 30
theorem tot_le {n : Nat} {d : Nat → Nat} {m : Nat} (h : ∀ q, d q ≤ m) : tot n d ≤ m * n := by
  induction n with
  | zero => exact Nat.zero_le _
  | succ n ih => rw [tot_succ, Nat.mul_succ]; have := h n; omega
theorem small_tot {rows : Rn} {d : Nat → Nat} (hs : Small rows) (h : Reach rows d) : tot rows.length d ≤ 180 := by
  have a := tot_le (n := rows.length) (d := d) (m := 30) (fun q => Nat.le_trans (h.le_len q) (hs.2 q))
  have b := hs.1
  have : 30 * rows.length ≤ 30 * 6 := Nat.mul_le_mul_left _ b
  omega
theorem l_take : ¬ (PySem.Str.ofString "step" = PySem.Str.ofString "take") := by decide +kernel
/-- one event, or none -/
theorem pos_step (k : Nat) (rows : Rn) (T : Int) (hs : Small rows) {p : Nat} (hp : p < rows.length) {d : Nat → Nat} {ks : List Int} (hr : Reach rows d) (hk : KS rows d ks) (hd : d p < (rows.getD p []).length) (mv : Bool) (v7 : Option D) :
    ∃ e : Ev, evAt rows p (d p) = some e ∧
    ((¬ Nxt rows d p ∧ execs (C k) T0 l_is_possible_1 (pe rows T (some (rowD (rows.getD p []))) mv (some (.int (p : Int))) v7 d) (stt ks rows.length d) = some (.bk (pe rows T (some (rowD (rows.getD p []))) mv (some (.int (p : Int))) (some e.d) d) (stt ks rows.length d))) ∨
     (Nxt rows d p ∧ ∃ ks', KS rows (bump d p) ks' ∧ execs (C k) T0 l_is_possible_1 (pe rows T (some (rowD (rows.getD p []))) mv (some (.int (p : Int))) v7 d) (stt ks rows.length d) = some (.nx (pe rows T (some (rowD (rows.getD p []))) true (some (.int (p : Int))) (some e.d) (bump d p)) (stt ks' rows.length (bump d p))))) := by
  obtain ⟨e, he⟩ : ∃ e, evAt rows p (d p) = some e := ⟨_, List.getElem?_eq_getElem hd⟩
  refine ⟨e, he, ?_⟩
  have ix := ixD_done (ks := ks) (d := d) hp
  have tt := small_tot hs hr
  have kl : ks.length ≤ 1000 := by have := hk.2; omega
  have ie : ∀ U, ixD U (rowD (rows.getD p [])) (.int (d p : Int)) = some e.d := fun U => by
    show atI ((rows.getD p []).map Ev.d) (d p : Int) = _
    rw [atI_nn, List.getElem?_map]
    show Option.map Ev.d (evAt rows p (d p)) = _
    rw [he]; rfl
  have ti : (T - (tot rows.length d : Int)) - 1 = T - (tot rows.length (bump d p) : Int) := by rw [tot_bump _ hp]; omega
  have ag : ∀ ks v7, exec (C k) T0 (.augS (.v 2) (.v 6) .add (.c (.int 1))) [some (rnD rows), some (.ref 0), some (.ref 1), some (.int (T - tot rows.length d)), some (rowD (rows.getD p [])), some (.bl mv), some (.int (p : Int)), v7] (stt ks rows.length d) =
      some (.nx [some (rnD rows), some (.ref 0), some (.ref 1), some (.int (T - tot rows.length d)), some (rowD (rows.getD p [])), some (.bl mv), some (.int (p : Int)), v7] (stt ks rows.length (bump d p))) := fun ks v7 => aug_done k hp
  have u : l_is_possible_1 = .cons (.asg (.n 7) (.ix (.v 4) (.ix (.v 2) (.v 6)))) (.cons (.ifs (.and (.cmp .eq (.ix (.v 7) (.c (.int 0))) (.c (.str "take"))) (.cmp .notin (.ix (.v 7) (.c (.int 1))) (.v 1))) (.cons .brk .nil) .nil) (.cons (.ifs (.cmp .eq (.ix (.v 7) (.c (.int 0))) (.c (.str "send"))) (.cons (.asgS (.v 1) (.ix (.v 7) (.c (.int 1))) (.c (.bl true))) .nil) .nil) (.cons (.augS (.v 2) (.v 6) .add (.c (.int 1))) (.cons (.aug 3 .sub (.c (.int 1))) (.cons (.asg (.n 5) (.c (.bl true))) .nil))))) := rfl
  rw [u]
  generalize hS : Stm.augS (.v 2) (.v 6) .add (.c (.int 1)) = sA at ag ⊢
  generalize rowD (rows.getD p []) = rd at ie ag ⊢
  cases e with
  | step cs =>
    right
    refine ⟨⟨_, he, fun l cs' z => by cases z⟩, ks, hk.none hp he (fun _ _ z => by cases z), ?_⟩
    simp [pe, ix, ie, Ev.d, ag, augI, ti]
  | send l cs =>
    right
    refine ⟨⟨_, he, fun l cs' z => by cases z⟩, insK l ks, hk.send hp he, ?_⟩
    have pu := fun env => putS_kt (n := rows.length) (d := d) (l := l) (env := env) kl
    have gl : getL (stt ks rows.length d) 0 = none := rfl
    simp [pe, ix, ie, Ev.d, ag, augI, ti, pu, gl]
  | take l cs =>
    have si := sent_in (ks := ks) (n := rows.length) (d := d) (l := l)
    by_cases c : l ∈ ks
    · right
      refine ⟨⟨_, he, fun l' cs' z => by cases z; exact (hk.1 l).mp c⟩, ks, hk.none hp he (fun _ _ z => by cases z), ?_⟩
      simp [pe, ix, ie, Ev.d, ag, augI, ti, si, c]
    · left
      refine ⟨fun ⟨e', he', h⟩ => c ((hk.1 l).mpr (h l cs (by rw [he] at he'; exact (Option.some.inj he').symm))), ?_⟩
      simp [pe, ix, ie, Ev.d, si, c]
theorem nx_evalT (k : Nat) (rows : Rn) (T : Int) {p : Nat} (hp : p < rows.length) {d : Nat → Nat} {ks : List Int} (mv : Bool) (v7 : Option D) :
    evalT (C k) T0 w_is_possible_2 (pe rows T (some (rowD (rows.getD p []))) mv (some (.int (p : Int))) v7 d) (stt ks rows.length d) = some (.ok (decide (d p < (rows.getD p []).length)) (stt ks rows.length d)) := by
  have ix := ixD_done (ks := ks) (d := d) hp
  have le : ∀ U, biD .len [rowD (rows.getD p [])] U = some (.int (rows.getD p []).length) := fun U => by
    show biD .len [.tup _] U = _
    rw [biD_lenT, List.length_map]
  simp only [w_is_possible_2, pe, evalT, evalE, evalEs, bnd, okO, List.getElem?_cons_succ, List.getElem?_cons_zero, ix, le, cmpD_lt]
  congr 2
  rw [decide_eq_decide]
  omega
/-- a process goes as far as it can -/
theorem pos_inner (k : Nat) (rows : Rn) (T : Int) (hs : Small rows) {p : Nat} (hp : p < rows.length) : ∀ (m : Nat) (d : Nat → Nat) (ks : List Int) (mv : Bool) (v7 : Option D), (rows.getD p []).length - d p = m → Reach rows d → KS rows d ks →
    ∃ d' ks' v7', lfp (whlStep (fun e S => evalT (C k) T0 w_is_possible_2 e S) (fun e S => execs (C k) T0 l_is_possible_1 e S)) (pe rows T (some (rowD (rows.getD p []))) mv (some (.int (p : Int))) v7 d, stt ks rows.length d) =
      some (.nx (pe rows T (some (rowD (rows.getD p []))) (mv || decide (tot rows.length d < tot rows.length d')) (some (.int (p : Int))) v7' d') (stt ks' rows.length d')) ∧ Reach rows d' ∧ KS rows d' ks' ∧ (∀ q, d q ≤ d' q) ∧ ¬ Nxt rows d' p
  | 0, d, ks, mv, v7, hm, hr, hk => by
    refine ⟨d, ks, v7, ?_, hr, hk, fun q => Nat.le_refl _, ?_⟩
    · rw [lfp_eq]
      have e1 := nx_evalT k rows T hp (d := d) (ks := ks) mv v7
      rw [decide_eq_false (by omega)] at e1
      simp only [whlStep, e1]
      simp
    · rintro ⟨e, he, _⟩
      have := (List.getElem?_eq_some_iff.mp he).1
      omega
  | m + 1, d, ks, mv, v7, hm, hr, hk => by
    have hd : d p < (rows.getD p []).length := by omega
    have e1 := nx_evalT k rows T hp (d := d) (ks := ks) mv v7
    rw [decide_eq_true hd] at e1
    obtain ⟨e, he, h | ⟨hn, ks', hk', h⟩⟩ := pos_step k rows T hs hp hr hk hd mv v7
    · refine ⟨d, ks, some e.d, ?_, hr, hk, fun q => Nat.le_refl _, h.1⟩
      rw [lfp_eq]
      simp only [whlStep, e1, h.2]
      simp
    · have b1 := bump_same (d := d) (p := p)
      obtain ⟨d', ks2, v2, e2, r2, k2, l2, n2⟩ := pos_inner k rows T hs hp m (bump d p) ks' true (some e.d) (by omega) (hr.step hn) hk'
      refine ⟨d', ks2, v2, ?_, r2, k2, fun q => Nat.le_trans (bump_le q) (l2 q), n2⟩
      rw [lfp_eq]
      simp only [whlStep, e1, h]
      rw [e2]
      have lt : tot rows.length d < tot rows.length d' := by
        have a := tot_mono l2 rows.length
        rw [tot_bump _ hp] at a
        omega
      rw [decide_eq_true lt]
      simp
/-- one turn over all processes -/
theorem pos_turn (k : Nat) (rows : Rn) (T : Int) (hs : Small rows) : ∀ (rs : Rn) (j : Nat), rows.drop j = rs → ∀ (d : Nat → Nat) (ks : List Int) (mv : Bool) (v4 v6 v7 : Option D), Reach rows d → KS rows d ks →
    ∃ d' ks' b4 b6 b7, forL (.t (.cons (.n 6) (.cons (.n 4) .nil))) (fun e S => execs (C k) T0 l_is_possible_2 e S) (enF j (rs.map rowD)) (pe rows T v4 mv v6 v7 d) (stt ks rows.length d) =
      some (.nx (pe rows T b4 (mv || decide (tot rows.length d < tot rows.length d')) b6 b7 d') (stt ks' rows.length d')) ∧ Reach rows d' ∧ KS rows d' ks' ∧ (∀ q, d q ≤ d' q) ∧ (tot rows.length d' = tot rows.length d → ∀ p, j ≤ p → ¬ Nxt rows d p)
  | [], j, hj, d, ks, mv, v4, v6, v7, hr, hk => by
    refine ⟨d, ks, v4, v6, v7, by simp [enF, forL], hr, hk, fun q => Nat.le_refl _, fun _ p hp hn => ?_⟩
    have := en_lt hn
    have l := congrArg List.length hj
    rw [List.length_drop, List.length_nil] at l
    omega
  | r :: rs, j, hj, d, ks, mv, v4, v6, v7, hr, hk => by
    have hjl : j < rows.length := by
      have l := congrArg List.length hj
      rw [List.length_drop, List.length_cons] at l
      omega
    have hrj : rows.getD j [] = r := by
      have := List.drop_eq_getElem_cons hjl
      rw [hj] at this
      rw [List.getD_eq_getElem?_getD, List.getElem?_eq_getElem hjl]
      exact (List.cons.inj this).1.symm
    have hrs : rows.drop (j + 1) = rs := by
      have := List.drop_eq_getElem_cons hjl
      rw [hj] at this
      exact (List.cons.inj this).2.symm
    obtain ⟨d1, ks1, w1, e1, r1, k1, l1, n1⟩ := pos_inner k rows T hs hjl _ d ks mv v7 rfl hr hk
    obtain ⟨d2, ks2, b4, b6, b7, e2, r2, k2, l2, n2⟩ := pos_turn k rows T hs rs (j + 1) hrs d1 ks1 (mv || decide (tot rows.length d < tot rows.length d1)) (some (rowD r)) (some (.int (j : Int))) w1 r1 k1
    rw [hrj] at e1
    refine ⟨d2, ks2, b4, b6, b7, ?_, r2, k2, fun q => Nat.le_trans (l1 q) (l2 q), fun ht p hp hn => ?_⟩
    · rw [List.map_cons, enF]
      have st : execs (C k) T0 l_is_possible_2 (pe rows T (some (rowD r)) mv (some (.int (j : Int))) v7 d) (stt ks rows.length d) = some (.nx (pe rows T (some (rowD r)) (mv || decide (tot rows.length d < tot rows.length d1)) (some (.int (j : Int))) w1 d1) (stt ks1 rows.length d1)) := by
        simp only [l_is_possible_2, execs, exec]
        rw [e1]
        rfl
      have as : asgT (.t (.cons (.n 6) (.cons (.n 4) .nil))) (.tup [.int (j : Int), rowD r]) (pe rows T v4 mv v6 v7 d) = some (pe rows T (some (rowD r)) mv (some (.int (j : Int))) v7 d) := rfl
      simp only [forL, as, st]
      rw [e2]
      have a := tot_mono l1 rows.length
      have b := tot_mono l2 rows.length
      have eb : (mv || decide (tot rows.length d < tot rows.length d1) || decide (tot rows.length d1 < tot rows.length d2)) = (mv || decide (tot rows.length d < tot rows.length d2)) := by
        rw [Bool.or_assoc]
        congr 1
        rw [Bool.eq_iff_iff]
        simp only [Bool.or_eq_true, decide_eq_true_eq]
        omega
      rw [eb]
    · have a := tot_mono l1 rows.length
      have b := tot_mono l2 rows.length
      have e1 : d1 = d := by
        funext q
        by_cases c : q < rows.length
        · exact (tot_eq l1 (n := rows.length) (by omega) q c).symm
        · have z1 := r1.le_len q
          have z2 := hr.le_len q
          have e0 : (rows.getD q []) = [] := by rw [List.getD_eq_getElem?_getD, List.getElem?_eq_none (by omega)]; rfl
          rw [e0] at z1 z2
          simp at z1 z2
          omega
      rw [e1] at n1 n2
      by_cases c : p = j
      · subst c; exact n1 hn
      · exact n2 (by omega) p (by omega) hn
theorem pos_outer (k : Nat) (rows : Rn) (T : Int) (hs : Small rows) : ∀ (m : Nat) (d : Nat → Nat) (ks : List Int) (v4 v6 v7 : Option D), tot rows.length (lens rows) - tot rows.length d = m → Reach rows d → KS rows d ks →
    ∃ d' ks' b4 b6 b7, lfp (whlStep (fun e S => evalT (C k) T0 w_is_possible_1 e S) (fun e S => execs (C k) T0 l_is_possible_3 e S)) (pe rows T v4 true v6 v7 d, stt ks rows.length d) =
      some (.nx (pe rows T b4 false b6 b7 d') (stt ks' rows.length d')) ∧ Reach rows d' ∧ ∀ p, ¬ Nxt rows d' p := by
  intro m
  induction m using Nat.strongRecOn with
  | _ m ih =>
    intro d ks v4 v6 v7 hm hr hk
    obtain ⟨d1, ks1, b4, b6, b7, e1, r1, k1, l1, n1⟩ := pos_turn k rows T hs rows 0 rfl d ks false v4 v6 v7 hr hk
    have ev : ∀ mv, evalI (C k) T0 (.enum (.v 0)) (pe rows T v4 mv v6 v7 d) (stt ks rows.length d) = some (.ok (enF 0 (rows.map rowD)) (stt ks rows.length d)) := fun mv => by simp [pe, rnD]
    have st : execs (C k) T0 l_is_possible_3 (pe rows T v4 true v6 v7 d) (stt ks rows.length d) = some (.nx (pe rows T b4 (decide (tot rows.length d < tot rows.length d1)) b6 b7 d1) (stt ks1 rows.length d1)) := by
      have a1 : exec (C k) T0 (.asg (.n 5) (.c (.bl false))) (pe rows T v4 true v6 v7 d) (stt ks rows.length d) = some (.nx (pe rows T v4 false v6 v7 d) (stt ks rows.length d)) := rfl
      have a2 : exec (C k) T0 (.for (.t (.cons (.n 6) (.cons (.n 4) .nil))) (.enum (.v 0)) l_is_possible_2) (pe rows T v4 false v6 v7 d) (stt ks rows.length d) = some (.nx (pe rows T b4 (decide (tot rows.length d < tot rows.length d1)) b6 b7 d1) (stt ks1 rows.length d1)) := by
        rw [exec, ev]
        simp only [bnS]
        rw [e1, Bool.false_or]
      simp only [l_is_possible_3, execs, a1, a2, seqS]
    have t1 : ∀ mv v4 v6 v7 d ks, evalT (C k) T0 w_is_possible_1 (pe rows T v4 mv v6 v7 d) (stt ks rows.length d) = some (.ok mv (stt ks rows.length d)) := fun mv v4 v6 v7 d ks => by simp [w_is_possible_1, pe]
    have a := tot_mono l1 rows.length
    have b := tot_mono (d' := lens rows) r1.le_len rows.length
    by_cases c : tot rows.length d < tot rows.length d1
    · rw [decide_eq_true c] at st
      obtain ⟨d2, ks2, c4, c6, c7, e2, r2, n2⟩ := ih _ (by omega) d1 ks1 b4 b6 b7 rfl r1 k1
      refine ⟨d2, ks2, c4, c6, c7, ?_, r2, n2⟩
      rw [lfp_eq]
      simp only [whlStep, t1, st]
      exact e2
    · rw [decide_eq_false c] at st
      have e1 : d1 = d := by
        funext q
        by_cases c : q < rows.length
        · exact (tot_eq l1 (n := rows.length) (by omega) q c).symm
        · have z1 := r1.le_len q
          have z2 := hr.le_len q
          have e0 : (rows.getD q []) = [] := by rw [List.getD_eq_getElem?_getD, List.getElem?_eq_none (by omega)]; rfl
          rw [e0] at z1 z2
          simp at z1 z2
          omega
      refine ⟨d1, ks1, b4, b6, b7, ?_, r1, fun p => by rw [e1]; exact n1 (by omega) p (Nat.zero_le _)⟩
      rw [lfp_eq]
      simp only [whlStep, t1, st]
      rw [lfp_eq]
      simp only [whlStep, t1]
theorem sum_lens : ∀ rows : Rn, (rows.map fun r => (r.length : Int)).sum = (tot rows.length (lens rows) : Int) := by
  intro rows
  have : ∀ n, n ≤ rows.length → ((rows.take n).map fun r => (r.length : Int)).sum = (tot n (lens rows) : Int) := by
    intro n
    induction n with
    | zero => intro _; rfl
    | succ n ih =>
      intro hn
      have hl : n < rows.length := hn
      have e : rows.take (n + 1) = rows.take n ++ [rows[n]] := by rw [List.take_add_one, List.getElem?_eq_getElem hl]; rfl
      rw [e, List.map_append, List.sum_append, ih (by omega), tot_succ]
      have : lens rows n = rows[n].length := by unfold lens; rw [List.getD_eq_getElem?_getD, List.getElem?_eq_getElem hl]; rfl
      rw [this]
      simp
  have h := this rows.length (Nat.le_refl _)
  rw [List.take_length] at h
  exact h
theorem is_possible_ok (k : Nat) (rows : Rn) (hs : Small rows) : ∃ b S', C (k + 1) i_is_possible [rnD rows] [] = some (.ok (.bl b) S') ∧ (b = true ↔ Poss rows) := by
  rw [c_is_possible]
  obtain ⟨d', ks', b4, b6, b7, e1, r1, n1⟩ := pos_outer k rows (tot rows.length (lens rows)) hs _ (fun _ => 0) [] none none none rfl .zero ⟨fun l => ⟨fun h => (by cases h), fun ⟨p, i, cs, h, _⟩ => absurd h (Nat.not_lt_zero i)⟩, Nat.zero_le _⟩
  have z0 : tot rows.length (fun _ => 0) = 0 := by
    have := tot_le (n := rows.length) (d := fun _ => 0) (m := 0) (fun _ => Nat.le_refl _)
    omega
  have b := tot_mono (d' := lens rows) r1.le_len rows.length
  refine ⟨decide ((tot rows.length (lens rows) : Int) - tot rows.length d' = 0), stt ks' rows.length d', ?_, ?_⟩
  · have lc : ∀ v1 v2 v3 v4 v5 v6 v7 U, evalE (C k) T0 k_is_possible_1 [some (rnD rows), v1, v2, v3, v4, v5, v6, v7] U = some (.ok (.lst ((rows.map fun r => (r.length : Int)).map .int)) U) := fun v1 v2 v3 v4 v5 v6 v7 U => by
      unfold k_is_possible_1
      rw [lc_no (S := U) (xs := rows.map rowD) (fun d => match d with
        | .tup xs => .int xs.length
        | _ => .non)]
      · simp only [mkL_f, List.map_map]
        congr 3
        refine List.map_congr_left fun r _ => ?_
        simp [rowD]
      · simp [rnD]
      · rw [PySem.sizeLine_eq, List.length_map]; have := hs.1; omega
      · intro y hy
        obtain ⟨r, _, rfl⟩ := List.mem_map.mp hy
        simp [e_is_possible_1, rowD]
    have mu : binD .mul true (.lst [.int 0]) (.int rows.length) [kt []] = some (.ok (.ref 1) (stt [] rows.length fun _ => 0)) := by
      have c : (-(2 ^ 63) : Int) ≤ (rows.length : Int) ∧ (rows.length : Int) < 2 ^ 63 ∧ ([D.int 0]).length * ((rows.length : Int)).toNat ≤ PySem.sizeLine := by
        have := hs.1
        have e63 : (2 : Int) ^ 63 = 9223372036854775808 := by decide
        rw [e63, PySem.sizeLine_eq]
        simp only [List.length_cons, List.length_nil]
        omega
      show (@ite (Option (Ro D)) _ (Classical.propDecidable _) (mkL true (List.replicate ((rows.length : Int)).toNat [D.int 0]).flatten [kt []]) none) = _
      rw [if_pos c]
      have : (List.replicate ((rows.length : Int)).toNat [D.int 0]).flatten = dl rows.length fun _ => 0 := by
        rw [Int.toNat_natCast]
        unfold dl
        simp only [Int.natCast_zero, List.map_const', List.length_range]
        induction rows.length with
        | zero => rfl
        | succ n ih => rw [List.replicate_succ, List.flatten_cons, ih]; rfl
      rw [this]; rfl
    have le : ∀ U, biD .len [rnD rows] U = some (.int rows.length) := fun U => by
      show biD .len [.tup _] U = _
      rw [biD_lenT, List.length_map]
    have sm : ∀ U, biD .sum [.lst ((rows.map fun r => (r.length : Int)).map .int)] U = some (.int (tot rows.length (lens rows))) := fun U => by rw [biD_sum, sum_lens]
    have mk0 : mkD true 0 ([] : List D) [] [] = some (.ok (.ref 0) [kt []]) := rfl
    simp only [pe, z0] at e1
    have e1 : lfp (whlStep (fun e S => evalT (C k) T0 w_is_possible_1 e S) (fun e S => execs (C k) T0 l_is_possible_3 e S)) ([some (rnD rows), some (.ref 0), some (.ref 1), some (.int (tot rows.length (lens rows))), none, some (.bl true), none, none], stt [] rows.length fun _ => 0) = some (.nx [some (rnD rows), some (.ref 0), some (.ref 1), some (.int ((tot rows.length (lens rows) : Int) - tot rows.length d')), b4, some (.bl false), b6, b7] (stt ks' rows.length d')) := by
      have z : (tot rows.length (lens rows) : Int) - ((0 : Nat) : Int) = tot rows.length (lens rows) := by omega
      rw [z] at e1
      exact e1
    simp only [b_is_possible, execs, exec, evalE, evalEs, bnd, bnS, okO, List.map_nil, List.length_nil, List.length_cons, PySem.sizeLine_eq, mk0, seqS, asg_n, List.set_cons_succ, List.set_cons_zero, List.getElem?_cons_zero, List.getElem?_cons_succ, le, Cst.d, mkL, lc, sm]
    rw [if_pos (by decide)]
    simp only [mu, lc, sm, List.set_cons_succ, List.set_cons_zero]
    rw [e1]
    simp
  · rw [decide_eq_true_eq, poss_stuck r1 n1, full_iff r1]
    omega
end Lk
namespace Lk
open PyProof.Rows L2 Ip
/-! ### is_integer, is_variable, is_changes, is_event -/
def isInt : D → Int → Int → Bool
  | .int i, l, g => decide (l ≤ i) && decide (i ≤ g)
  | _, _, _ => false
theorem is_integer_ok (k : Nat) (n : Nat) (d : D) (l g : Int) (S : Sto) (h : dat n d = true) : C (k + 1) i_is_integer [d, .int l, .int g] S = some (.ok (.bl (isInt d l g)) S) := by
  rw [c_is_integer]
  cases d with
  | int i => by_cases c : l ≤ i <;> simp [b_is_integer, isInt, c]
  | _ => first | (simp [b_is_integer, isInt]; done) | (cases n <;> cases h)
/-- one of the signs a to d -/
def varC (x : PySem.Str) : Bool := match x.cps.toList with
  | [c] => decide (97 ≤ c ∧ c ≤ 100)
  | _ => false
def isVar : D → Bool
  | .str x => varC x
  | _ => false
theorem str_one {x : PySem.Str} (h : x.length = 1) : ∃ c, x = ⟨#[c]⟩ := by
  obtain ⟨⟨l⟩⟩ := x
  have h : l.length = 1 := h
  obtain ⟨c, rfl⟩ := List.length_eq_one_iff.mp h
  exact ⟨c, rfl⟩
theorem is_variable_ok (k n : Nat) (d : D) (S : Sto) (h : dat n d = true) : C (k + 1) i_is_variable [d] S = some (.ok (.bl (isVar d)) S) := by
  rw [c_is_variable]
  cases d with
  | str x =>
    have hl := str_len (dat_str h)
    by_cases h1 : x.length = 1
    · obtain ⟨c, rfl⟩ := str_one h1
      have e : inD S (.str ⟨#[c]⟩) (.str "abcd") = some (decide (c ∈ [97, 98, 99, 100])) := by
        show some (!(PySem.Builtin.Str.occurrences "abcd" ⟨#[c]⟩ 0 (PySem.Str.ofString "abcd").length 1).isEmpty) = _
        rw [PySem.StrLaws.found_one]
        rw [show (PySem.Str.ofString "abcd").cps.toList = [97, 98, 99, 100] by decide +kernel]
      have e2 : (decide (c ∈ [97, 98, 99, 100])) = decide (97 ≤ c ∧ c ≤ 100) := by
        rw [decide_eq_decide]
        simp only [List.mem_cons, List.not_mem_nil, or_false]
        omega
      rw [e2] at e
      simp [b_is_variable, isVar, varC, biD_lenS hl, e, show (PySem.Str.mk #[c]).length = 1 from rfl]
    · have e : varC x = false := by
        unfold varC
        split
        · rename_i c' hc
          exact absurd (by show x.cps.size = 1; rw [← Array.length_toList, hc]; rfl) h1
        · rfl
      have c' : ¬ ((x.length : Int) = 1) := by omega
      simp [b_is_variable, isVar, e, biD_lenS hl, c']
  | _ => first | (simp [b_is_variable, isVar]; done) | (cases n <;> cases h)

/-! #### changes: strictly ascending variables, values in bounds -/
def chgNext (last : PySem.Str) : D → Option PySem.Str
  | .tup [.str z, x] => if varC z && (ltS last z && isInt x (-1000) 1000) then some z else none
  | _ => none
def chg : PySem.Str → List D → Bool
  | _, [] => true
  | last, c :: r => match chgNext last c with
    | some z => chg z r
    | none => false
def isChg : D → Bool
  | .tup xs => chg "" xs
  | _ => false
theorem chg_step (k n : Nat) (v : D) (last : PySem.Str) (c : D) (S : Sto) (h : dat (n + 1) c = true) :
    execs (C (k + 1)) T0 l_is_changes_1 [some v, some (.str last), some c] S =
      (match chgNext last c with
      | some z => some (.nx [some v, some (.str z), some c] S)
      | none => some (.rt (.bl false) S)) := by
  cases c with
  | tup xs =>
    replace h := (dat_tup.mp h).2
    match xs, h with
    | [], _ => simp [chgNext, l_is_changes_1]
    | [a], _ => simp [chgNext, l_is_changes_1]
    | [a, x], h =>
      simp only [List.all_cons, List.all_nil, Bool.and_true, Bool.and_eq_true] at h
      obtain ⟨ha, hx⟩ := h
      have e1 := callP_t (S := S) (dats_pure n [a] (by simp [ha])) (is_variable_ok k n a [] ha) rfl
      have e2 := callP_t (S := S) (by simp [pures, dat_pure n x hx, D.pure]) (is_integer_ok k n x (-1000) 1000 [] hx) rfl
      cases a with
      | str z =>
        cases hz : varC z with
        | false => simp [chgNext, l_is_changes_1, e1, isVar, hz]
        | true =>
          cases hl : ltS last z with
          | true => cases hi : isInt x (-1000) 1000 <;> simp [chgNext, l_is_changes_1, e1, isVar, hz, e2, hi, hl]
          | false => simp [chgNext, l_is_changes_1, e1, isVar, hz, hl]
      | _ => first | (simp [chgNext, l_is_changes_1, e1, isVar]; done) | (cases n <;> cases ha)
    | a :: b :: c :: r, _ =>
      have : ¬ ((r.length : Int) + 1 + 1 + 1 = 2) := by omega
      simp [chgNext, l_is_changes_1, this]
  | _ => first | (simp [chgNext, l_is_changes_1]; done) | cases h

theorem chg_loop (k n : Nat) (v : D) (S : Sto) : ∀ (xs : List D) (last : PySem.Str) (c0 : Option D), xs.all (dat (n + 1)) = true → ∃ e, forL (.n 2) (fun e S => execs (C (k + 1)) T0 l_is_changes_1 e S) xs [some v, some (.str last), c0] S =
      if chg last xs then some (.nx e S) else some (.rt (.bl false) S)
  | [], last, c0, _ => ⟨[some v, some (.str last), c0], by simp [forL, chg]⟩
  | c :: xs, last, c0, h => by
    rw [List.all_cons, Bool.and_eq_true] at h
    have st := chg_step k n v last c S h.1
    simp only [forL, asgT, List.set_cons_succ, List.set_cons_zero]
    rw [st]
    unfold chg
    cases hc : chgNext last c with
    | none => exact ⟨[], by simp⟩
    | some z => exact chg_loop k n v S xs z (some c) h.2
theorem is_changes_ok (k n : Nat) (d : D) (S : Sto) (h : dat (n + 2) d = true) : C (k + 2) i_is_changes [d] S = some (.ok (.bl (isChg d)) S) := by
  rw [c_is_changes]
  cases d with
  | tup xs =>
    replace h := (dat_tup.mp h).2
    obtain ⟨e, he⟩ := chg_loop k n (.tup xs) S xs "" none h
    cases hc : chg "" xs <;> simp [b_is_changes, he, hc, isChg]
  | _ => first | (simp [b_is_changes, isChg]; done) | cases h
/-- send or take -/
def isST (z : PySem.Str) : Bool := decide (z = "send") || decide (z = "take")
def isEv : D → Bool
  | .tup [.str k, c] => decide (k = "step") && isChg c
  | .tup [.str k, l, c] => isST k && (isInt l 1 999 && isChg c)
  | _ => false
theorem step_ne : isST "step" = false := by decide +kernel
theorem st_in {S : Sto} (z : PySem.Str) : inD S (.str z) (.tup [.str "send", .str "take"]) = some (isST z) := by
  have e : inD S (.str z) (.tup [.str "send", .str "take"]) = some (([D.str "send", .str "take"]).any fun y => eqF y (.str z)) := rfl
  rw [e]
  congr 1
  unfold isST
  rw [Bool.eq_iff_iff]
  show (decide (PySem.Str.ofString "send" = z) || (decide (PySem.Str.ofString "take" = z) || false)) = true ↔ _
  simp only [Bool.or_false, Bool.or_eq_true, decide_eq_true_eq]
  constructor <;> rintro (h | h) <;> first | exact .inl h.symm | exact .inr h.symm
theorem is_event_ok (k n : Nat) (d : D) (S : Sto) (hn : n + 3 ≤ 64) (h : dat (n + 3) d = true) : C (k + 3) i_is_event [d] S = some (.ok (.bl (isEv d)) S) := by
  rw [c_is_event]
  cases d with
  | tup xs =>
    have h0 := eqD_nil (S := S) hn h
    replace h := (dat_tup.mp h).2
    match xs, h with
    | [], _ => simp [b_is_event, h0, isEv, isNil]
    | a :: r, h =>
      rw [List.all_cons, Bool.and_eq_true] at h
      cases a with
      | str z =>
        have nl : isNil (.tup (.str z :: r)) = false := rfl
        match r, h.2 with
        | [], _ =>
          by_cases hz : z = "step"
          · subst hz; simp [b_is_event, h0, nl, isEv]
          · cases hs : isST z <;> simp [b_is_event, h0, nl, isEv, hz, st_in, hs]
        | [c], h2 =>
          simp only [List.all_cons, List.all_nil, Bool.and_true] at h2
          have e1 := callP_t (S := S) (dats_pure (n + 2) [c] (by simp [h2])) (is_changes_ok k n c [] h2) rfl
          by_cases hz : z = "step"
          · subst hz; simp [b_is_event, h0, nl, isEv, e1]
          · cases hs : isST z <;> simp [b_is_event, h0, nl, isEv, hz, st_in, hs]
        | [l, c], h2 =>
          simp only [List.all_cons, List.all_nil, Bool.and_true, Bool.and_eq_true] at h2
          have e1 := callP_t (S := S) (dats_pure (n + 2) [c] (by simp [h2.2])) (is_changes_ok k n c [] h2.2) rfl
          have e2 := callP_t (S := S) (by simp [pures, dat_pure (n + 2) l h2.1, D.pure]) (is_integer_ok (k + 1) (n + 2) l 1 999 [] h2.1) rfl
          by_cases hz : z = "step"
          · subst hz; simp [b_is_event, h0, nl, isEv, step_ne]
          · cases hs : isST z <;> cases hi : isInt l 1 999 <;> simp [b_is_event, h0, nl, isEv, hz, st_in, hs, e1, e2, hi]
        | a :: b :: c :: r, _ =>
          have l3 : ¬ ((r.length : Int) + 1 + 1 + 1 + 1 = 3) := by omega
          have l2 : ¬ ((r.length : Int) + 1 + 1 + 1 + 1 = 2) := by omega
          by_cases hz : z = "step"
          · subst hz; simp [b_is_event, h0, nl, isEv, l2]
          · cases hs : isST z <;> simp [b_is_event, h0, nl, isEv, hz, st_in, hs, l3]
      | _ => first | (simp [b_is_event, h0, isNil, isEv]; done) | (cases h.1)
  | _ => first | (simp [b_is_event, isEv]; done) | cases h
end Lk
namespace Lk
open PyProof.Rows L2 Ip
/-! ### is_run -/
theorem lc2_so {Γ : Gam} {T : Ip.Tab} {S : Sto} {env : En} {m : Bool} {own : List (PySem.Str × Nat)} {i j : Nat} {it it1 : Ip.Itr} {vs : List Nat} {c x : Ex} {xs : List D} (g : D → List D) (p : D → Bool) (f : D → D) (hi : evalI Γ T it env S = some (.ok xs S))
    (hy : ∀ y ∈ xs, evalI Γ T it1 ((wipeE env (own.map (·.2))).set i (some y)) S = some (.ok (g y) S))
    (hc : ∀ y ∈ xs, ∀ z ∈ g y, evalT Γ T c ((wipeE ((wipeE env (own.map (·.2))).set i (some y)) vs).set j (some z)) S = some (.ok (p z) S))
    (hx : ∀ y ∈ xs, ∀ z ∈ g y, p z = true → evalE Γ T x ((wipeE ((wipeE env (own.map (·.2))).set i (some y)) vs).set j (some z)) S = some (.ok (f z) S))
    (hl : (xs.map fun y => (g y).length).sum ≤ 16777216) : evalE Γ T (.lc2 m own (.n i) it .no vs (.n j) it1 (.so c) x) env S = mkL m (xs.flatMap fun y => ((g y).filter p).map f) S := by
  have q : ∀ l : List D, l.filterMap (fun y => if p y then some (f y) else none) = (l.filter p).map f := by
    intro l
    induction l with
    | nil => rfl
    | cons a l ih => cases h : p a <;> simp [h, ih]
  have key : ∀ (ys : List D) (acc : List D), (∀ y ∈ ys, y ∈ xs) → acc.length + (ys.map fun y => (g y).length).sum ≤ 16777216 →
      lcLoop2 (fun x' S acc => match asgT (.n i) x' (wipeE env (own.map (·.2))) with
        | some env1 => bnd (evalC Γ T .no env1 S) fun b S2 => match b with
          | true => bnd (evalI Γ T it1 env1 S2) fun ys S3 => if acc.length + ys.length ≤ PySem.sizeLine then lcLoop (fun x' S => match asgT (.n j) x' (wipeE env1 vs) with
            | some env2 => bnd (evalC Γ T (.so c) env2 S) fun b S4 => match b with
              | true => bnd (evalE Γ T x env2 S4) fun y S5 => some (.ok (some y) S5)
              | false => some (.ok none S4)
            | none => none) ys S3 acc else none
          | false => some (.ok acc S2)
        | none => none) ys S acc = some (.ok (acc ++ ys.flatMap fun y => ((g y).filter p).map f) S) := by
    intro ys
    induction ys with
    | nil => intro acc _ _; simp [lcLoop2]
    | cons y ys ih =>
      intro acc hm hlen
      have hyx := hm y (List.mem_cons_self ..)
      rw [List.map_cons, List.sum_cons] at hlen
      have fl : (((g y).filter p).map f).length ≤ (g y).length := by rw [List.length_map]; exact List.length_filter_le _ _
      have ih := ih (acc ++ ((g y).filter p).map f) (fun z hz => hm z (List.mem_cons_of_mem _ hz)) (by rw [List.length_append]; omega)
      have inner := lcLoop_map (S := S) (turn := fun x' S => match asgT (.n j) x' (wipeE ((wipeE env (own.map (·.2))).set i (some y)) vs) with
            | some env2 => bnd (evalC Γ T (.so c) env2 S) fun b S4 => match b with
              | true => bnd (evalE Γ T x env2 S4) fun y S5 => some (.ok (some y) S5)
              | false => some (.ok none S4)
            | none => none) (f := fun y => if p y then some (f y) else none) (g y) acc (fun z hz => by
        simp only [asg_n, evalC]
        rw [hc y hyx z hz]
        simp only [bnd_ok]
        cases hp : p z with
        | true => simp only [if_true]; rw [hx y hyx z hz hp]; rfl
        | false => simp)
      rw [q] at inner
      simp only [lcLoop2, asg_n, evalC, bnd_ok, hy y hyx]
      rw [if_pos (by rw [PySem.sizeLine_eq]; omega)]
      simp only [asg_n, evalC] at inner
      rw [inner]
      simp only
      rw [List.flatMap_cons, ← List.append_assoc]
      simp only [asg_n, evalC, bnd_ok] at ih
      exact ih
  rw [evalE, hi]
  simp only [bnd_ok]
  refine (congrArg (fun z => bnd z fun ys S2 => mkL m ys S2) (key xs [] (fun _ h => h) (by simpa using hl))).trans ?_
  rw [List.nil_append]
  rfl
def sendsR (r : List Ev) : List Int := r.filterMap fun e => match e with
  | .send l _ => some l
  | _ => none
def takesR (r : List Ev) : List Int := r.filterMap fun e => match e with
  | .take l _ => some l
  | _ => none
def sends (rows : Rn) : List Int := rows.flatMap sendsR
def takes (rows : Rn) : List Int := rows.flatMap takesR
def itemsD : D → List D
  | .tup es => es
  | _ => []
def kindIs (z : PySem.Str) : D → Bool
  | .tup (.str w :: _) => decide (w = z)
  | _ => false
def snd3 : D → D
  | .tup [_, l, _] => l
  | _ => .non
theorem sends_eq (r : List Ev) : ((r.map Ev.d).filter (kindIs "send")).map snd3 = (sendsR r).map .int := by
  induction r with
  | nil => rfl
  | cons e r ih => cases e <;> simp [Ev.d, kindIs, snd3, sendsR] <;> exact ih
theorem takes_eq (r : List Ev) : ((r.map Ev.d).filter (kindIs "take")).map snd3 = (takesR r).map .int := by
  induction r with
  | nil => rfl
  | cons e r ih => cases e <;> simp [Ev.d, kindIs, snd3, takesR] <;> exact ih
theorem small_sum {rows : Rn} (hs : Small rows) : ((rows.map rowD).map fun y => (itemsD y).length).sum ≤ 16777216 := by
  have h2 : ∀ r ∈ rows, r.length ≤ 30 := fun r hr => by
    obtain ⟨p, hp, e⟩ := List.getElem_of_mem hr
    have := hs.2 p
    rw [List.getD_eq_getElem?_getD, List.getElem?_eq_getElem hp, e] at this
    exact this
  have : ∀ rs : Rn, (∀ r ∈ rs, r.length ≤ 30) → ((rs.map rowD).map fun y => (itemsD y).length).sum ≤ 30 * rs.length := by
    intro rs
    induction rs with
    | nil => intro _; simp
    | cons r rs ih =>
      intro h
      have a := h r (List.mem_cons_self ..)
      have b := ih fun z hz => h z (List.mem_cons_of_mem _ hz)
      simp only [List.map_cons, List.sum_cons, List.length_cons, Nat.mul_succ]
      have : (itemsD (rowD r)).length = r.length := by simp [itemsD, rowD]
      omega
  have := this rows h2
  have b := hs.1
  have : 30 * rows.length ≤ 30 * 6 := Nat.mul_le_mul_left _ b
  omega
theorem ev_kind (e : Ev) (z : PySem.Str) (U : Sto) : ∃ w r, e.d = .tup (.str w :: r) := by
  cases e <;> exact ⟨_, _, rfl⟩
theorem letters_ok (k : Nat) (rows : Rn) (hs : Small rows) (z : PySem.Str) (hz : z = "send" ∨ z = "take") (U : Sto) : C (k + 1) i_letters_of [rnD rows, .str z] U = some (.ok (.lst ((if z = "send" then sends rows else takes rows).map .int)) U) := by
  rw [c_letters_of]
  have lc := lc2_so (Γ := C k) (T := T0) (S := U) (env := [some (rnD rows), some (.str z), none, none]) (m := false) (own := [("row", 2), ("event", 3)]) (i := 2) (j := 3) (it := .of (.v 0)) (it1 := .of (.v 2)) (vs := [3])
    (c := .cmp .eq (.ix (.v 3) (.c (.int 0))) (.v 1)) (x := e_letters_of_1) (xs := rows.map rowD) itemsD (kindIs z) snd3 (by simp [rnD]) (fun y hy => by
      obtain ⟨r, _, rfl⟩ := List.mem_map.mp hy
      simp [rowD, itemsD]) (fun y hy w hw => by
      obtain ⟨r, _, rfl⟩ := List.mem_map.mp hy
      obtain ⟨e, _, rfl⟩ := List.mem_map.mp hw
      cases e <;> simp [Ev.d, kindIs]) (fun y hy w hw hp => by
      obtain ⟨r, _, rfl⟩ := List.mem_map.mp hy
      obtain ⟨e, _, rfl⟩ := List.mem_map.mp hw
      cases e with
      | step cs =>
        exfalso
        simp [Ev.d, kindIs] at hp
        rcases hz with rfl | rfl
        · exact absurd hp (by decide +kernel)
        · exact absurd hp (by decide +kernel)
      | send l cs => simp [e_letters_of_1, Ev.d, snd3]
      | take l cs => simp [e_letters_of_1, Ev.d, snd3]) (small_sum hs)
  have e1 : ((rows.map rowD).flatMap fun y => ((itemsD y).filter (kindIs z)).map snd3) = (if z = "send" then sends rows else takes rows).map .int := by
    rw [List.flatMap_map]
    rcases hz with rfl | rfl
    · rw [if_pos rfl]
      unfold sends
      rw [List.map_flatMap]
      congr 1
      funext r
      exact sends_eq r
    · rw [if_neg (by decide +kernel)]
      unfold takes
      rw [List.map_flatMap]
      congr 1
      funext r
      exact takes_eq r
  rw [e1] at lc
  have lc : evalE (C k) T0 k_letters_of_1 [some (rnD rows), some (.str z), none, none] U = mkL false ((if z = "send" then sends rows else takes rows).map .int) U := lc
  simp only [b_letters_of, execs, exec, lc, mkL_f, bnS_ok, seqS_rt, outS_rt]
/-! #### how many there are of a list, once each -/
theorem firstMet_iff (ns : List Int) : (PyProof.Rows.firstMet (fun i => ns.getD i 0) ns.length).length = ns.length ↔ ns.Nodup := by
  have key : ∀ i, i ≤ ns.length → ((PyProof.Rows.firstMet (fun i => ns.getD i 0) i).length = i ↔ (ns.take i).Nodup) ∧ ((ns.take i).Nodup → PyProof.Rows.firstMet (fun i => ns.getD i 0) i = ns.take i) := by
    intro i
    induction i with
    | zero => intro _; exact ⟨by simp [PyProof.Rows.firstMet_zero], fun _ => by simp [PyProof.Rows.firstMet_zero]⟩
    | succ i ih =>
      intro hi
      obtain ⟨h1, h2⟩ := ih (by omega)
      have hl : i < ns.length := hi
      have e1 : ns.getD i 0 = ns[i] := by rw [List.getD_eq_getElem?_getD, List.getElem?_eq_getElem hl]; rfl
      have e2 : ns.take (i + 1) = ns.take i ++ [ns[i]] := by rw [List.take_add_one, List.getElem?_eq_getElem hl]; rfl
      have le := PyProof.Rows.firstMet_length_le (fun i => ns.getD i 0) i
      have st : PyProof.Rows.firstMet (fun i => ns.getD i 0) (i + 1) = if (PyProof.Rows.firstMet (fun i => ns.getD i 0) i).any (· == ns[i]) then PyProof.Rows.firstMet (fun i => ns.getD i 0) i else PyProof.Rows.firstMet (fun i => ns.getD i 0) i ++ [ns[i]] := by
        rw [PyProof.Rows.firstMet_succ]
        show (if _ then _ else _) = _
        simp only [e1]
      have an : ∀ l : List Int, (l.any (· == ns[i])) = true ↔ ns[i] ∈ l := fun l => by
        rw [List.any_eq_true]
        exact ⟨fun ⟨x, hx, e⟩ => by rw [← beq_iff_eq.mp e]; exact hx, fun h => ⟨_, h, beq_self_eq_true _⟩⟩
      have nd : (ns.take (i + 1)).Nodup ↔ (ns.take i).Nodup ∧ ns[i] ∉ ns.take i := by
        rw [e2, List.nodup_append]
        simp only [List.mem_singleton, List.nodup_cons, List.not_mem_nil, not_false_eq_true, List.nodup_nil, and_true, true_and]
        constructor
        · rintro ⟨a, b⟩; exact ⟨a, fun m => b _ m _ rfl rfl⟩
        · rintro ⟨a, b⟩; exact ⟨a, fun x hx y hy e => b (by rw [← hy, ← e]; exact hx)⟩
      constructor
      · rw [nd, st]
        split
        · rename_i c
          constructor
          · intro h; omega
          · rintro ⟨a, b⟩
            rw [h2 a] at c
            exact absurd ((an _).mp c) b
        · rename_i c
          rw [List.length_append, List.length_singleton]
          constructor
          · intro h
            have a := h1.mp (by omega)
            exact ⟨a, fun m => c (by rw [h2 a]; exact (an _).mpr m)⟩
          · rintro ⟨a, b⟩
            have := h1.mpr a
            omega
      · intro h
        obtain ⟨a, b⟩ := nd.mp h
        rw [st, if_neg (by rw [h2 a]; exact fun c => b ((an _).mp c)), h2 a, e2]
  have := (key ns.length (Nat.le_refl _)).1
  rw [List.take_length] at this
  exact this
end Lk
namespace Lk
open PyProof.Rows L2 Ip
/-! #### the whole of is_run -/
def chOk (q : Ch) : Prop := (97 ≤ q.1 ∧ q.1 ≤ 100) ∧ -1000 ≤ q.2 ∧ q.2 ≤ 1000
def Ev.cs : Ev → List Ch
  | .step cs => cs
  | .send _ cs => cs
  | .take _ cs => cs
def Ev.ok (e : Ev) : Prop := ((∀ q ∈ e.cs, chOk q) ∧ e.cs.length ≤ 4) ∧ ∀ l, (∃ cs, e = .send l cs) ∨ (∃ cs, e = .take l cs) → 1 ≤ l ∧ l ≤ 999
theorem int_of {d : D} {l g : Int} (h : isInt d l g = true) : ∃ i, d = .int i ∧ l ≤ i ∧ i ≤ g := by
  cases d <;> simp [isInt] at h
  exact ⟨_, rfl, h.1, h.2⟩
theorem chg_cs : ∀ (xs : List D) (last : PySem.Str) (a : Nat), 96 ≤ a → (∀ v, ltS last (mk [v]) = true → 97 ≤ v → a < v) → chg last xs = true → ∃ cs : List Ch, xs = cs.map chD ∧ (∀ q ∈ cs, chOk q) ∧ cs.length ≤ 100 - a
  | [], _, _, _, _, _ => ⟨[], rfl, (fun q h => by cases h), Nat.zero_le _⟩
  | c :: xs, last, a, ha, hl, h => by
    unfold chg at h
    split at h
    · rename_i z hz
      unfold chgNext at hz
      split at hz
      · rename_i w x
        split at hz
        · rename_i hb
          cases hz
          simp only [Bool.and_eq_true] at hb
          obtain ⟨h1, h2, h3⟩ := hb
          obtain ⟨i, rfl, i1, i2⟩ := int_of h3
          unfold varC at h1
          split at h1
          · rename_i v e
            have h1 := of_decide_eq_true h1
            have ew : z = mk [v] := by rw [mk_tl z]; show mk z.cps.toList = _; rw [e]
            subst ew
            have av := hl v h2 h1.1
            obtain ⟨cs, rfl, hc, hlen⟩ := chg_cs xs (mk [v]) v (by omega) (fun u hu _ => by
              unfold ltS at hu
              have hu := of_decide_eq_true hu
              have hu : [v] < [u] := hu
              rcases List.cons_lt_cons_iff.mp hu with hu | ⟨_, hu⟩
              · exact hu
              · exact absurd hu (List.not_lt_nil _)) h
            refine ⟨(v, i) :: cs, rfl, fun q hq => ?_, by rw [List.length_cons]; omega⟩
            rcases List.mem_cons.mp hq with rfl | hq
            · exact ⟨h1, i1, i2⟩
            · exact hc q hq
          · cases h1
        · cases hz
      · cases hz
    · cases h
theorem isChg_cs {d : D} (h : isChg d = true) : ∃ cs : List Ch, d = csD cs ∧ (∀ q ∈ cs, chOk q) ∧ cs.length ≤ 4 := by
  cases d with
  | tup xs =>
    obtain ⟨cs, rfl, hc, hl⟩ := chg_cs xs "" 96 (Nat.le_refl _) (fun v _ h => by omega) h
    exact ⟨cs, rfl, hc, hl⟩
  | _ => cases h
theorem isEv_ev {d : D} (h : isEv d = true) : ∃ e : Ev, d = e.d ∧ e.ok := by
  unfold isEv at h
  split at h
  · rename_i z c
    rw [Bool.and_eq_true, decide_eq_true_eq] at h
    obtain ⟨rfl, h⟩ := h
    obtain ⟨cs, rfl, hc⟩ := isChg_cs h
    exact ⟨.step cs, rfl, hc, fun l z => by rcases z with ⟨_, z⟩ | ⟨_, z⟩ <;> cases z⟩
  · rename_i z l c
    simp only [Bool.and_eq_true] at h
    obtain ⟨h1, h2, h3⟩ := h
    obtain ⟨i, rfl, i1, i2⟩ := int_of h2
    obtain ⟨cs, rfl, hc⟩ := isChg_cs h3
    unfold isST at h1
    simp only [Bool.or_eq_true, decide_eq_true_eq] at h1
    rcases h1 with rfl | rfl
    · exact ⟨.send i cs, rfl, hc, fun l z => by rcases z with ⟨_, z⟩ | ⟨_, z⟩ <;> cases z; exact ⟨i1, i2⟩⟩
    · exact ⟨.take i cs, rfl, hc, fun l z => by rcases z with ⟨_, z⟩ | ⟨_, z⟩ <;> cases z; exact ⟨i1, i2⟩⟩
  · cases h
theorem evs_of : ∀ {xs : List D}, xs.all isEv = true → ∃ r : List Ev, xs = r.map Ev.d ∧ ∀ e ∈ r, e.ok
  | [], _ => ⟨[], rfl, fun e h => by cases h⟩
  | x :: xs, h => by
    rw [List.all_cons, Bool.and_eq_true] at h
    obtain ⟨e, rfl, he⟩ := isEv_ev h.1
    obtain ⟨r, rfl, hr⟩ := evs_of h.2
    exact ⟨e :: r, rfl, fun z hz => by
      rcases List.mem_cons.mp hz with rfl | hz
      · exact he
      · exact hr z hz⟩
def rowB : D → Bool
  | .tup es => decide (es.length ≤ 30) && es.all isEv
  | _ => false
def shB : D → Bool
  | .tup rs => isInt (.int rs.length) 1 6 && rs.all rowB
  | _ => false
theorem rowB_tup {es : List D} : rowB (.tup es) = (decide (es.length ≤ 30) && es.all isEv) := rfl
theorem shB_tup {rs : List D} : shB (.tup rs) = (isInt (.int rs.length) 1 6 && rs.all rowB) := rfl
def RunShape (rows : Rn) : Prop := (1 ≤ rows.length ∧ rows.length ≤ 6) ∧ ∀ r ∈ rows, r.length ≤ 30 ∧ ∀ e ∈ r, e.ok
theorem rows_of : ∀ {xs : List D}, xs.all rowB = true → ∃ rows : Rn, xs = rows.map rowD ∧ ∀ r ∈ rows, r.length ≤ 30 ∧ ∀ e ∈ r, e.ok
  | [], _ => ⟨[], rfl, fun e h => by cases h⟩
  | x :: xs, h => by
    rw [List.all_cons, Bool.and_eq_true] at h
    obtain ⟨rows, rfl, hr⟩ := rows_of h.2
    have h1 := h.1
    cases x with
    | tup es =>
      unfold rowB at h1
      rw [Bool.and_eq_true, decide_eq_true_eq] at h1
      obtain ⟨r, rfl, he⟩ := evs_of h1.2
      refine ⟨r :: rows, rfl, fun z hz => ?_⟩
      rcases List.mem_cons.mp hz with rfl | hz
      · exact ⟨by have := h1.1; rw [List.length_map] at this; exact this, he⟩
      · exact hr z hz
    | _ => cases h1
theorem shB_rn {d : D} (h : shB d = true) : ∃ rows : Rn, d = rnD rows ∧ RunShape rows := by
  cases d with
  | tup rs =>
    unfold shB at h
    rw [Bool.and_eq_true] at h
    obtain ⟨rows, rfl, hr⟩ := rows_of h.2
    have h1 := h.1
    simp [isInt] at h1
    exact ⟨rows, rfl, ⟨by omega, by omega⟩, hr⟩
  | _ => cases h
theorem RunShape.small {rows : Rn} (h : RunShape rows) : Small rows := by
  refine ⟨h.1.2, fun p => ?_⟩
  by_cases c : p < rows.length
  · rw [List.getD_eq_getElem?_getD, List.getElem?_eq_getElem c]
    exact (h.2 _ (List.getElem_mem c)).1
  · rw [List.getD_eq_getElem?_getD, List.getElem?_eq_none (by omega)]
    exact Nat.zero_le _
def LetOk (rows : Rn) : Prop := (sends rows).Nodup ∧ (takes rows).Nodup
/-- what a run is -/
def IsRun (d : D) : Prop := shB d = true ∧ ∀ rows, d = rnD rows → LetOk rows ∧ Poss rows
theorem chD_pure (cs : List Ch) : pures (cs.map chD) = true := by
  induction cs with
  | nil => rfl
  | cons q cs ih => rw [List.map_cons, pures, ih]; rfl
theorem Ev.pure (e : Ev) : e.d.pure = true := by
  cases e <;> simp [Ev.d, csD, D.pure, pures, chD_pure]
theorem evs_pure (r : List Ev) : pures (r.map Ev.d) = true := by
  induction r with
  | nil => rfl
  | cons e r ih => rw [List.map_cons, pures, ih, Ev.pure]; rfl
theorem rows_pure' (rows : Rn) : pures (rows.map rowD) = true := by
  induction rows with
  | nil => rfl
  | cons e r ih => rw [List.map_cons, pures, ih, rowD, D.pure, evs_pure]; rfl
theorem rn_pure (rows : Rn) : (rnD rows).pure = true := by rw [rnD, D.pure, rows_pure']
theorem ev_loop (k n : Nat) (hn : n + 3 ≤ 64) (S : Sto) (v0 v1 v3 v4 : Option D) : ∀ (xs : List D), xs.all (dat (n + 3)) = true → ∀ v2 : Option D,
    ∃ b2, forL (.n 2) (fun e S => execs (C (k + 4)) T0 l_is_run_1 e S) xs [v0, v1, v2, v3, v4] S = if xs.all isEv then some (.nx [v0, v1, b2, v3, v4] S) else some (.rt (.bl false) S)
  | [], _, v2 => ⟨v2, by simp [forL]⟩
  | x :: xs, h, v2 => by
    rw [List.all_cons, Bool.and_eq_true] at h
    obtain ⟨b2, ih⟩ := ev_loop k n hn S v0 v1 v3 v4 xs h.2 (some x)
    have e1 := callP_t (S := S) (by simp [pures, dat_pure _ x h.1]) (is_event_ok (k + 1) n x [] hn h.1) rfl
    refine ⟨b2, ?_⟩
    simp only [forL, asg_n, List.set_cons_succ, List.set_cons_zero]
    cases hx : isEv x with
    | true =>
      rw [hx] at e1
      have st : execs (C (k + 4)) T0 l_is_run_1 [v0, v1, some x, v3, v4] S = some (.nx [v0, v1, some x, v3, v4] S) := by simp [l_is_run_1, e1]
      rw [st, List.all_cons, hx, Bool.true_and]
      exact ih
    | false =>
      rw [hx] at e1
      have st : execs (C (k + 4)) T0 l_is_run_1 [v0, v1, some x, v3, v4] S = some (.rt (.bl false) S) := by simp [l_is_run_1, e1]
      rw [st, List.all_cons, hx]
      simp
theorem row_loop (k n : Nat) (hn : n + 3 ≤ 64) (S : Sto) (v0 v3 v4 : Option D) : ∀ (xs : List D), xs.all (dat (n + 4)) = true → ∀ v1 v2 : Option D,
    ∃ b1 b2, forL (.n 1) (fun e S => execs (C (k + 4)) T0 l_is_run_2 e S) xs [v0, v1, v2, v3, v4] S = if xs.all rowB then some (.nx [v0, b1, b2, v3, v4] S) else some (.rt (.bl false) S)
  | [], _, v1, v2 => ⟨v1, v2, by simp [forL]⟩
  | x :: xs, h, v1, v2 => by
    rw [List.all_cons, Bool.and_eq_true] at h
    simp only [forL, asg_n, List.set_cons_succ, List.set_cons_zero]
    have no : (∀ es, x = .tup es → ¬ es.length ≤ 30) → ∃ b1 b2, (match execs (C (k + 4)) T0 l_is_run_2 [v0, some x, v2, v3, v4] S with
      | some (.nx e S1) => forL (.n 1) (fun e S => execs (C (k + 4)) T0 l_is_run_2 e S) xs e S1
      | some (.ct e S1) => forL (.n 1) (fun e S => execs (C (k + 4)) T0 l_is_run_2 e S) xs e S1
      | some (.bk e S1) => some (.nx e S1)
      | r => r) = if (x :: xs).all rowB then some (.nx [v0, b1, b2, v3, v4] S) else some (.rt (.bl false) S) := fun hno => by
      have hb : rowB x = false := by
        cases x with
        | tup es => rw [rowB_tup, decide_eq_false (hno es rfl)]; rfl
        | _ => rfl
      have st : execs (C (k + 4)) T0 l_is_run_2 [v0, some x, v2, v3, v4] S = some (.rt (.bl false) S) := by
        cases x with
        | tup es =>
          have g : (30 : Int) < es.length := by have := hno es rfl; omega
          simp [l_is_run_2, g]
        | _ => first | (simp [l_is_run_2]; done) | (cases h.1)
      exact ⟨v1, v2, by rw [st, List.all_cons, hb]; simp⟩
    cases x with
    | tup es =>
      by_cases c : es.length ≤ 30
      · have g : ¬ ((30 : Int) < es.length) := by omega
        obtain ⟨b2, e1⟩ := ev_loop k n hn S v0 (some (.tup es)) v3 v4 es (dat_tup.mp h.1).2 v2
        have hb : rowB (.tup es) = es.all isEv := by rw [rowB_tup, decide_eq_true c]; rfl
        rw [List.all_cons, hb]
        cases he : es.all isEv with
        | true =>
          rw [he, if_pos rfl] at e1
          have st : execs (C (k + 4)) T0 l_is_run_2 [v0, some (.tup es), v2, v3, v4] S = some (.nx [v0, some (.tup es), b2, v3, v4] S) := by simp [l_is_run_2, g, e1]
          obtain ⟨c1, c2, ih⟩ := row_loop k n hn S v0 v3 v4 xs h.2 (some (.tup es)) b2
          exact ⟨c1, c2, by rw [st, Bool.true_and]; exact ih⟩
        | false =>
          rw [he, if_neg (by decide)] at e1
          have st : execs (C (k + 4)) T0 l_is_run_2 [v0, some (.tup es), v2, v3, v4] S = some (.rt (.bl false) S) := by simp [l_is_run_2, g, e1]
          exact ⟨v1, v2, by rw [st]; simp⟩
      · exact no fun es' e => by cases e; exact c
    | _ => exact no fun es' e => by cases e
theorem rnD_inj {a b : Rn} (h : rnD a = rnD b) : a = b := by
  have chi : ∀ {x y : Ch}, chD x = chD y → x = y := fun {x y} h => by
    obtain ⟨x1, x2⟩ := x
    obtain ⟨y1, y2⟩ := y
    simp [chD] at h
    rw [h.1, h.2]
  have csi : ∀ {x y : List Ch}, csD x = csD y → x = y := fun {x y} h => by
    injection h with h
    exact (List.map_inj_right (fun _ _ => chi)).mp h
  have evi : ∀ {x y : Ev}, x.d = y.d → x = y := fun {x y} h => by
    have n1 : ¬ (PySem.Str.ofString "send" = PySem.Str.ofString "take") := by decide +kernel
    have n2 : ¬ (PySem.Str.ofString "take" = PySem.Str.ofString "send") := by decide +kernel
    cases x <;> cases y <;> simp [Ev.d] at h
    · rw [csi h]
    · rw [h.1, csi h.2]
    · rw [h.1, csi h.2]
  have roi : ∀ {x y : List Ev}, rowD x = rowD y → x = y := fun {x y} h => by
    injection h with h
    exact (List.map_inj_right (fun _ _ => evi)).mp h
  injection h with h
  exact (List.map_inj_right (fun _ _ => roi)).mp h
theorem is_run_ok (k n : Nat) (hn : n + 3 ≤ 64) (d : D) (h : dat (n + 5) d = true) (S : Sto) : ∃ b, C (k + 5) i_is_run [d] S = some (.ok (.bl b) S) ∧ (b = true ↔ IsRun d) := by
  rw [c_is_run]
  have no : shB d = false → ∀ b : Bool, ((b = true ↔ IsRun d) ↔ b = false) := fun hs b => by
    have q : ¬ IsRun d := fun z => by have := z.1; rw [hs] at this; cases this
    cases b with
    | false => exact ⟨fun _ => rfl, fun _ => ⟨(fun z => by cases z), fun z => absurd z q⟩⟩
    | true => exact ⟨fun z => absurd (z.mp rfl) q, (fun z => by cases z)⟩
  cases d with
  | tup rs =>
    have hr := (dat_tup.mp h).2
    have e0 := callP_t (S := S) (by simp [pures, D.pure]) (is_integer_ok (k + 3) 0 (.int rs.length) 1 6 [] rfl) rfl
    obtain ⟨b1, b2, e1⟩ := row_loop k n hn S (some (.tup rs)) none none rs hr none none
    cases h1 : isInt (.int rs.length) 1 6 with
    | false =>
      rw [h1] at e0
      refine ⟨false, by simp [b_is_run, e0], (no (by rw [shB_tup, h1]; rfl) _).mpr rfl⟩
    | true =>
      rw [h1] at e0
      cases h2 : rs.all rowB with
      | false =>
        rw [h2, if_neg (by decide)] at e1
        refine ⟨false, by simp [b_is_run, e0, e1], (no (by rw [shB_tup, h1, h2]; rfl) _).mpr rfl⟩
      | true =>
        rw [h2, if_pos rfl] at e1
        have hsh : shB (.tup rs) = true := by rw [shB_tup, h1, h2]; rfl
        obtain ⟨rows, er, sh⟩ := shB_rn hsh
        rw [er] at e1 ⊢
        have ei : IsRun (rnD rows) ↔ LetOk rows ∧ Poss rows := by
          constructor
          · exact fun z => z.2 rows rfl
          · exact fun z => ⟨by rw [← er]; exact hsh, fun rows' e => by rw [← rnD_inj e]; exact z⟩
        have l1 := callP_t (S := S) (by simp [pures, D.pure, rn_pure]) (letters_ok (k + 3) rows sh.small "send" (.inl rfl) []) (by
          rw [D.pure]
          have : ∀ l : List Int, pures (l.map D.int) = true := fun l => by
            induction l with
            | nil => rfl
            | cons a l ih => rw [List.map_cons, pures, ih]; rfl
          exact this _)
        have l2 := callP_t (S := S) (by simp [pures, D.pure, rn_pure]) (letters_ok (k + 3) rows sh.small "take" (.inr rfl) []) (by
          rw [D.pure]
          have : ∀ l : List Int, pures (l.map D.int) = true := fun l => by
            induction l with
            | nil => rfl
            | cons a l ih => rw [List.map_cons, pures, ih]; rfl
          exact this _)
        rw [if_pos rfl] at l1
        rw [if_neg (by decide +kernel)] at l2
        obtain ⟨b, S', e3, hb⟩ := is_possible_ok (k + 3) rows sh.small
        have e3 := callP_t (S := S) (by simp [pures, rn_pure]) e3 rfl
        have lb : ∀ f : List Ev → List Int, (∀ r, (f r).length ≤ r.length) → (rows.flatMap f).length < 4000 := fun f hf => by
          have : ∀ rs : Rn, (∀ r ∈ rs, r.length ≤ 30) → (rs.flatMap f).length ≤ 30 * rs.length := by
            intro rs
            induction rs with
            | nil => intro _; simp
            | cons r rs ih =>
              intro h
              have a := h r (List.mem_cons_self ..)
              have b := ih fun z hz => h z (List.mem_cons_of_mem _ hz)
              have c := hf r
              rw [List.flatMap_cons, List.length_append, List.length_cons, Nat.mul_succ]
              omega
          have a := this rows fun r hr => (sh.2 r hr).1
          have b : 30 * rows.length ≤ 30 * 6 := Nat.mul_le_mul_left _ sh.1.2
          omega
        have s4 := lb sendsR fun r => List.length_filterMap_le _ _
        have t4 := lb takesR fun r => List.length_filterMap_le _ _
        have as : ∀ ns : List Int, (lstD S (.lst (ns.map .int))).bind asInts = some ns := fun ns => asInts_map ns
        have fs := firstMet_iff (sends rows)
        have ft := firstMet_iff (takes rows)
        have e0' : callP (C (k + 4)) true i_is_integer [.int (rows.map rowD).length, .int 1, .int 6] S = some (.ok (.bl true) S) := by
          have : rs = rows.map rowD := by injection er
          rw [this] at e0
          exact e0
        have e1' : forL (.n 1) (fun e S => execs (C (k + 4)) T0 l_is_run_2 e S) (rows.map rowD) [some (.tup (rows.map rowD)), none, none, none, none] S = some (.nx [some (.tup (rows.map rowD)), b1, b2, none, none] S) := by
          have : rs = rows.map rowD := by injection er
          rw [this] at e1
          exact e1
        rw [ei]
        unfold LetOk
        have l1 : callP (C (k + 4)) true i_letters_of [.tup (rows.map rowD), .str "send"] S = some (.ok (.lst ((sends rows).map .int)) S) := l1
        have l2 : callP (C (k + 4)) true i_letters_of [.tup (rows.map rowD), .str "take"] S = some (.ok (.lst ((takes rows).map .int)) S) := l2
        have e3 : callP (C (k + 4)) true i_is_possible [.tup (rows.map rowD)] S = some (.ok (.bl b) S) := e3
        have s4' : (sends rows).length < 4000 := s4
        have t4' : (takes rows).length < 4000 := t4
        unfold rnD
        simp only [List.length_map] at e0'
        simp only [List.getD_eq_getElem?_getD] at fs ft
        by_cases p1 : (sends rows).Nodup
        · by_cases p2 : (takes rows).Nodup
          · refine ⟨b, ?_, by rw [hb]; simp [p1, p2]⟩
            have f1 : ((PyProof.Rows.firstMet (fun i => (sends rows)[i]?.getD 0) (sends rows).length).length : Int) = ((sends rows).length : Int) := congrArg (fun n : Nat => (n : Int)) (fs.mpr p1)
            have f2 : ((PyProof.Rows.firstMet (fun i => (takes rows)[i]?.getD 0) (takes rows).length).length : Int) = ((takes rows).length : Int) := congrArg (fun n : Nat => (n : Int)) (ft.mpr p2)
            simp [b_is_run, e0', e1', l1, l2, as, s4', t4', f1, f2, e3]
          · refine ⟨false, ?_, by simp [p2]⟩
            have f1 : ((PyProof.Rows.firstMet (fun i => (sends rows)[i]?.getD 0) (sends rows).length).length : Int) = ((sends rows).length : Int) := congrArg (fun n : Nat => (n : Int)) (fs.mpr p1)
            have f2 : ¬ (((PyProof.Rows.firstMet (fun i => (takes rows)[i]?.getD 0) (takes rows).length).length : Int) = ((takes rows).length : Int)) := fun z => p2 (ft.mp (Int.ofNat_inj.mp z))
            simp [b_is_run, e0', e1', l1, l2, as, s4', t4', f1, f2]
        · refine ⟨false, ?_, by simp [p1]⟩
          have f1 : ¬ (((PyProof.Rows.firstMet (fun i => (sends rows)[i]?.getD 0) (sends rows).length).length : Int) = ((sends rows).length : Int)) := fun z => p1 (fs.mp (Int.ofNat_inj.mp z))
          simp [b_is_run, e0', e1', l1, l2, as, s4', t4', f1]
  | _ => first | (cases h; done) | exact ⟨false, by simp [b_is_run], (no rfl _).mpr rfl⟩
end Lk
namespace Lk
open PyProof.Rows L2 Ip
/-! ### the law's helpers -/
theorem pds_ints : ∀ ns : List Int, pds (ns.map D.int) = some (ns.map PySem.PyData.int)
  | [] => rfl
  | n :: ns => by rw [List.map_cons, pds, pds_ints ns]; rfl
theorem lay_ints : ∀ ns : List Int, PySem.PyData.canLayAll0 (ns.map PySem.PyData.int) = true
  | [] => by simp [PySem.PyData.canLayAll0]
  | n :: ns => by simp [PySem.PyData.canLayAll0, PySem.PyData.canLay0, lay_ints ns]
theorem dep_ints : ∀ ns : List Int, PySem.PyData.depthAll (ns.map PySem.PyData.int) ≤ 1
  | [] => by simp [PySem.PyData.depthAll]
  | n :: ns => by have := dep_ints ns; simp [PySem.PyData.depthAll, PySem.PyData.depth]; omega
theorem ints_in {S : Sto} (l : Int) (ns : List Int) : inD S (.int l) (.lst (ns.map .int)) = some (decide (l ∈ ns)) := by
  have r1 : (ns.map D.int).map (res1 S) = ns.map D.int := by
    rw [List.map_map]
    exact List.map_congr_left fun _ _ => rfl
  have r2 : pd (res2 S (.lst (ns.map .int))) = some (.list (ns.map PySem.PyData.int)) := by
    show (pds ((ns.map D.int).map (res1 S))).map PySem.PyData.list = _
    rw [r1, pds_ints]; rfl
  have sh : PySem.SeqAt.shaped (.list (ns.map PySem.PyData.int)) = true := by
    unfold PySem.SeqAt.shaped
    have d := dep_ints ns
    rw [Bool.and_eq_true]
    refine ⟨by simp [PySem.PyData.canLay0, lay_ints ns], ?_⟩
    simp [PySem.PyData.depth]
    omega
  have sl : PySem.SeqAt.shaped (.int l) = true := by
    unfold PySem.SeqAt.shaped
    simp [PySem.PyData.canLay0, PySem.PyData.depth]
  show (match pd (.int l), pd (res2 S (.lst (ns.map .int))) with
    | some a, some (.list b) => if PySem.SeqAt.shaped a = true ∧ PySem.SeqAt.shaped (.list b) = true then some (b.any fun z => PySem.PyData.eqv z a) else none
    | _, _ => none) = _
  rw [r2]
  show (if PySem.SeqAt.shaped (.int l) = true ∧ PySem.SeqAt.shaped (.list (ns.map PySem.PyData.int)) = true then some ((ns.map PySem.PyData.int).any fun z => PySem.PyData.eqv z (.int l)) else none) = _
  rw [if_pos ⟨sl, sh⟩]
  congr 1
  rw [Bool.eq_iff_iff, List.any_eq_true, decide_eq_true_eq]
  constructor
  · rintro ⟨z, hz, e⟩
    obtain ⟨n, hn, rfl⟩ := List.mem_map.mp hz
    simp [PySem.PyData.eqv] at e
    rw [← e]; exact hn
  · intro h
    exact ⟨_, List.mem_map.mpr ⟨l, h, rfl⟩, by simp [PySem.PyData.eqv]⟩
theorem ints_pure : ∀ l : List Int, pures (l.map D.int) = true
  | [] => rfl
  | a :: l => by rw [List.map_cons, pures, ints_pure l]; rfl
/-! ### states of a row -/
def stApp (s : List Int) (cs : List Ch) : List Int := cs.foldl (fun s q => s.set (q.1 - 97) q.2) s
def stS : List Int → List Ev → List (List Int)
  | s, [] => [s]
  | s, e :: r => s :: stS (stApp s e.cs) r
def tupI (s : List Int) : D := .tup (s.map .int)
theorem stApp_len (s : List Int) (cs : List Ch) : (stApp s cs).length = s.length := by
  induction cs generalizing s with
  | nil => rfl
  | cons q cs ih =>
    have e : stApp s (q :: cs) = stApp (s.set (q.1 - 97) q.2) cs := rfl
    rw [e, ih, List.length_set]
theorem stS_len : ∀ (r : List Ev) (s : List Int), (stS s r).length = r.length + 1
  | [], s => rfl
  | e :: r, s => by rw [stS, List.length_cons, List.length_cons, stS_len r]
theorem tupI_pures : ∀ l : List (List Int), pures (l.map tupI) = true
  | [] => rfl
  | s :: l => by rw [List.map_cons, pures, tupI_pures l, tupI, D.pure, ints_pure]; rfl
theorem var_idx {S : Sto} {v : Nat} (h : 97 ≤ v ∧ v ≤ 100) : meD .index (.str "abcd") [.str (mk [v])] S = some (.ok (.int ((v - 97 : Nat) : Int)) S) := by
  have e : ∃ r, PySem.Builtin.Str.occurrences ("abcd" : PySem.Str) (mk [v]) 0 ("abcd" : PySem.Str).length 1 = (v - 97) :: r := by
    have q : v = 97 ∨ v = 98 ∨ v = 99 ∨ v = 100 := by omega
    rcases q with rfl | rfl | rfl | rfl <;> exact ⟨[], by decide +kernel⟩
  obtain ⟨r, e⟩ := e
  show (match PySem.Builtin.Str.occurrences ("abcd" : PySem.Str) (mk [v]) 0 ("abcd" : PySem.Str).length 1 with
    | i :: _ => some (Ro.ok (D.int (i : Nat)) S)
    | [] => none) = _
  rw [e]
theorem st_inner (k m : Nat) (v0 v1 v2 : Option D) : ∀ (cs : List Ch), (∀ q ∈ cs, chOk q) → ∀ (s : List Int) (S : Sto) (v4 v5 : Option D), s.length = 4 → S[m]? = some (.lst (s.map .int)) →
    ∃ b4 b5, forL (.t (.cons (.n 4) (.cons (.n 5) .nil))) (fun e S => execs (C k) T0 l_states_of_1 e S) (cs.map chD) [v0, v1, v2, some (.ref m), v4, v5] S =
      some (.nx [v0, v1, v2, some (.ref m), b4, b5] (S.set m (.lst ((stApp s cs).map .int))))
  | [], _, s, S, v4, v5, hs, hm => by
    refine ⟨v4, v5, ?_⟩
    have e : S.set m (.lst (s.map .int)) = S := by
      refine List.ext_getElem? fun i => ?_
      by_cases h : m = i
      · subst h; rw [List.getElem?_set_self (List.getElem?_eq_some_iff.mp hm).1, hm]
      · rw [List.getElem?_set_ne h]
    show some (So.nx _ S) = some (So.nx _ (S.set m (.lst (s.map .int))))
    rw [e]
  | q :: cs, hq, s, S, v4, v5, hs, hm => by
    have hc := hq q (List.mem_cons_self ..)
    have hv := hc.1
    have ml := (List.getElem?_eq_some_iff.mp hm).1
    obtain ⟨b4, b5, ih⟩ := st_inner k m v0 v1 v2 cs (fun z hz => hq z (List.mem_cons_of_mem _ hz)) (s.set (q.1 - 97) q.2) (S.set m (.lst ((s.set (q.1 - 97) q.2).map .int))) (some (.str (mk [q.1]))) (some (.int q.2)) (by rw [List.length_set]; exact hs) (by rw [List.getElem?_set_self ml])
    refine ⟨b4, b5, ?_⟩
    have as : asgT (.t (.cons (.n 4) (.cons (.n 5) .nil))) (chD q) [v0, v1, v2, some (.ref m), v4, v5] = some [v0, v1, v2, some (.ref m), some (.str (mk [q.1])), some (.int q.2)] := rfl
    have ix : ixN 4 ((q.1 - 97 : Nat) : Int) = some (q.1 - 97) := by
      unfold ixN
      rw [if_pos (by omega), if_pos (by omega)]
      rfl
    have sm : (s.map D.int).set (q.1 - 97) (.int q.2) = (s.set (q.1 - 97) q.2).map .int := by rw [List.map_set]
    have lm : (s.map D.int).length = 4 := by rw [List.length_map]; exact hs
    have vi : ∀ U, meD .index (.str "abcd") [.str (mk [q.1])] U = some (.ok (.int ((q.1 - 97 : Nat) : Int)) U) := fun U => var_idx hv
    have ty : ∀ U, tyM .index (.str "abcd") U = true := fun U => rfl
    have g := getL_eq hm
    generalize hj : q.1 - 97 = j at ix sm vi ih
    have st : execs (C k) T0 l_states_of_1 [v0, v1, v2, some (.ref m), some (.str (mk [q.1])), some (.int q.2)] S = some (.nx [v0, v1, v2, some (.ref m), some (.str (mk [q.1])), some (.int q.2)] (S.set m (.lst ((s.set j q.2).map .int)))) := by
      generalize (s.set j q.2).map D.int = w at sm ⊢
      generalize s.map D.int = ys at sm g lm
      generalize mk [q.1] = z at vi ⊢
      simp [l_states_of_1, vi, ty, g, lm, ix, sm]
    have es : stApp s (q :: cs) = stApp (s.set j q.2) cs := by rw [← hj]; rfl
    rw [List.map_cons]
    simp only [forL, as, st]
    rw [ih, List.set_set, es]
theorem st_outer (k : Nat) (v0 : Option D) : ∀ (r : List Ev), (∀ e ∈ r, e.ok) → ∀ (acc : List (List Int)) (s : List Int) (S : Sto) (v2 v3 v4 v5 : Option D), s.length = 4 → acc.length + r.length ≤ 1000 → S[0]? = some (.lst ((acc ++ [s]).map tupI)) →
    ∃ b2 b3 b4 b5 S', forL (.n 2) (fun e S => execs (C k) T0 l_states_of_2 e S) (r.map Ev.d) [v0, some (.ref 0), v2, v3, v4, v5] S =
      some (.nx [v0, some (.ref 0), b2, b3, b4, b5] S') ∧ S'[0]? = some (.lst ((acc ++ stS s r).map tupI))
  | [], _, acc, s, S, v2, v3, v4, v5, hs, hl, h0 => ⟨v2, v3, v4, v5, S, rfl, h0⟩
  | e :: r, hr, acc, s, S, v2, v3, v4, v5, hs, hl, h0 => by
    have ho := hr e (List.mem_cons_self ..)
    rw [List.length_cons] at hl
    have l0 := (List.getElem?_eq_some_iff.mp h0).1
    -- the copy
    have la : ixD S (.ref 0) (.int (-1)) = some (tupI s) := by
      rw [ixD_ref h0, List.map_append]
      exact L2.atI_last _ _
    have bl : ∀ U, bfD .list true [tupI s] U = some (.ok (.ref U.length) (U ++ [.lst (s.map .int)])) := fun U => rfl
    have e1 : exec (C k) T0 (.asg (.n 3) (.bf .list true (.cons (.ix (.v 1) (.neg (.c (.int 1)))) .nil))) [v0, some (.ref 0), some e.d, v3, v4, v5] S = some (.nx [v0, some (.ref 0), some e.d, some (.ref S.length), v4, v5] (S ++ [.lst (s.map .int)])) := by
      simp [la, bl]
    obtain ⟨b4, b5, e2⟩ := st_inner k S.length v0 (some (.ref 0)) (some e.d) e.cs ho.1.1 s (S ++ [.lst (s.map .int)]) v4 v5 hs (by rw [List.getElem?_append_right (Nat.le_refl _)]; simp)
    have lst : ∀ U, ixD U e.d (.int (-1)) = some (csD e.cs) := fun U => by
      cases e with
      | step cs => exact L2.atI_last [.str "step"] (csD cs)
      | send l cs => exact L2.atI_last [.str "send", .int l] (csD cs)
      | take l cs => exact L2.atI_last [.str "take", .int l] (csD cs)
    have e2' : exec (C k) T0 (.for (.t (.cons (.n 4) (.cons (.n 5) .nil))) (.of (.ix (.v 2) (.neg (.c (.int 1))))) l_states_of_1) [v0, some (.ref 0), some e.d, some (.ref S.length), v4, v5] (S ++ [.lst (s.map .int)]) =
        some (.nx [v0, some (.ref 0), some e.d, some (.ref S.length), b4, b5] ((S ++ [Ob.lst (s.map .int)]).set S.length (.lst ((stApp s e.cs).map .int)))) := by
      have it : itD (csD e.cs) = some (e.cs.map chD) := rfl
      rw [exec]
      simp only [evalI, evalE, List.getElem?_cons_succ, List.getElem?_cons_zero, bnd_ok, Cst.d, lst, okO_some, it, bnS_ok]
      exact e2
    have se : (S ++ [Ob.lst (s.map .int)]).set S.length (.lst ((stApp s e.cs).map .int)) = S ++ [.lst ((stApp s e.cs).map .int)] := by
      rw [List.set_append_right _ _ (Nat.le_refl _)]; simp
    rw [se] at e2'
    have g0 : (S ++ [Ob.lst ((stApp s e.cs).map .int)])[0]? = some (.lst ((acc ++ [s]).map tupI)) := by rw [List.getElem?_append_left l0]; exact h0
    have gn : (S ++ [Ob.lst ((stApp s e.cs).map D.int)])[S.length]? = some (.lst ((stApp s e.cs).map .int)) := by rw [List.getElem?_append_right (Nat.le_refl _)]; simp
    have tb := biD_tupR gn
    have tf := tyM_app g0
    have af := fun d => meD_app (d := d) g0 (by rw [PySem.sizeLine_eq, List.length_map, List.length_append, List.length_singleton]; omega)
    have e3 : exec (C k) T0 (.ex (.me .append (.v 1) (.cons (.bi .tuple (.cons (.v 3) .nil)) .nil))) [v0, some (.ref 0), some e.d, some (.ref S.length), b4, b5] (S ++ [.lst ((stApp s e.cs).map .int)]) =
        some (.nx [v0, some (.ref 0), some e.d, some (.ref S.length), b4, b5] ((S ++ [Ob.lst ((stApp s e.cs).map .int)]).set 0 (.lst ((acc ++ [s]).map tupI ++ [tupI (stApp s e.cs)])))) := by
      have ht : D.tup ((stApp s e.cs).map .int) = tupI (stApp s e.cs) := rfl
      rw [ht] at tb
      generalize S ++ [Ob.lst ((stApp s e.cs).map .int)] = U at tb tf af ⊢
      simp only [exec, evalE, evalEs, List.getElem?_cons_succ, List.getElem?_cons_zero, bnd_ok, tf, if_true, tb, okO_some, af, bnS_ok]
    generalize hU : (S ++ [Ob.lst ((stApp s e.cs).map .int)]).set 0 (.lst ((acc ++ [s]).map tupI ++ [tupI (stApp s e.cs)])) = U at e3
    have hU0 : U[0]? = some (.lst ((acc ++ [s] ++ [stApp s e.cs]).map tupI)) := by
      rw [← hU, List.getElem?_set_self (by rw [List.length_append]; omega), List.map_append (l₂ := [stApp s e.cs])]
      rfl
    obtain ⟨c2, c3, c4, c5, S', ih, hS⟩ := st_outer k v0 r (fun z hz => hr z (List.mem_cons_of_mem _ hz)) (acc ++ [s]) (stApp s e.cs) U (some e.d) (some (.ref S.length)) b4 b5 (by rw [stApp_len]; exact hs) (by rw [List.length_append, List.length_singleton]; omega) hU0
    refine ⟨c2, c3, c4, c5, S', ?_, ?_⟩
    · rw [List.map_cons]
      have st : execs (C k) T0 l_states_of_2 [v0, some (.ref 0), some e.d, v3, v4, v5] S = some (.nx [v0, some (.ref 0), some e.d, some (.ref S.length), b4, b5] U) := by
        simp only [l_states_of_2, execs, e1, e2', e3, seqS_nx]
      simp only [forL, asg_n, List.set_cons_succ, List.set_cons_zero, st]
      exact ih
    · rw [hS, stS, List.append_assoc]; rfl
def stD (r : List Ev) : D := .lst ((stS [0, 0, 0, 0] r).map tupI)
theorem states_of_ok (k : Nat) (r : List Ev) (hr : ∀ e ∈ r, e.ok) (hl : r.length ≤ 900) : ∃ S', C (k + 1) i_states_of [rowD r] [] = some (.ok (stD r) S') := by
  rw [c_states_of]
  obtain ⟨b2, b3, b4, b5, S', e, h0⟩ := st_outer k (some (rowD r)) r hr [] [0, 0, 0, 0] [.lst [tupI [0, 0, 0, 0]]] none none none none rfl (by simp; omega) rfl
  rw [List.nil_append] at h0
  have e1 : exec (C k) T0 (.asg (.n 1) (.lst true (.cons (.bin .mul false (.tup (.cons (.c (.int 0)) .nil)) (.bi .len (.cons (.g g_VARIABLES_order) .nil))) .nil))) [some (rowD r), none, none, none, none, none] [] = some (.nx [some (rowD r), some (.ref 0), none, none, none, none] [.lst [tupI [0, 0, 0, 0]]]) := by
    have l4 : ∀ U, biD .len [.str "abcd"] U = some (.int 4) := fun U => rfl
    have ml : ∀ U : Sto, binD .mul false (.tup [.int 0]) (.int 4) U = some (.ok (tupI [0, 0, 0, 0]) U) := fun U => by
      show (@ite (Option (Ro D)) _ (Classical.propDecidable _) (some (Ro.ok (D.tup (List.replicate (4 : Int).toNat [D.int 0]).flatten) U)) none) = _
      rw [if_pos ⟨rfl, by decide, by decide⟩]; rfl
    simp [l4, ml]
  have e2 : exec (C k) T0 (.for (.n 2) (.of (.v 0)) l_states_of_2) [some (rowD r), some (.ref 0), none, none, none, none] [.lst [tupI [0, 0, 0, 0]]] = some (.nx [some (rowD r), some (.ref 0), b2, b3, b4, b5] S') := by
    have it : itD (rowD r) = some (r.map Ev.d) := rfl
    rw [exec]
    simp only [evalI, evalE, List.getElem?_cons_zero, bnd_ok, it, okO_some, bnS_ok]
    exact e
  have fz : fzD 1 [some (rowD r), some (.ref 0), b2, b3, b4, b5] S' = some ([some (rowD r), some (stD r), b2, b3, b4, b5], S'.set 0 .dead) := by
    show (match S'[0]? with
      | some (.lst xs) => if pures xs then some ([some (rowD r), some (.ref 0), b2, b3, b4, b5].set 1 (some (.lst xs)), S'.set 0 .dead) else none
      | some (.dct t ks vs) => _
      | _ => none) = _
    rw [h0]
    simp only
    rw [tupI_pures]; rfl
  refine ⟨S'.set 0 .dead, ?_⟩
  simp only [b_states_of, execs, e1, e2, seqS_nx, fz]
  simp
end Lk
namespace Lk
open PyProof.Rows L2 Ip
/-! ### places of letters -/
abbrev Pl : Type := Int × Nat × Nat
def plE (b : Bool) (p i : Nat) : Ev → List Pl
  | .step _ => []
  | .send l _ => if b then [(l, p, i + 1)] else []
  | .take l _ => if b then [] else [(l, p, i + 1)]
def plR (b : Bool) (p : Nat) : Nat → List Ev → List Pl
  | _, [] => []
  | i, e :: r => plE b p i e ++ plR b p (i + 1) r
def plS (b : Bool) : Nat → Rn → List Pl
  | _, [] => []
  | p, r :: rs => plR b p 0 r ++ plS b (p + 1) rs
def kK (l : List Pl) : List D := l.map fun q => .int q.1
def kV (l : List Pl) : List D := l.map fun q => .tup [.int q.2.1, .int q.2.2]
def pO (l : List Pl) : Ob := .dct 0 (kK l) (kV l)
def pD (l : List Pl) : D := .dct 0 (kK l) (kV l)
theorem kV_pures : ∀ l : List Pl, pures (kV l) = true
  | [] => rfl
  | q :: l => by
    have e : kV (q :: l) = .tup [.int q.2.1, .int q.2.2] :: kV l := rfl
    rw [e, pures, kV_pures l]; rfl
theorem kK_pures : ∀ l : List Pl, pures (kK l) = true
  | [] => rfl
  | q :: l => by
    have e : kK (q :: l) = .int q.1 :: kK l := rfl
    rw [e, pures, kK_pures l]; rfl
theorem lookK_pl (l : Int) : ∀ qs : List Pl, lookK kKey (.inl l) (kK qs) (kV qs) = (qs.find? fun q => decide (q.1 = l)).map fun q => .tup [.int q.2.1, .int q.2.2]
  | [] => rfl
  | q :: qs => by
    have e1 : kK (q :: qs) = .int q.1 :: kK qs := rfl
    have e2 : kV (q :: qs) = .tup [.int q.2.1, .int q.2.2] :: kV qs := rfl
    rw [e1, e2, lookK_c, lookK_pl l qs, List.find?_cons]
    by_cases h : q.1 = l
    · rw [if_pos (by rw [h]; rfl), decide_eq_true h]; rfl
    · rw [if_neg (by
        intro z
        simp only [kKey_i, Option.some.injEq, Sum.inl.injEq] at z
        exact h z), decide_eq_false h]
theorem find_pl {l : Int} {p j : Nat} {qs : List Pl} (h : (l, p, j) ∈ qs) (nd : (qs.map (·.1)).Nodup) : (qs.find? fun q => decide (q.1 = l)) = some (l, p, j) := by
  induction qs with
  | nil => cases h
  | cons q qs ih =>
    rw [List.map_cons, List.nodup_cons] at nd
    rw [List.find?_cons]
    rcases List.mem_cons.mp h with e | h
    · rw [← e]; simp
    · have : q.1 ≠ l := fun z => nd.1 (by rw [z]; exact List.mem_map.mpr ⟨_, h, rfl⟩)
      rw [decide_eq_false this]
      exact ih h nd.2
theorem find_none {l : Int} {qs : List Pl} (h : l ∉ qs.map (·.1)) : (qs.find? fun q => decide (q.1 = l)) = none := by
  rw [List.find?_eq_none]
  intro q hq
  simp only [decide_eq_true_eq]
  exact fun z => h (List.mem_map.mpr ⟨q, hq, z⟩)
theorem putS_pl {qs : List Pl} {l : Int} {p j : Nat} {env : En} (h : qs.length ≤ 1000) (hn : l ∉ qs.map (·.1)) : putS 0 (.int l) (.tup [.int p, .int j]) env [pO qs] = some (.nx env [pO (qs ++ [(l, p, j)])]) := by
  have hz : (kK qs).length < PySem.sizeLine := by
    have e : (kK qs).length = qs.length := List.length_map ..
    rw [e, PySem.sizeLine_eq]; omega
  have ln : lookK kKey (.inl l) (kK qs) (kV qs) = none := by rw [lookK_pl, find_none hn]; rfl
  show (if (kK qs).length < PySem.sizeLine then (dPut (0, kK qs, kV qs) (.int l) (.tup [.int p, .int j])).map fun q => So.nx env [Ob.dct 0 q.1 q.2] else none) = _
  rw [if_pos hz]
  show (some (putW kKey (.inl l) (.int l) (.tup [.int p, .int j]) (kK qs) (kV qs))).map _ = _
  unfold putW
  rw [ln]
  unfold pO kK kV
  rw [List.map_append, List.map_append]
  rfl
def kindS (b : Bool) : PySem.Str := if b then "send" else "take"
theorem plR_len (b : Bool) (p : Nat) : ∀ (r : List Ev) (i : Nat), (plR b p i r).length ≤ r.length
  | [], _ => Nat.le_refl _
  | e :: r, i => by
    rw [plR, List.length_append, List.length_cons]
    have := plR_len b p r (i + 1)
    have : (plE b p i e).length ≤ 1 := by cases e <;> cases b <;> simp [plE]
    omega
theorem pl_inner (k : Nat) (b : Bool) (p : Nat) (v0 v4 : Option D) : ∀ (r : List Ev) (i : Nat) (qs : List Pl) (v5 v6 : Option D), ((qs ++ plR b p i r).map (·.1)).Nodup → qs.length + r.length ≤ 1000 →
    ∃ b5 b6, forL (.t (.cons (.n 5) (.cons (.n 6) .nil))) (fun e S => execs (C k) T0 l_places_of_1 e S) (enF i (r.map Ev.d)) [v0, some (.str (kindS b)), some (.ref 0), some (.int p), v4, v5, v6] [pO qs] =
      some (.nx [v0, some (.str (kindS b)), some (.ref 0), some (.int p), v4, b5, b6] [pO (qs ++ plR b p i r)])
  | [], i, qs, v5, v6, _, _ => ⟨v5, v6, by simp [enF, forL, plR]⟩
  | e :: r, i, qs, v5, v6, nd, hl => by
    rw [List.length_cons] at hl
    rw [plR, ← List.append_assoc] at nd
    have el : (plE b p i e).length ≤ 1 := by cases e <;> cases b <;> simp [plE]
    obtain ⟨b5, b6, ih⟩ := pl_inner k b p v0 v4 r (i + 1) (qs ++ plE b p i e) (some (.int i)) (some e.d) nd (by rw [List.length_append]; omega)
    refine ⟨b5, b6, ?_⟩
    have as : asgT (.t (.cons (.n 5) (.cons (.n 6) .nil))) (.tup [.int (i : Int), e.d]) [v0, some (.str (kindS b)), some (.ref 0), some (.int p), v4, v5, v6] = some [v0, some (.str (kindS b)), some (.ref 0), some (.int p), v4, some (.int (i : Int)), some e.d] := rfl
    have st : execs (C k) T0 l_places_of_1 [v0, some (.str (kindS b)), some (.ref 0), some (.int p), v4, some (.int (i : Int)), some e.d] [pO qs] = some (.nx [v0, some (.str (kindS b)), some (.ref 0), some (.int p), v4, some (.int (i : Int)), some e.d] [pO (qs ++ plE b p i e)]) := by
      have s1 : ¬ (PySem.Str.ofString "step" = PySem.Str.ofString "send") := by decide +kernel
      have s2 : ¬ (PySem.Str.ofString "step" = PySem.Str.ofString "take") := by decide +kernel
      have s3 : ¬ (PySem.Str.ofString "send" = PySem.Str.ofString "take") := by decide +kernel
      have s4 : ¬ (PySem.Str.ofString "take" = PySem.Str.ofString "send") := by decide +kernel
      have notin : ∀ {l : Int} {j : Nat}, plE b p i e = [(l, p, j)] → l ∉ qs.map (·.1) := fun {l j} z hm => by
        rw [z, List.map_append, List.map_append] at nd
        have := (List.nodup_append.mp (List.nodup_append.mp nd).1).2.2 l hm l (by simp)
        exact this rfl
      have gl : getL [pO qs] 0 = none := rfl
      have i1 : ((i : Int) + 1) = ((i + 1 : Nat) : Int) := by omega
      cases e with
      | step cs => cases b <;> simp [l_places_of_1, Ev.d, kindS, plE, s1, s2]
      | send l cs =>
        cases b with
        | false => simp [l_places_of_1, Ev.d, kindS, plE, s3]
        | true =>
          have pu := fun env => putS_pl (env := env) (p := p) (j := i + 1) (by omega) (notin (j := i + 1) rfl)
          have ep : plE true p i (.send l cs) = [(l, p, i + 1)] := rfl
          rw [ep]
          generalize hO : pO qs = o at pu gl ⊢
          simp [l_places_of_1, Ev.d, kindS, gl]
          rw [i1, pu]
          rfl
      | take l cs =>
        cases b with
        | true => simp [l_places_of_1, Ev.d, kindS, plE, s4]
        | false =>
          have pu := fun env => putS_pl (env := env) (p := p) (j := i + 1) (by omega) (notin (j := i + 1) rfl)
          have ep : plE false p i (.take l cs) = [(l, p, i + 1)] := rfl
          rw [ep]
          generalize hO : pO qs = o at pu gl ⊢
          simp [l_places_of_1, Ev.d, kindS, gl]
          rw [i1, pu]
          rfl
    rw [List.map_cons, enF]
    simp only [forL, as, st]
    rw [plR, ← List.append_assoc]
    exact ih
theorem pl_outer (k : Nat) (b : Bool) (v0 : Option D) : ∀ (rs : Rn) (p : Nat) (qs : List Pl) (v3 v4 v5 v6 : Option D), ((qs ++ plS b p rs).map (·.1)).Nodup → (∀ r ∈ rs, r.length ≤ 30) → qs.length + 30 * rs.length ≤ 900 →
    ∃ b3 b4 b5 b6, forL (.t (.cons (.n 3) (.cons (.n 4) .nil))) (fun e S => execs (C k) T0 l_places_of_2 e S) (enF p (rs.map rowD)) [v0, some (.str (kindS b)), some (.ref 0), v3, v4, v5, v6] [pO qs] =
      some (.nx [v0, some (.str (kindS b)), some (.ref 0), b3, b4, b5, b6] [pO (qs ++ plS b p rs)])
  | [], p, qs, v3, v4, v5, v6, _, _, _ => ⟨v3, v4, v5, v6, by simp [enF, forL, plS]⟩
  | r :: rs, p, qs, v3, v4, v5, v6, nd, hr, hl => by
    rw [List.length_cons] at hl
    rw [plS, ← List.append_assoc] at nd
    have h30 := hr r (List.mem_cons_self ..)
    obtain ⟨b5, b6, e1⟩ := pl_inner k b p v0 (some (rowD r)) r 0 qs v5 v6 (by rw [List.map_append] at nd; exact (List.nodup_append.mp nd).1) (by omega)
    have pl := plR_len b p r 0
    obtain ⟨c3, c4, c5, c6, ih⟩ := pl_outer k b v0 rs (p + 1) (qs ++ plR b p 0 r) (some (.int p)) (some (rowD r)) b5 b6 nd (fun z hz => hr z (List.mem_cons_of_mem _ hz)) (by rw [List.length_append]; omega)
    refine ⟨c3, c4, c5, c6, ?_⟩
    have as : asgT (.t (.cons (.n 3) (.cons (.n 4) .nil))) (.tup [.int (p : Int), rowD r]) [v0, some (.str (kindS b)), some (.ref 0), v3, v4, v5, v6] = some [v0, some (.str (kindS b)), some (.ref 0), some (.int (p : Int)), some (rowD r), v5, v6] := rfl
    have st : execs (C k) T0 l_places_of_2 [v0, some (.str (kindS b)), some (.ref 0), some (.int (p : Int)), some (rowD r), v5, v6] [pO qs] = some (.nx [v0, some (.str (kindS b)), some (.ref 0), some (.int (p : Int)), some (rowD r), b5, b6] [pO (qs ++ plR b p 0 r)]) := by
      simp only [l_places_of_2, execs, exec, evalI, evalE, List.getElem?_cons_succ, List.getElem?_cons_zero, bnd_ok, rowD, bnS_ok]
      simp only [rowD] at e1
      rw [e1]; rfl
    rw [List.map_cons, enF]
    simp only [forL, as, st]
    rw [plS, ← List.append_assoc]
    exact ih
theorem places_of_ok (k : Nat) (b : Bool) (rows : Rn) (hs : Small rows) (nd : ((plS b 0 rows).map (·.1)).Nodup) : ∃ S', C (k + 1) i_places_of [rnD rows, .str (kindS b)] [] = some (.ok (pD (plS b 0 rows)) S') := by
  rw [c_places_of]
  obtain ⟨b3, b4, b5, b6, e⟩ := pl_outer k b (some (rnD rows)) rows 0 [] none none none none nd (fun r hr => by
    obtain ⟨p, hp, e⟩ := List.getElem_of_mem hr
    have := hs.2 p
    rw [List.getD_eq_getElem?_getD, List.getElem?_eq_getElem hp] at this
    rw [← e]; exact this) (by have := hs.1; simp; omega)
  rw [List.nil_append] at e
  have fz : ∀ v3 v4 v5 v6, fzD 2 [some (rnD rows), some (.str (kindS b)), some (.ref 0), v3, v4, v5, v6] [pO (plS b 0 rows)] = some ([some (rnD rows), some (.str (kindS b)), some (pD (plS b 0 rows)), v3, v4, v5, v6], [.dead]) := fun v3 v4 v5 v6 => by
    show (if pures (kK (plS b 0 rows)) && pures (kV (plS b 0 rows)) then _ else none) = _
    rw [kK_pures, kV_pures]; rfl
  have e1 : exec (C k) T0 (.asg (.n 2) (.dct true 0 [] [])) [some (rnD rows), some (.str (kindS b)), none, none, none, none, none] [] = some (.nx [some (rnD rows), some (.str (kindS b)), some (.ref 0), none, none, none, none] [pO []]) := rfl
  have e2 : exec (C k) T0 (.for (.t (.cons (.n 3) (.cons (.n 4) .nil))) (.enum (.v 0)) l_places_of_2) [some (rnD rows), some (.str (kindS b)), some (.ref 0), none, none, none, none] [pO []] = some (.nx [some (rnD rows), some (.str (kindS b)), some (.ref 0), b3, b4, b5, b6] [pO (plS b 0 rows)]) := by
    simp only [exec, evalI, evalE, List.getElem?_cons_zero, bnd_ok, rnD, bnS_ok]
    simp only [rnD] at e
    exact e
  refine ⟨[.dead], ?_⟩
  simp only [b_places_of, execs, e1, e2, seqS_nx, fz]
  simp
/-! where a letter stands -/
theorem mem_plE {b : Bool} {p i : Nat} {e : Ev} {l : Int} {q j : Nat} : (l, q, j) ∈ plE b p i e ↔ q = p ∧ j = i + 1 ∧ ((b = true ∧ ∃ cs, e = .send l cs) ∨ (b = false ∧ ∃ cs, e = .take l cs)) := by
  cases e with
  | step cs => simp [plE]
  | send m cs =>
    cases b
    · simp [plE]
    · simp only [plE, if_true, List.mem_singleton, Prod.mk.injEq]
      constructor
      · rintro ⟨rfl, rfl, rfl⟩; exact ⟨rfl, rfl, .inl ⟨by simp, cs, rfl⟩⟩
      · rintro ⟨rfl, rfl, ⟨_, cs', z⟩ | ⟨z, _⟩⟩
        · cases z; exact ⟨rfl, rfl, rfl⟩
        · cases z
  | take m cs =>
    cases b
    · simp only [plE, Bool.false_eq_true, if_false, List.mem_singleton, Prod.mk.injEq]
      constructor
      · rintro ⟨rfl, rfl, rfl⟩; exact ⟨rfl, rfl, .inr ⟨by simp, cs, rfl⟩⟩
      · rintro ⟨rfl, rfl, ⟨z, _⟩ | ⟨_, cs', z⟩⟩
        · cases z
        · cases z; exact ⟨rfl, rfl, rfl⟩
    · simp [plE]
def kindE (b : Bool) (l : Int) (e : Ev) : Prop := (b = true ∧ ∃ cs, e = .send l cs) ∨ (b = false ∧ ∃ cs, e = .take l cs)
theorem mem_plR {b : Bool} {p : Nat} {l : Int} {q j : Nat} : ∀ {r : List Ev} {i : Nat}, (l, q, j) ∈ plR b p i r ↔ q = p ∧ ∃ n e, j = i + n + 1 ∧ r[n]? = some e ∧ kindE b l e
  | [], i => by simp [plR]
  | e :: r, i => by
    rw [plR, List.mem_append, mem_plE, mem_plR (r := r)]
    constructor
    · rintro (⟨rfl, rfl, h⟩ | ⟨rfl, n, e', rfl, h1, h2⟩)
      · exact ⟨rfl, 0, e, rfl, rfl, h⟩
      · exact ⟨rfl, n + 1, e', by omega, by simpa using h1, h2⟩
    · rintro ⟨rfl, n, e', rfl, h1, h2⟩
      cases n with
      | zero => simp at h1; subst h1; exact .inl ⟨rfl, rfl, h2⟩
      | succ n => exact .inr ⟨rfl, n, e', by omega, by simpa using h1, h2⟩
theorem mem_plS {b : Bool} {l : Int} {q j : Nat} : ∀ {rs : Rn} {p : Nat}, (l, q, j) ∈ plS b p rs ↔ ∃ m n e, q = p + m ∧ j = n + 1 ∧ (rs.getD m [])[n]? = some e ∧ kindE b l e
  | [], p => by simp [plS]
  | r :: rs, p => by
    rw [plS, List.mem_append, mem_plR, mem_plS (rs := rs)]
    constructor
    · rintro (⟨rfl, n, e, rfl, h1, h2⟩ | ⟨m, n, e, rfl, rfl, h1, h2⟩)
      · exact ⟨0, n, e, rfl, by omega, h1, h2⟩
      · exact ⟨m + 1, n, e, by omega, rfl, h1, h2⟩
    · rintro ⟨m, n, e, rfl, rfl, h1, h2⟩
      cases m with
      | zero => exact .inl ⟨rfl, n, e, by omega, h1, h2⟩
      | succ m => exact .inr ⟨m, n, e, by omega, rfl, h1, h2⟩
theorem mem_pl {b : Bool} {l : Int} {q j : Nat} {rows : Rn} : (l, q, j) ∈ plS b 0 rows ↔ ∃ n e, j = n + 1 ∧ evAt rows q n = some e ∧ kindE b l e := by
  rw [mem_plS]
  constructor
  · rintro ⟨m, n, e, rfl, rfl, h1, h2⟩; exact ⟨n, e, rfl, by rw [Nat.zero_add]; exact h1, h2⟩
  · rintro ⟨n, e, rfl, h1, h2⟩; exact ⟨q, n, e, by omega, rfl, h1, h2⟩
theorem plS_fst (b : Bool) : ∀ (rs : Rn) (p : Nat), (plS b p rs).map (·.1) = if b then sends rs else takes rs
  | [], p => by cases b <;> rfl
  | r :: rs, p => by
    have one : ∀ (r : List Ev) (i : Nat), (plR b p i r).map (·.1) = if b then sendsR r else takesR r := by
      intro r
      induction r with
      | nil => intro i; cases b <;> rfl
      | cons e r ih =>
        intro i
        rw [plR, List.map_append, ih]
        cases e <;> cases b <;> rfl
    rw [plS, List.map_append, one, plS_fst b rs]
    cases b <;> rfl
theorem LetOk.nd {rows : Rn} (h : LetOk rows) (b : Bool) : ((plS b 0 rows).map (·.1)).Nodup := by
  rw [plS_fst]
  cases b
  · exact h.2
  · exact h.1
theorem nodup_fst {l : List Pl} (nd : (l.map (·.1)).Nodup) {a b : Pl} (ha : a ∈ l) (hb : b ∈ l) (h : a.1 = b.1) : a = b := by
  induction l with
  | nil => cases ha
  | cons c l ih =>
    rw [List.map_cons, List.nodup_cons] at nd
    rcases List.mem_cons.mp ha with ha | ha <;> rcases List.mem_cons.mp hb with hb | hb
    · rw [ha, hb]
    · exact absurd (List.mem_map.mpr ⟨b, hb, by rw [← h, ha]⟩) nd.1
    · exact absurd (List.mem_map.mpr ⟨a, ha, by rw [h, hb]⟩) nd.1
    · exact ih nd.2 ha hb
theorem kind_uniq {rows : Rn} (h : LetOk rows) {b : Bool} {l : Int} {p i q j : Nat} {e e' : Ev} (h1 : evAt rows p i = some e) (h2 : evAt rows q j = some e') (k1 : kindE b l e) (k2 : kindE b l e') : p = q ∧ i = j := by
  have a := mem_pl.mpr ⟨i, e, rfl, h1, k1⟩
  have c := mem_pl.mpr ⟨j, e', rfl, h2, k2⟩
  have := nodup_fst (h.nd b) a c rfl
  simp only [Prod.mk.injEq] at this
  omega
theorem send_uniq {rows : Rn} (h : LetOk rows) {l : Int} {p i q j : Nat} {cs cs' : List Ch} (h1 : evAt rows p i = some (.send l cs)) (h2 : evAt rows q j = some (.send l cs')) : p = q ∧ i = j :=
  kind_uniq h h1 h2 (b := true) (.inl ⟨rfl, cs, rfl⟩) (.inl ⟨rfl, cs', rfl⟩)
end Lk
namespace Lk
open PyProof.Rows L2 Ip
/-! ### clocks -/
abbrev Clk : Type := Nat → Nat → List Nat
def joinC (a b : List Nat) : List Nat := List.zipWith max a b
structure ClkTo (rows : Rn) (d : Nat → Nat) (K : Clk) : Prop where
  len : ∀ p i, (K p i).length = rows.length
  zero : ∀ p, K p 0 = List.replicate rows.length 0
  stp : ∀ p i e, i < d p → evAt rows p i = some e → (∀ l cs, e ≠ .take l cs) → K p (i + 1) = (K p i).set p (i + 1)
  tak : ∀ p i l cs q j cs', i < d p → evAt rows p i = some (.take l cs) → evAt rows q j = some (.send l cs') → K p (i + 1) = (joinC (K p i) (K q (j + 1))).set p (i + 1)
abbrev IsClk (rows : Rn) (K : Clk) : Prop := ClkTo rows (lens rows) K
theorem joinC_len {a b : List Nat} (h : a.length = b.length) : (joinC a b).length = a.length := by
  unfold joinC; rw [List.length_zipWith]; omega
/-- what is taken was sent before -/
theorem Reach.sent {rows : Rn} {d : Nat → Nat} (h : Reach rows d) : ∀ p i l cs, i < d p → evAt rows p i = some (.take l cs) → ∃ q j cs', j < d q ∧ evAt rows q j = some (.send l cs') := by
  induction h with
  | zero => intro p i l cs h; exact absurd h (Nat.not_lt_zero i)
  | step r en ih =>
    rename_i d p
    intro q i l cs hi he
    by_cases c : q = p ∧ i = d p
    · obtain ⟨rfl, rfl⟩ := c
      obtain ⟨e, he', hs⟩ := en
      rw [he] at he'
      obtain ⟨a, j, cs', hj, h⟩ := hs l cs (Option.some.inj he').symm
      exact ⟨a, j, cs', Nat.lt_of_lt_of_le hj (bump_le a), h⟩
    · have hi' : i < d q := by
        by_cases e : q = p
        · subst e; rw [bump_same] at hi
          have : i ≠ d q := fun z => c ⟨rfl, z⟩
          omega
        · rw [bump_ne e] at hi; exact hi
      obtain ⟨a, j, cs', hj, h⟩ := ih q i l cs hi' he
      exact ⟨a, j, cs', Nat.lt_of_lt_of_le hj (bump_le a), h⟩
theorem clk_ex {rows : Rn} (ho : LetOk rows) {d : Nat → Nat} (h : Reach rows d) : ∃ K, ClkTo rows d K := by
  classical
  induction h with
  | zero => exact ⟨fun _ _ => List.replicate rows.length 0, fun _ _ => List.length_replicate .., fun _ => rfl, fun p i e h => absurd h (Nat.not_lt_zero i), fun p i l cs q j cs' h => absurd h (Nat.not_lt_zero i)⟩
  | step r en ih =>
    rename_i d p
    obtain ⟨K, hK⟩ := ih
    obtain ⟨e, he, hs⟩ := id en
    -- the clock of the new event
    obtain ⟨v, hv, v1, v2⟩ : ∃ v : List Nat, v.length = rows.length ∧ ((∀ l cs, e ≠ .take l cs) → v = (K p (d p)).set p (d p + 1)) ∧
        (∀ l cs q j cs', e = .take l cs → evAt rows q j = some (.send l cs') → v = (joinC (K p (d p)) (K q (j + 1))).set p (d p + 1)) := by
      cases e with
      | step cs => exact ⟨_, by rw [List.length_set]; exact hK.len p (d p), fun _ => rfl, fun _ _ _ _ _ z => nomatch z⟩
      | send l cs => exact ⟨_, by rw [List.length_set]; exact hK.len p (d p), fun _ => rfl, fun _ _ _ _ _ z => nomatch z⟩
      | take l cs =>
        obtain ⟨q, j, cs', hj, hq⟩ := hs l cs rfl
        refine ⟨(joinC (K p (d p)) (K q (j + 1))).set p (d p + 1), ?_, fun z => absurd rfl (z l cs), fun l' cs2 q' j' cs3 z h' => ?_⟩
        · rw [List.length_set, joinC_len (by rw [hK.len, hK.len])]; exact hK.len p (d p)
        · cases z
          obtain ⟨rfl, rfl⟩ := send_uniq ho hq h'
          rfl
    refine ⟨fun q i => if q = p ∧ i = d p + 1 then v else K q i, fun q i => ?_, fun q => ?_, fun q i e' hi he' hn => ?_, fun q i l cs q' j cs' hi he' hq' => ?_⟩
    · show (if q = p ∧ i = d p + 1 then v else K q i).length = _
      split
      · exact hv
      · exact hK.len q i
    · show (if q = p ∧ 0 = d p + 1 then v else K q 0) = _
      rw [if_neg (by omega)]; exact hK.zero q
    · show (if q = p ∧ i + 1 = d p + 1 then v else K q (i + 1)) = (if q = p ∧ i = d p + 1 then v else K q i).set q (i + 1)
      by_cases c : q = p ∧ i = d p
      · obtain ⟨rfl, rfl⟩ := c
        rw [if_pos ⟨rfl, rfl⟩, if_neg (by omega)]
        rw [he] at he'
        cases he'
        exact v1 hn
      · have hi' : i < d q := by
          by_cases e : q = p
          · subst e; rw [bump_same] at hi
            have : i ≠ d q := fun z => c ⟨rfl, z⟩
            omega
          · rw [bump_ne e] at hi; exact hi
        rw [if_neg (fun z => c ⟨z.1, by omega⟩), if_neg (fun z => by obtain ⟨rfl, z⟩ := z; omega)]
        exact hK.stp q i e' hi' he' hn
    · show (if q = p ∧ i + 1 = d p + 1 then v else K q (i + 1)) = (joinC (if q = p ∧ i = d p + 1 then v else K q i) (if q' = p ∧ j + 1 = d p + 1 then v else K q' (j + 1))).set q (i + 1)
      by_cases c : q = p ∧ i = d p
      · obtain ⟨rfl, rfl⟩ := c
        rw [if_pos ⟨rfl, rfl⟩, if_neg (by omega)]
        rw [he] at he'
        cases he'
        obtain ⟨a, j', cs2, hj, ha⟩ := hs l cs rfl
        obtain ⟨rfl, rfl⟩ := send_uniq ho ha hq'
        rw [if_neg (fun z => by obtain ⟨rfl, z⟩ := z; omega)]
        exact v2 l cs _ _ cs' rfl hq'
      · have hi' : i < d q := by
          by_cases e : q = p
          · subst e; rw [bump_same] at hi
            have : i ≠ d q := fun z => c ⟨rfl, z⟩
            omega
          · rw [bump_ne e] at hi; exact hi
        obtain ⟨a, j', cs2, hj, ha⟩ := r.sent q i l cs hi' he'
        obtain ⟨rfl, rfl⟩ := send_uniq ho ha hq'
        rw [if_neg (fun z => c ⟨z.1, by omega⟩), if_neg (fun z => by obtain ⟨rfl, z⟩ := z; omega), if_neg (fun z => by obtain ⟨rfl, z⟩ := z; omega)]
        exact hK.tak q i l cs _ _ cs' hi' he' hq'
theorem isClk_ex {rows : Rn} (ho : LetOk rows) (h : Poss rows) : ∃ K, IsClk rows K := by
  obtain ⟨d, hr, hf⟩ := h
  obtain rfl : d = lens rows := funext hf
  exact clk_ex ho hr
/-- there is but one -/
theorem clk_eq {rows : Rn} {K K' : Clk} (h1 : IsClk rows K) (h2 : IsClk rows K') {d : Nat → Nat} (h : Reach rows d) : ∀ p i, i ≤ d p → K p i = K' p i := by
  induction h with
  | zero =>
    intro p i hi
    have e : i = 0 := Nat.le_zero.mp hi
    subst e
    rw [h1.zero, h2.zero]
  | step r en ih =>
    rename_i d p
    intro q i hi
    by_cases c : q = p ∧ i = d p + 1
    · obtain ⟨rfl, rfl⟩ := c
      obtain ⟨e, he, hs⟩ := en
      have hl : d q < lens rows q := (List.getElem?_eq_some_iff.mp he).1
      cases e with
      | step cs => rw [h1.stp q (d q) _ hl he (fun _ _ z => nomatch z), h2.stp q (d q) _ hl he (fun _ _ z => nomatch z), ih q (d q) (Nat.le_refl _)]
      | send l cs => rw [h1.stp q (d q) _ hl he (fun _ _ z => nomatch z), h2.stp q (d q) _ hl he (fun _ _ z => nomatch z), ih q (d q) (Nat.le_refl _)]
      | take l cs =>
        obtain ⟨a, j, cs', hj, ha⟩ := hs l cs rfl
        rw [h1.tak q (d q) l cs a j cs' hl he ha, h2.tak q (d q) l cs a j cs' hl he ha, ih q (d q) (Nat.le_refl _), ih a (j + 1) hj]
    · have hi' : i ≤ d q := by
        by_cases e : q = p
        · subst e; rw [bump_same] at hi
          have : i ≠ d q + 1 := fun z => c ⟨rfl, z⟩
          omega
        · rw [bump_ne e] at hi; exact hi
      exact ih q i hi'
theorem isClk_eq {rows : Rn} {K K' : Clk} (h : Poss rows) (h1 : IsClk rows K) (h2 : IsClk rows K') : ∀ p i, i ≤ lens rows p → K p i = K' p i := by
  obtain ⟨d, hr, hf⟩ := h
  have e : d = lens rows := funext hf
  exact fun p i hi => clk_eq h1 h2 hr p i (by rw [e]; exact hi)
end Lk
namespace Lk
open PyProof.Rows L2 Ip
/-! ### an order under way -/
def tupN (v : List Nat) : D := .tup (v.map fun x : Nat => D.int x)
def ckL (K : Clk) (p m : Nat) : List D := (List.range m).map fun i => tupN (K p i)
def refs1 (n : Nat) : List D := (List.range n).map fun p => D.ref (p + 1)
def oNm : List PySem.Str := ["_run", "_states", "_sends", "_takes", "_clocks"]
def oV (rows : Rn) : List D := [rnD rows, .lst (rows.map stD), pD (plS true 0 rows), pD (plS false 0 rows), .lst (refs1 rows.length)]
def oS (rows : Rn) (K : Clk) (d : Nat → Nat) : Sto := .ins 0 oNm (oV rows) :: (List.range rows.length).map fun p => Ob.lst (ckL K p (d p + 1))
theorem oS_at {rows : Rn} {K : Clk} {d : Nat → Nat} {p : Nat} (h : p < rows.length) : (oS rows K d)[p + 1]? = some (.lst (ckL K p (d p + 1))) := by
  unfold oS
  rw [List.getElem?_cons_succ, List.getElem?_map, List.getElem?_range h]; rfl
theorem ckL_len (K : Clk) (p m : Nat) : (ckL K p m).length = m := by simp [ckL]
theorem ckL_succ (K : Clk) (p m : Nat) : ckL K p (m + 1) = ckL K p m ++ [tupN (K p m)] := by
  unfold ckL; rw [List.range_succ, List.map_append]; rfl
theorem ckL_get {K : Clk} {p m i : Nat} (h : i < m) : (ckL K p m)[i]? = some (tupN (K p i)) := by
  unfold ckL; rw [List.getElem?_map, List.getElem?_range h]; rfl
theorem oS_set {rows : Rn} {K : Clk} {d : Nat → Nat} {p : Nat} (h : p < rows.length) : (oS rows K d).set (p + 1) (.lst (ckL K p (d p + 1) ++ [tupN (K p (d p + 1))])) = oS rows K (bump d p) := by
  unfold oS
  rw [List.set_cons_succ]
  congr 1
  refine List.ext_getElem? fun q => ?_
  by_cases c : q < rows.length
  · by_cases e : p = q
    · subst e
      rw [List.getElem?_set_self (by simpa using h), List.getElem?_map, List.getElem?_range h, ← ckL_succ]
      show _ = some (Ob.lst (ckL K p (bump d p p + 1)))
      rw [bump_same]
    · rw [List.getElem?_set_ne e, List.getElem?_map, List.getElem?_map, List.getElem?_range c]
      show some (Ob.lst (ckL K q (d q + 1))) = some (Ob.lst (ckL K q (bump d p q + 1)))
      rw [bump_ne (fun z => e z.symm)]
  · rw [List.getElem?_eq_none (by simp; omega), List.getElem?_eq_none (by simp; omega)]
section
variable {rows : Rn} {K : Clk} {d : Nat → Nat}
theorem fld_run : fldD (oS rows K d) 0 (.ref 0) "_run" = some (rnD rows) := by
  show (if 0 = 0 then fldL "_run" oNm (oV rows) else none) = _
  simp [fldL, oNm, oV]
theorem fld_sends : fldD (oS rows K d) 0 (.ref 0) "_sends" = some (pD (plS true 0 rows)) := by
  show (if 0 = 0 then fldL "_sends" oNm (oV rows) else none) = _
  simp [fldL, oNm, oV]
theorem fld_clocks : fldD (oS rows K d) 0 (.ref 0) "_clocks" = some (.lst (refs1 rows.length)) := by
  show (if 0 = 0 then fldL "_clocks" oNm (oV rows) else none) = _
  simp [fldL, oNm, oV]
theorem mth_ready : mthD (oS rows K d) 0 (.ref 0) "_ready" = true := by
  show (decide (0 = 0) && oNm.all fun n => decide (n ≠ "_ready")) = true
  simp [oNm]
theorem mth_clock : mthD (oS rows K d) 0 (.ref 0) "_clock_of" = true := by
  show (decide (0 = 0) && oNm.all fun n => decide (n ≠ "_clock_of")) = true
  simp [oNm]
theorem mth_reckon : mthD (oS rows K d) 0 (.ref 0) "_reckon" = true := by
  show (decide (0 = 0) && oNm.all fun n => decide (n ≠ "_reckon")) = true
  simp [oNm]
theorem cl_ref {p : Nat} (h : p < rows.length) (S : Sto) : ixD S (.lst (refs1 rows.length)) (.int (p : Int)) = some (.ref (p + 1)) := by
  unfold refs1
  rw [ixD_lst, atI_nn, List.getElem?_map, List.getElem?_range h]; rfl
theorem cl_len {p : Nat} (h : p < rows.length) : biD .len [.ref (p + 1)] (oS rows K d) = some (.int ((d p : Int) + 1)) := by
  have hg := oS_at (K := K) (d := d) h
  show (match dctD (oS rows K d) (.ref (p + 1)) with
    | some q => if q.1 = 0 then some (D.int q.2.1.length) else none
    | none => (seqD (oS rows K d) (.ref (p + 1))).map fun xs : List D => D.int xs.length) = _
  rw [dctD_lst hg]
  show (getL (oS rows K d) (p + 1)).map _ = _
  rw [getL_eq hg]
  show some (D.int ((ckL K p (d p + 1)).length : Nat)) = _
  rw [ckL_len]; rfl
theorem cl_last {p : Nat} (h : p < rows.length) : ixD (oS rows K d) (.ref (p + 1)) (.int (-1)) = some (tupN (K p (d p))) := by
  rw [ixD_ref (oS_at (K := K) (d := d) h), ckL_succ]
  exact L2.atI_last _ _
theorem cl_at {p i : Nat} (h : p < rows.length) (hi : i ≤ d p) : ixD (oS rows K d) (.ref (p + 1)) (.int (i : Int)) = some (tupN (K p i)) := by
  rw [ixD_ref (oS_at (K := K) (d := d) h), atI_nn, ckL_get (by omega)]
end
theorem pD_at {l : Int} {p j : Nat} {qs : List Pl} (h : (l, p, j) ∈ qs) (nd : (qs.map (·.1)).Nodup) (S : Sto) : ixD S (pD qs) (.int l) = some (.tup [.int p, .int j]) := by
  rw [pD, ixD_dct, dGet_0i, lookK_pl, find_pl h nd]; rfl
theorem send_pl {rows : Rn} {q j : Nat} {l : Int} {cs : List Ch} (h : evAt rows q j = some (.send l cs)) : (l, q, j + 1) ∈ plS true 0 rows := mem_pl.mpr ⟨j, _, rfl, h, .inl ⟨rfl, cs, rfl⟩⟩
/-- a run whose events can be put into one row -/
structure Rnn (rows : Rn) : Prop where
  bb : shB (rnD rows) = true
  sh : RunShape rows
  lo : LetOk rows
  po : Poss rows
theorem Rnn.small {rows : Rn} (h : Rnn rows) : Small rows := h.sh.small
theorem Rnn.sent {rows : Rn} (h : Rnn rows) {p i : Nat} {l : Int} {cs : List Ch} (he : evAt rows p i = some (.take l cs)) : ∃ q j cs', evAt rows q j = some (.send l cs') := by
  obtain ⟨d, hr, hf⟩ := h.po
  obtain ⟨q, j, cs', _, e⟩ := hr.sent p i l cs (by rw [hf p]; exact (List.getElem?_eq_some_iff.mp he).1) he
  exact ⟨q, j, cs', e⟩
theorem ev_lt {rows : Rn} {p i : Nat} {e : Ev} (h : evAt rows p i = some e) : p < rows.length := by
  refine Classical.byContradiction fun c => ?_
  unfold evAt at h
  have e0 : (rows.getD p []) = [] := by rw [List.getD_eq_getElem?_getD, List.getElem?_eq_none (by omega)]; rfl
  rw [e0] at h
  simp at h
theorem s_take : ¬ (PySem.Str.ofString "send" = PySem.Str.ofString "take") := by decide +kernel
/-- may the next event be added? -/
theorem ready_ok (k : Nat) {rows : Rn} (hR : Rnn rows) {K : Clk} {d : Nat → Nat} {p i : Nat} {e : Ev} (he : evAt rows p i = some e) :
    ∃ b, C (k + 1) i_Order__ready [.ref 0, e.d] (oS rows K d) = some (.ok (.bl b) (oS rows K d)) ∧ (b = true ↔ ∀ l cs, e = .take l cs → Sent rows d l) := by
  rw [c_Order__ready]
  cases e with
  | step cs => exact ⟨true, by simp [b_Order__ready, Ev.d, l_take], by simp⟩
  | send l cs => exact ⟨true, by simp [b_Order__ready, Ev.d, s_take], by simp⟩
  | take l cs =>
    obtain ⟨q, j, cs', hq⟩ := hR.sent he
    have hql := ev_lt hq
    have pa := fun S => pD_at (send_pl hq) (hR.lo.nd true) S
    have cr := fun S => cl_ref hql S
    have cl := cl_len (K := K) (d := d) hql
    have as : ∀ v0 v1 v2 v3, asgT (.t (.cons (.n 2) (.cons (.n 3) .nil))) (.tup [.int (q : Int), .int ((j + 1 : Nat) : Int)]) [v0, v1, v2, v3] = some [v0, v1, some (.int (q : Int)), some (.int ((j + 1 : Nat) : Int))] := fun _ _ _ _ => rfl
    refine ⟨decide ((((j + 1 : Nat) : Int)) < (d q : Int) + 1), ?_, ?_⟩
    · have f1 := fld_sends (rows := rows) (K := K) (d := d)
      have f2 := fld_clocks (rows := rows) (K := K) (d := d)
      generalize oS rows K d = S at f1 f2 cl ⊢
      have e1 : exec (C k) T0 (.ifs (.cmp .ne (.ix (.v 1) (.c (.int 0))) (.c (.str "take"))) (.cons (.ret (.c (.bl true))) .nil) .nil) [some (.ref 0), some (Ev.take l cs).d, none, none] S = some (.nx [some (.ref 0), some (Ev.take l cs).d, none, none] S) := by
        simp [Ev.d]
      have e2 : exec (C k) T0 (.asg (.t (.cons (.n 2) (.cons (.n 3) .nil))) (.ix (.att 0 (.v 0) "_sends") (.ix (.v 1) (.c (.int 1))))) [some (.ref 0), some (Ev.take l cs).d, none, none] S = some (.nx [some (.ref 0), some (Ev.take l cs).d, some (.int (q : Int)), some (.int ((j + 1 : Nat) : Int))] S) := by
        have a1 : ixD S (Ev.take l cs).d (.int 1) = some (.int l) := by rw [Ev.d, ixD_tup, atI_1]
        rw [exec]
        simp only [evalE, List.getElem?_cons_succ, List.getElem?_cons_zero, bnd_ok, f1, okO_some, Cst.d, a1, pa, bnS_ok, as]
      have e3 : exec (C k) T0 (.ret (.cmp .lt (.v 3) (.bi .len (.cons (.ix (.att 0 (.v 0) "_clocks") (.v 2)) .nil)))) [some (.ref 0), some (Ev.take l cs).d, some (.int (q : Int)), some (.int ((j + 1 : Nat) : Int))] S = some (.rt (.bl (decide ((((j + 1 : Nat) : Int)) < (d q : Int) + 1))) S) := by
        rw [exec]
        simp only [evalE, evalEs, List.getElem?_cons_succ, List.getElem?_cons_zero, bnd_ok, f2, okO_some, cr, cl, cmpD_lt, Option.map_some, bnS_ok]
      simp only [b_Order__ready, execs, e1, e2, e3, seqS_nx, seqS_rt, outS_rt]
    · rw [decide_eq_true_eq]
      constructor
      · intro h l' cs2 e
        cases e
        exact ⟨q, j, cs', by omega, hq⟩
      · intro h
        obtain ⟨q', j', cs2, hj, hq'⟩ := h l cs rfl
        obtain ⟨rfl, rfl⟩ := send_uniq hR.lo hq hq'
        omega
theorem tupN_pures : ∀ l : List Nat, pures (l.map fun x : Nat => D.int x) = true
  | [] => rfl
  | s :: l => by rw [List.map_cons, pures, tupN_pures l]; rfl
theorem tupN_pure (v : List Nat) : (tupN v).pure = true := by rw [tupN, D.pure, tupN_pures]
theorem tupN_get {v : List Nat} {i : Nat} (h : i < v.length) (S : Sto) : ixD S (tupN v) (.int (i : Int)) = some (.int (v.getD i 0 : Nat)) := by
  rw [tupN, ixD_tup, atI_nn, List.getElem?_map, List.getElem?_eq_getElem h, List.getD_eq_getElem?_getD, List.getElem?_eq_getElem h]; rfl
theorem lcL_step {turn : D → Sto → Option (Ro (Option D))} {x y : D} {xs acc : List D} {S S1 : Sto} (h : turn x S = some (.ok (some y) S1)) : lcLoop turn (x :: xs) S acc = lcLoop turn xs S1 (acc ++ [y]) := by
  rw [lcLoop, h]
/-- the greater numbers -/
theorem joined_loop (k : Nat) (b : List Nat) (v0 : Option D) (env : Ip.En) (S : Sto) : ∀ (a : List Nat) (i : Nat) (acc : List D), i + a.length ≤ b.length →
    lcLoop (fun x S => match asgT (.t (.cons (.n 2) (.cons (.n 3) .nil))) x (wipeE [v0, some (tupN b), none, none] [2, 3]) with
      | some env1 => bnd (evalC (C k) T0 .no env1 S) fun b S2 => match b with
        | true => bnd (evalE (C k) T0 e_joined_1 env1 S2) fun y S3 => some (.ok (some y) S3)
        | false => some (.ok none S2)
      | none => none) (enF i (a.map fun x : Nat => D.int x)) S acc = some (.ok (acc ++ (joinC a (b.drop i)).map fun x : Nat => D.int x) S)
  | [], i, acc, _ => by simp [enF, lcLoop, joinC]
  | x :: a, i, acc, h => by
    rw [List.length_cons] at h
    have hi : i < b.length := by omega
    have as : asgT (.t (.cons (.n 2) (.cons (.n 3) .nil))) (.tup [.int (i : Int), .int (x : Int)]) (wipeE [v0, some (tupN b), none, none] [2, 3]) = some [v0, some (tupN b), some (.int (i : Int)), some (.int (x : Int))] := rfl
    have tg := fun S => tupN_get hi S
    have hm : (if ((b.getD i 0 : Nat) : Int) > (x : Int) then ((b.getD i 0 : Nat) : Int) else (x : Int)) = ((max x (b.getD i 0) : Nat) : Int) := by
      split <;> omega
    have ev : evalE (C k) T0 e_joined_1 [v0, some (tupN b), some (.int (i : Int)), some (.int (x : Int))] S = some (.ok (.int ((max x (b.getD i 0) : Nat) : Int)) S) := by
      unfold e_joined_1
      simp only [evalE, evalEs, List.getElem?_cons_succ, List.getElem?_cons_zero, bnd_ok, tg, okO_some, biD_max, hm]
    rw [List.map_cons, enF, lcL_step (y := .int ((max x (b.getD i 0) : Nat) : Int)) (S1 := S) (by simp only [as, evalC, bnd_ok, ev])]
    rw [joined_loop k b v0 env S a (i + 1) _ (by omega), List.append_assoc]
    congr 2
    rw [List.drop_eq_getElem_cons hi, List.getD_eq_getElem?_getD, List.getElem?_eq_getElem hi]
    rfl
theorem joined_ok (k : Nat) {a b : List Nat} (h : a.length = b.length) (hl : a.length ≤ 1000) (S : Sto) : C (k + 1) i_joined [tupN a, tupN b] S = some (.ok (tupN (joinC a b)) S) := by
  rw [c_joined]
  have lo := joined_loop k b (some (tupN a)) [] S a 0 [] (by omega)
  rw [List.nil_append, List.drop_zero] at lo
  have e : evalE (C k) T0 k_joined_1 [some (tupN a), some (tupN b), none, none] S = some (.ok (.lst ((joinC a b).map fun x : Nat => D.int x)) S) := by
    unfold k_joined_1
    rw [evalE]
    simp only [evalI, evalE, List.getElem?_cons_zero, bnd_ok, tupN]
    rw [if_pos (by rw [enF_len, List.length_map, PySem.sizeLine_eq]; omega)]
    simp only [tupN] at lo
    refine (congrArg (fun z => bnd z fun ys S2 => mkL false ys S2) lo).trans ?_
    rfl
  simp only [b_joined, execs, exec, evalE, evalEs, e, bnd_ok, biD_tupL, okO_some, bnS_ok, seqS_rt, outS_rt]
  rfl
theorem tup_set {v : List Nat} {p x : Nat} (h : p < v.length) (hl : v.length ≤ 1000) (S : Sto) :
    ∃ U, binD .add false (.tup (cutD (v.map fun x : Nat => D.int x) none (some (p : Int)))) (.tup [.int (x : Int)]) S = some (.ok (.tup U) S) ∧
      binD .add false (.tup U) (.tup (cutD (v.map fun x : Nat => D.int x) (some ((p : Int) + 1)) none)) S = some (.ok (tupN (v.set p x)) S) := by
  refine ⟨(v.take p).map (fun x : Nat => D.int x) ++ [.int (x : Int)], ?_, ?_⟩
  · rw [cutD_hi (by omega), binD_tups (by rw [PySem.sizeLine_eq]; simp; omega), Int.toNat_natCast, List.map_take]
  · have e1 : ((p : Int) + 1).toNat = p + 1 := by omega
    rw [cutD_lo (by omega), binD_tups (by rw [PySem.sizeLine_eq]; simp; omega), e1]
    congr 2
    unfold tupN
    rw [List.set_eq_take_append_cons_drop, if_pos h, List.map_append, List.map_cons, List.map_drop, List.append_assoc]
    rfl
/-- the clock of the next event -/
theorem clock_ok (k : Nat) {rows : Rn} (hR : Rnn rows) {K : Clk} (hK : IsClk rows K) {d : Nat → Nat} {p : Nat} (hn : Nxt rows d p) {e : Ev} (he : evAt rows p (d p) = some e) :
    C (k + 2) i_Order__clock_of [.ref 0, .int (p : Int), .int ((d p + 1 : Nat) : Int), e.d] (oS rows K d) = some (.ok (tupN (K p (d p + 1))) (oS rows K d)) := by
  rw [c_Order__clock_of]
  have hp := ev_lt he
  have hn6 := hR.small.1
  have hl : d p < lens rows p := (List.getElem?_eq_some_iff.mp he).1
  have f1 := fld_sends (rows := rows) (K := K) (d := d)
  have f2 := fld_clocks (rows := rows) (K := K) (d := d)
  have cr := fun S => cl_ref hp S
  have la := cl_last (K := K) (d := d) hp
  -- the first statement, and the last
  have e1 : ∀ v4 v5 v6, exec (C (k + 1)) T0 (.asg (.n 4) (.ix (.ix (.att 0 (.v 0) "_clocks") (.v 1)) (.neg (.c (.int 1))))) [some (.ref 0), some (.int (p : Int)), some (.int ((d p + 1 : Nat) : Int)), some e.d, v4, v5, v6] (oS rows K d) =
      some (.nx [some (.ref 0), some (.int (p : Int)), some (.int ((d p + 1 : Nat) : Int)), some e.d, some (tupN (K p (d p))), v5, v6] (oS rows K d)) := fun v4 v5 v6 => by
    rw [exec]
    simp only [evalE, List.getElem?_cons_succ, List.getElem?_cons_zero, bnd_ok, f2, okO_some, cr, Cst.d, la, bnS_ok, asg_n, List.set_cons_succ, List.set_cons_zero]
  have fin : ∀ (v : List Nat), v.length = rows.length → ∀ v5 v6, exec (C (k + 1)) T0 (.ret (.bin .add false (.bin .add false (.sl false (.v 4) .no (.so (.v 1))) (.tup (.cons (.v 2) .nil))) (.sl false (.v 4) (.so (.bin .add false (.v 1) (.c (.int 1)))) .no))) [some (.ref 0), some (.int (p : Int)), some (.int ((d p + 1 : Nat) : Int)), some e.d, some (tupN v), v5, v6] (oS rows K d) =
      some (.rt (tupN (v.set p (d p + 1))) (oS rows K d)) := fun v hv v5 v6 => by
    obtain ⟨U, u1, u2⟩ := tup_set (x := d p + 1) (p := p) (v := v) (by omega) (by omega) (oS rows K d)
    generalize oS rows K d = S at u1 u2 ⊢
    rw [exec]
    simp only [evalE, evalEs, evalO, List.getElem?_cons_succ, List.getElem?_cons_zero, bnd_ok, tupN, slD_tup, List.length_cons, List.length_nil, PySem.sizeLine_eq, binD_add, Cst.d]
    rw [if_pos (by decide)]
    simp only [tupN] at u2
    simp only [bnd_ok, u1, u2, bnS_ok]
  cases e with
  | step cs =>
    have e2 : exec (C (k + 1)) T0 (.ifs (.cmp .eq (.ix (.v 3) (.c (.int 0))) (.c (.str "take"))) (.cons (.asg (.t (.cons (.n 5) (.cons (.n 6) .nil))) (.ix (.att 0 (.v 0) "_sends") (.ix (.v 3) (.c (.int 1))))) (.cons (.asg (.n 4) (.call i_joined true (.cons (.v 4) (.cons (.ix (.ix (.att 0 (.v 0) "_clocks") (.v 5)) (.v 6)) .nil)))) .nil)) .nil) [some (.ref 0), some (.int (p : Int)), some (.int ((d p + 1 : Nat) : Int)), some (Ev.step cs).d, some (tupN (K p (d p))), none, none] (oS rows K d) =
        some (.nx [some (.ref 0), some (.int (p : Int)), some (.int ((d p + 1 : Nat) : Int)), some (Ev.step cs).d, some (tupN (K p (d p))), none, none] (oS rows K d)) := by
      simp [Ev.d, l_take]
    simp only [b_Order__clock_of, execs, e1, e2, fin _ (hK.len p (d p)), seqS_nx, seqS_rt, outS_rt]
    rw [hK.stp p (d p) _ hl he (fun _ _ z => nomatch z)]
  | send l cs =>
    have e2 : exec (C (k + 1)) T0 (.ifs (.cmp .eq (.ix (.v 3) (.c (.int 0))) (.c (.str "take"))) (.cons (.asg (.t (.cons (.n 5) (.cons (.n 6) .nil))) (.ix (.att 0 (.v 0) "_sends") (.ix (.v 3) (.c (.int 1))))) (.cons (.asg (.n 4) (.call i_joined true (.cons (.v 4) (.cons (.ix (.ix (.att 0 (.v 0) "_clocks") (.v 5)) (.v 6)) .nil)))) .nil)) .nil) [some (.ref 0), some (.int (p : Int)), some (.int ((d p + 1 : Nat) : Int)), some (Ev.send l cs).d, some (tupN (K p (d p))), none, none] (oS rows K d) =
        some (.nx [some (.ref 0), some (.int (p : Int)), some (.int ((d p + 1 : Nat) : Int)), some (Ev.send l cs).d, some (tupN (K p (d p))), none, none] (oS rows K d)) := by
      simp [Ev.d, s_take]
    simp only [b_Order__clock_of, execs, e1, e2, fin _ (hK.len p (d p)), seqS_nx, seqS_rt, outS_rt]
    rw [hK.stp p (d p) _ hl he (fun _ _ z => nomatch z)]
  | take l cs =>
    obtain ⟨e', he', hs⟩ := hn
    rw [he] at he'
    obtain ⟨q, j, cs', hj, hq⟩ := hs l cs (Option.some.inj he').symm
    have hql := ev_lt hq
    have pa := fun S => pD_at (send_pl hq) (hR.lo.nd true) S
    have cr2 := fun S => cl_ref hql S
    have ca := cl_at (K := K) (d := d) (i := j + 1) hql hj
    have as : ∀ v0 v1 v2 v3 v4 v5 v6, asgT (.t (.cons (.n 5) (.cons (.n 6) .nil))) (.tup [.int (q : Int), .int ((j + 1 : Nat) : Int)]) [v0, v1, v2, v3, v4, v5, v6] = some [v0, v1, v2, v3, v4, some (.int (q : Int)), some (.int ((j + 1 : Nat) : Int))] := fun _ _ _ _ _ _ _ => rfl
    have jo := callP_t (S := oS rows K d) (by simp only [pures, tupN_pure, Bool.and_true]) (joined_ok k (a := K p (d p)) (b := K q (j + 1)) (by rw [hK.len, hK.len]) (by rw [hK.len]; omega) []) (tupN_pure _)
    have e2 : exec (C (k + 1)) T0 (.ifs (.cmp .eq (.ix (.v 3) (.c (.int 0))) (.c (.str "take"))) (.cons (.asg (.t (.cons (.n 5) (.cons (.n 6) .nil))) (.ix (.att 0 (.v 0) "_sends") (.ix (.v 3) (.c (.int 1))))) (.cons (.asg (.n 4) (.call i_joined true (.cons (.v 4) (.cons (.ix (.ix (.att 0 (.v 0) "_clocks") (.v 5)) (.v 6)) .nil)))) .nil)) .nil) [some (.ref 0), some (.int (p : Int)), some (.int ((d p + 1 : Nat) : Int)), some (Ev.take l cs).d, some (tupN (K p (d p))), none, none] (oS rows K d) =
        some (.nx [some (.ref 0), some (.int (p : Int)), some (.int ((d p + 1 : Nat) : Int)), some (Ev.take l cs).d, some (tupN (joinC (K p (d p)) (K q (j + 1)))), some (.int (q : Int)), some (.int ((j + 1 : Nat) : Int))] (oS rows K d)) := by
      have a0 : ∀ S, ixD S (Ev.take l cs).d (.int 0) = some (.str "take") := fun S => by rw [Ev.d, ixD_tup, atI_z]
      have a1 : ∀ S, ixD S (Ev.take l cs).d (.int 1) = some (.int l) := fun S => by rw [Ev.d, ixD_tup, atI_1]
      generalize oS rows K d = S at f1 f2 ca jo ⊢
      generalize (Ev.take l cs).d = ed at a0 a1 ⊢
      rw [exec]
      simp only [evalT, evalE, List.getElem?_cons_succ, List.getElem?_cons_zero, bnd_ok, Cst.d, a0, okO_some, cmpD_eq, eqD_str, decide_true, bnS_ok, execs, exec, f1, a1, pa, as, seqS_nx, evalEs, f2, cr2, ca, jo, asg_n, List.set_cons_succ, List.set_cons_zero]
    simp only [b_Order__clock_of, execs, e1, e2, fin (joinC (K p (d p)) (K q (j + 1))) (by rw [joinC_len (by rw [hK.len, hK.len])]; exact hK.len p (d p)), seqS_nx, seqS_rt, outS_rt]
    rw [hK.tak p (d p) l cs q j cs' hl he hq]
end Lk
namespace Lk
open PyProof.Rows L2 Ip
/-- the row of p, as a value -/
def rowO (rows : Rn) (p : Nat) : D := rowD (rows.getD p [])
theorem row_at {rows : Rn} {p : Nat} (hp : p < rows.length) (S : Sto) : ixD S (rnD rows) (.int (p : Int)) = some (rowO rows p) := by
  rw [rowO, rnD, ixD_tup, atI_nn, List.getElem?_map, List.getElem?_eq_getElem hp, List.getD_eq_getElem?_getD, List.getElem?_eq_getElem hp]; rfl
theorem ev_at {rows : Rn} {p i : Nat} {e : Ev} (h : evAt rows p i = some e) (S : Sto) : ixD S (rowO rows p) (.int (i : Int)) = some e.d := by
  rw [rowO, rowD, ixD_tup, atI_nn, List.getElem?_map]
  unfold evAt at h
  rw [h]; rfl
theorem len_row {rows : Rn} {p : Nat} (S : Sto) : biD .len [rowO rows p] S = some (.int (lens rows p)) := by
  rw [rowO, rowD, biD_lenT, List.length_map]; rfl
theorem ev_some {rows : Rn} {p i : Nat} (h : i < lens rows p) : ∃ e, evAt rows p i = some e := ⟨_, List.getElem?_eq_getElem h⟩
/-! ### all clocks -/
def rkE (rows : Rn) (T : Int) (d : Nat → Nat) (v2 v3 v4 : Option D) : Ip.En := [some (.ref 0), some (.int (T - tot rows.length d)), v2, v3, v4]
theorem rk_turn (k : Nat) {rows : Rn} (hR : Rnn rows) {K : Clk} (hK : IsClk rows K) (T : Int) {d : Nat → Nat} (hr : Reach rows d) {p : Nat} (hp : p < rows.length) (v4 : Option D) :
    ∃ b4 d', execs (C (k + 2)) T0 l_Order__reckon_1 (rkE rows T d (some (rowO rows p)) (some (.int (p : Int))) v4) (oS rows K d) = some (.nx (rkE rows T d' (some (rowO rows p)) (some (.int (p : Int))) b4) (oS rows K d')) ∧
      Reach rows d' ∧ (∀ q, d q ≤ d' q) ∧ (d' = d → ¬ Nxt rows d p) := by
  have f2 := fld_clocks (rows := rows) (K := K) (d := d)
  have m1 := mth_ready (rows := rows) (K := K) (d := d)
  have m2 := mth_clock (rows := rows) (K := K) (d := d)
  have cr := fun S => cl_ref hp S
  have cl := cl_len (K := K) (d := d) hp
  have lr := fun S => len_row (rows := rows) (p := p) S
  have hlen := hr.le_len p
  have ei : (d p : Int) + 1 - 1 = d p := by omega
  have e1 : exec (C (k + 2)) T0 (.asg (.n 4) (.bi .len (.cons (.ix (.att 0 (.v 0) "_clocks") (.v 3)) .nil))) (rkE rows T d (some (rowO rows p)) (some (.int (p : Int))) v4) (oS rows K d) = some (.nx (rkE rows T d (some (rowO rows p)) (some (.int (p : Int))) (some (.int ((d p : Int) + 1)))) (oS rows K d)) := by
    unfold rkE
    rw [exec]
    simp only [evalE, evalEs, List.getElem?_cons_succ, List.getElem?_cons_zero, bnd_ok, f2, okO_some, cr, cl, bnS_ok, asg_n, List.set_cons_succ, List.set_cons_zero]
  by_cases c : d p < lens rows p
  · obtain ⟨e, he⟩ := ev_some c
    obtain ⟨b, e2, hb⟩ := ready_ok (k + 1) hR (K := K) (d := d) he
    have ea := fun S => ev_at he S
    have c1 : (d p : Int) + 1 ≤ (lens rows p : Int) := by omega
    cases b with
    | true =>
      have hn : Nxt rows d p := ⟨e, he, fun l cs z => hb.mp rfl l cs z⟩
      have e3 := clock_ok k hR hK hn he
      have ec : ((d p + 1 : Nat) : Int) = (d p : Int) + 1 := by omega
      rw [ec] at e3
      have hg := oS_at (K := K) (d := d) hp
      have tf := tyM_app hg
      have af := meD_app (d := tupN (K p (d p + 1))) hg (by
        rw [PySem.sizeLine_eq, ckL_len]
        have h30 := hR.small.2 p
        have : d p ≤ (rows.getD p []).length := hlen
        omega)
      rw [oS_set hp] at af
      refine ⟨some (.int ((d p : Int) + 1)), bump d p, ?_, .step hr hn, bump_le, fun z => ?_⟩
      · have hT : (T - tot rows.length (bump d p)) = T - tot rows.length d - 1 := by rw [tot_bump _ hp]; omega
        simp only [l_Order__reckon_1, execs, e1, seqS_nx]
        unfold rkE
        rw [hT]
        generalize hS : oS rows K d = S at f2 m1 m2 cl e2 e3 tf af ⊢
        generalize oS rows K (bump d p) = S' at af ⊢
        generalize T - tot rows.length d = T'
        simp only [exec, evalT, evalE, evalEs, List.getElem?_cons_succ, List.getElem?_cons_zero, bnd_ok, lr, okO_some, cmpD_le, c1, decide_true, m1, if_true, binD_sub, Cst.d, ei, ea, callP_f, e2, truD_bl, bnS_ok, execs, f2, cr, tf, m2, e3, af, seqS_nx, augI, List.set_cons_succ, List.set_cons_zero]
      · have := congrFun z p
        rw [bump_same] at this
        omega
    | false =>
      refine ⟨some (.int ((d p : Int) + 1)), d, ?_, hr, fun q => Nat.le_refl _, fun _ hn => ?_⟩
      · simp only [l_Order__reckon_1, execs, e1, seqS_nx]
        unfold rkE
        generalize hS : oS rows K d = S at f2 m1 m2 cl e2 ⊢
        generalize T - tot rows.length d = T'
        simp only [exec, evalT, evalE, evalEs, List.getElem?_cons_succ, List.getElem?_cons_zero, bnd_ok, lr, okO_some, cmpD_le, c1, decide_true, m1, if_true, binD_sub, Cst.d, ei, ea, callP_f, e2, truD_bl, bnS_ok, execs, seqS_nx]
      · obtain ⟨e', he', hs⟩ := hn
        rw [he] at he'
        cases he'
        cases hb.mpr fun l cs z => hs l cs z
  · have c1 : ¬ (d p : Int) + 1 ≤ (lens rows p : Int) := by omega
    refine ⟨some (.int ((d p : Int) + 1)), d, ?_, hr, fun q => Nat.le_refl _, fun _ hn => ?_⟩
    · simp only [l_Order__reckon_1, execs, e1, seqS_nx]
      unfold rkE
      generalize hS : oS rows K d = S at f2 m1 m2 cl ⊢
      generalize T - tot rows.length d = T'
      simp only [exec, evalT, evalE, evalEs, List.getElem?_cons_succ, List.getElem?_cons_zero, bnd_ok, lr, okO_some, cmpD_le, c1, decide_false, bnS_ok, execs, seqS_nx]
    · obtain ⟨e', he', _⟩ := hn
      exact c (List.getElem?_eq_some_iff.mp he').1
theorem rk_pass (k : Nat) {rows : Rn} (hR : Rnn rows) {K : Clk} (hK : IsClk rows K) (T : Int) : ∀ (rs : Rn) (j : Nat), rows.drop j = rs → ∀ (d : Nat → Nat) (v2 v3 v4 : Option D), Reach rows d →
    ∃ d' b2 b3 b4, forL (.t (.cons (.n 3) (.cons (.n 2) .nil))) (fun e S => execs (C (k + 2)) T0 l_Order__reckon_1 e S) (enF j (rs.map rowD)) (rkE rows T d v2 v3 v4) (oS rows K d) =
      some (.nx (rkE rows T d' b2 b3 b4) (oS rows K d')) ∧ Reach rows d' ∧ (∀ q, d q ≤ d' q) ∧ (d' = d → ∀ p, j ≤ p → ¬ Nxt rows d p)
  | [], j, hj, d, v2, v3, v4, hr => by
    refine ⟨d, v2, v3, v4, by simp [enF, forL], hr, fun q => Nat.le_refl _, fun _ p hp hn => ?_⟩
    have := en_lt hn
    have l := congrArg List.length hj
    rw [List.length_drop, List.length_nil] at l
    omega
  | r :: rs, j, hj, d, v2, v3, v4, hr => by
    have hjl : j < rows.length := by
      have l := congrArg List.length hj
      rw [List.length_drop, List.length_cons] at l
      omega
    have hrj : rowD r = rowO rows j := by
      have := List.drop_eq_getElem_cons hjl
      rw [hj] at this
      rw [rowO, List.getD_eq_getElem?_getD, List.getElem?_eq_getElem hjl, (List.cons.inj this).1]; rfl
    have hrs : rows.drop (j + 1) = rs := by
      have := List.drop_eq_getElem_cons hjl
      rw [hj] at this
      exact (List.cons.inj this).2.symm
    obtain ⟨b4, d1, e1, r1, l1, n1⟩ := rk_turn k hR hK T hr hjl v4
    obtain ⟨d2, c2, c3, c4, e2, r2, l2, n2⟩ := rk_pass k hR hK T rs (j + 1) hrs d1 (some (rowO rows j)) (some (.int (j : Int))) b4 r1
    refine ⟨d2, c2, c3, c4, ?_, r2, fun q => Nat.le_trans (l1 q) (l2 q), fun z p hp hn => ?_⟩
    · rw [List.map_cons, enF, hrj]
      have as : asgT (.t (.cons (.n 3) (.cons (.n 2) .nil))) (.tup [.int (j : Int), rowO rows j]) (rkE rows T d v2 v3 v4) = some (rkE rows T d (some (rowO rows j)) (some (.int (j : Int))) v4) := rfl
      simp only [forL, as, e1]
      exact e2
    · have z1 : d1 = d := funext fun q => Nat.le_antisymm (by have := l2 q; have e := congrFun z q; omega) (l1 q)
      have z2 : d2 = d1 := by rw [z, z1]
      by_cases c : p = j
      · subst c; exact n1 z1 hn
      · exact n2 z2 p (by omega) (by rw [z1]; exact hn)
theorem rk_loop (k : Nat) {rows : Rn} (hR : Rnn rows) {K : Clk} (hK : IsClk rows K) : ∀ (m : Nat) (d : Nat → Nat) (v2 v3 v4 : Option D), tot rows.length (lens rows) - tot rows.length d = m → Reach rows d →
    ∃ b2 b3 b4, lfp (whlStep (fun e S => evalT (C (k + 2)) T0 w_Order__reckon_1 e S) (fun e S => execs (C (k + 2)) T0 l_Order__reckon_2 e S)) (rkE rows (tot rows.length (lens rows)) d v2 v3 v4, oS rows K d) =
      some (.nx (rkE rows (tot rows.length (lens rows)) (lens rows) b2 b3 b4) (oS rows K (lens rows))) := by
  intro m
  induction m using Nat.strongRecOn with
  | _ m ih =>
    intro d v2 v3 v4 hm hr
    have a := tot_mono (d' := lens rows) hr.le_len rows.length
    have t1 : evalT (C (k + 2)) T0 w_Order__reckon_1 (rkE rows (tot rows.length (lens rows)) d v2 v3 v4) (oS rows K d) = some (.ok (decide ((0 : Int) < (tot rows.length (lens rows) : Int) - tot rows.length d)) (oS rows K d)) := by
      unfold rkE
      generalize oS rows K d = S
      generalize (tot rows.length (lens rows) : Int) - tot rows.length d = T'
      simp [w_Order__reckon_1]
    rw [lfp_eq]
    by_cases c : tot rows.length d = tot rows.length (lens rows)
    · have e : d = lens rows := funext ((full_iff hr).mpr c)
      subst e
      refine ⟨v2, v3, v4, ?_⟩
      rw [decide_eq_false (by omega)] at t1
      simp only [whlStep, t1]
    · rw [decide_eq_true (by omega)] at t1
      obtain ⟨d1, b2, b3, b4, e1, r1, l1, n1⟩ := rk_pass k hR hK (tot rows.length (lens rows)) rows 0 rfl d v2 v3 v4 hr
      have ne : d1 ≠ d := fun z => by
        have st := n1 z
        exact c ((full_iff hr).mp ((poss_stuck hr fun p => st p (Nat.zero_le _)).mp hR.po))
      have b := tot_mono (d' := lens rows) r1.le_len rows.length
      have lt : tot rows.length d < tot rows.length d1 := by
        have h1 := tot_mono l1 rows.length
        refine Nat.lt_of_le_of_ne h1 fun z => ne ?_
        funext q
        by_cases hq : q < rows.length
        · exact (tot_eq l1 (n := rows.length) z q hq).symm
        · have z1 := r1.le_len q
          have z2 := hr.le_len q
          have e0 : (rows.getD q []) = [] := by rw [List.getD_eq_getElem?_getD, List.getElem?_eq_none (by omega)]; rfl
          rw [e0] at z1 z2
          simp at z1 z2
          omega
      obtain ⟨c2, c3, c4, e2⟩ := ih _ (by omega) d1 b2 b3 b4 rfl r1
      refine ⟨c2, c3, c4, ?_⟩
      have fr := fld_run (rows := rows) (K := K) (d := d)
      have st : execs (C (k + 2)) T0 l_Order__reckon_2 (rkE rows (tot rows.length (lens rows)) d v2 v3 v4) (oS rows K d) = some (.nx (rkE rows (tot rows.length (lens rows)) d1 b2 b3 b4) (oS rows K d1)) := by
        have g0 : (rkE rows (tot rows.length (lens rows)) d v2 v3 v4)[0]? = some (some (.ref 0)) := rfl
        simp only [l_Order__reckon_2, execs, exec, evalI, evalE, g0, bnd_ok, fr, okO_some, rnD, bnS_ok, e1, seqS_nx]
      simp only [whlStep, t1, st]
      exact e2
theorem reckon_ok (k : Nat) {rows : Rn} (hR : Rnn rows) {K : Clk} (hK : IsClk rows K) : C (k + 3) i_Order__reckon [.ref 0] (oS rows K fun _ => 0) = some (.ok .non (oS rows K (lens rows))) := by
  rw [c_Order__reckon]
  obtain ⟨b2, b3, b4, e1⟩ := rk_loop k hR hK _ (fun _ => 0) none none none rfl .zero
  have z0 : tot rows.length (fun _ => 0) = 0 := by
    have := tot_le (n := rows.length) (d := fun _ => 0) (m := 0) (fun _ => Nat.le_refl _)
    omega
  have fr := fld_run (rows := rows) (K := K) (d := fun _ => 0)
  have lc : evalE (C (k + 2)) T0 k_Order__reckon_1 [some (.ref 0), none, none, none, none] (oS rows K fun _ => 0) = some (.ok (.lst ((rows.map fun r => (r.length : Int)).map .int)) (oS rows K fun _ => 0)) := by
    generalize (oS rows K fun _ => 0) = S at fr ⊢
    unfold k_Order__reckon_1
    rw [lc_no (S := S) (xs := rows.map rowD) (fun d => match d with
      | .tup xs => .int xs.length
      | _ => .non)]
    · simp only [mkL_f, List.map_map]
      congr 3
      refine List.map_congr_left fun r _ => ?_
      simp [rowD]
    · simp only [evalI, evalE, List.getElem?_cons_zero, bnd_ok, fr, okO_some, rnD, itD_tup]
    · rw [PySem.sizeLine_eq, List.length_map]; have := hR.small.1; omega
    · intro y hy
      obtain ⟨r, _, rfl⟩ := List.mem_map.mp hy
      simp [e_Order__reckon_1, rowD]
  have e0 : exec (C (k + 2)) T0 (.asg (.n 1) (.bi .sum (.cons k_Order__reckon_1 .nil))) [some (.ref 0), none, none, none, none] (oS rows K fun _ => 0) = some (.nx (rkE rows (tot rows.length (lens rows)) (fun _ => 0) none none none) (oS rows K fun _ => 0)) := by
    unfold rkE
    rw [z0, exec]
    generalize (oS rows K fun _ => 0) = S at lc ⊢
    simp only [evalE, evalEs, lc, bnd_ok, biD_sum, sum_lens, okO_some, bnS_ok, asg_n, List.set_cons_succ, List.set_cons_zero]
    simp
  have e2 : exec (C (k + 2)) T0 (.whl w_Order__reckon_1 l_Order__reckon_2) (rkE rows (tot rows.length (lens rows)) (fun _ => 0) none none none) (oS rows K fun _ => 0) = some (.nx (rkE rows (tot rows.length (lens rows)) (lens rows) b2 b3 b4) (oS rows K (lens rows))) := e1
  simp only [b_Order__reckon, execs, e0, e2, seqS_nx, outS_nx]
end Lk
namespace Lk
open PyProof.Rows L2 Ip
/-! ### the constructor -/
theorem asgA_0 {Γ : Gam} {f : PySem.Str} {x : Ex} {env : Ip.En} {S : Sto} {d : D} {ns : List PySem.Str} {vs : List D} {R : Sto} (h0 : env[0]? = some (some (.ref 0))) (hx : evalE Γ T0 x env S = some (.ok d (.ins 0 ns vs :: R))) (hl : ns.length < 1000) :
    exec Γ T0 (.asgA 0 (.v 0) f x) env S = some (.nx env (.ins 0 (putA f d ns vs).1 (putA f d ns vs).2 :: R)) := by
  have g : (Ob.ins 0 ns vs :: R)[0]? = some (.ins 0 ns vs) := rfl
  simp only [exec, hx, bnS_ok, evalE, h0, g]
  rw [if_pos ⟨trivial, hl⟩]
  rfl
theorem ref_loop (k : Nat) (n : Nat) (d : D) (hd : ∀ S, biD .len [d] S = some (.int (n : Int))) (hn : n ≤ 1000) (I : Ob) (v0 v2 v3 : Option D) : ∀ (xs : List D) (R : Sto) (acc : List D),
    lcLoop (fun x S => match asgT (.n 3) x (wipeE [v0, some d, v2, v3] [3]) with
      | some env1 => bnd (evalC (C k) T0 .no env1 S) fun b S2 => match b with
        | true => bnd (evalE (C k) T0 e_Order___init___1 env1 S2) fun y S3 => some (.ok (some y) S3)
        | false => some (.ok none S2)
      | none => none) xs (I :: R) acc = some (.ok (acc ++ (List.range xs.length).map fun i => .ref (R.length + i + 1)) (I :: (R ++ List.replicate xs.length (.lst [tupN (List.replicate n 0)]))))
  | [], R, acc => by simp [lcLoop]
  | x :: xs, R, acc => by
    have mu : ∀ S : Sto, binD .mul false (.tup [.int 0]) (.int (n : Int)) S = some (.ok (tupN (List.replicate n 0)) S) := fun S => by
      show (@ite (Option (Ro D)) _ (Classical.propDecidable _) (some (Ro.ok (D.tup (List.replicate (n : Int).toNat [D.int 0]).flatten) S)) none) = _
      rw [if_pos ⟨by simp, by omega, by omega⟩, Int.toNat_natCast]
      congr 3
      induction n with
      | zero => rfl
      | succ n ih =>
        rw [List.replicate_succ, List.flatten_cons, List.replicate_succ, List.map_cons]
        have : (List.replicate n [D.int 0]).flatten = (List.replicate n 0).map fun x : Nat => D.int x := by
          clear ih hd hn
          induction n with
          | zero => rfl
          | succ n ih => rw [List.replicate_succ, List.flatten_cons, ih]; rfl
        rw [this]; rfl
    have ev : evalE (C k) T0 e_Order___init___1 [v0, some d, v2, some x] (I :: R) = some (.ok (.ref (R.length + 1)) (I :: (R ++ [.lst [tupN (List.replicate n 0)]]))) := by
      unfold e_Order___init___1
      simp only [evalE, evalEs, List.getElem?_cons_succ, List.getElem?_cons_zero, Cst.d, List.length_cons, List.length_nil, PySem.sizeLine_eq, bnd_ok]
      rw [if_pos (by decide)]
      simp only [bnd_ok, hd, okO_some, mu, List.length_cons, List.length_nil]
      rw [if_pos (by decide)]
      rfl
    rw [lcL_step (y := .ref (R.length + 1)) (S1 := I :: (R ++ [.lst [tupN (List.replicate n 0)]])) (by
      have as : asgT (.n 3) x (wipeE [v0, some d, v2, v3] [3]) = some [v0, some d, v2, some x] := rfl
      simp only [as, evalC, bnd_ok, ev])]
    refine (ref_loop k n d hd hn I v0 v2 v3 xs (R ++ [Ob.lst [tupN (List.replicate n 0)]]) _).trans ?_
    rw [List.length_append, List.length_singleton, List.length_cons, List.range_succ_eq_map, List.map_cons, List.map_map, List.replicate_succ, List.append_assoc, List.append_assoc]
    congr 3
    · congr 1
      show [_] ++ _ = _ :: _
      rw [List.singleton_append]
      congr 1
      refine List.map_congr_left fun i _ => ?_
      simp only [Function.comp]
      congr 1
      omega
theorem init_env {rows : Rn} {K : Clk} (hK : IsClk rows K) : (Ob.ins 0 oNm (oV rows) :: List.replicate rows.length (Ob.lst [tupN (List.replicate rows.length 0)])) = oS rows K fun _ => 0 := by
  unfold oS
  congr 1
  refine List.ext_getElem? fun p => ?_
  rw [List.getElem?_replicate, List.getElem?_map]
  by_cases h : p < rows.length
  · rw [if_pos h, List.getElem?_range h]
    show some (Ob.lst [tupN (List.replicate rows.length 0)]) = some (Ob.lst [tupN (K p 0)])
    rw [hK.zero p]
  · rw [if_neg h, List.getElem?_eq_none (by simp; omega)]; rfl
theorem Rnn.isRun {rows : Rn} (h : Rnn rows) : IsRun (rnD rows) := ⟨h.bb, fun rows' e => by
  rw [← rnD_inj e]
  exact ⟨h.lo, h.po⟩⟩
theorem IsRun.rnn {d : D} (h : IsRun d) : ∃ rows, d = rnD rows ∧ Rnn rows := by
  obtain ⟨rows, rfl, sh⟩ := shB_rn h.1
  obtain ⟨h1, h2⟩ := h.2 rows rfl
  exact ⟨rows, rfl, h.1, sh, h1, h2⟩
theorem init_ok (k n : Nat) (hn : n + 3 ≤ 64) {rows : Rn} (hd : dat (n + 5) (rnD rows) = true) (hR : Rnn rows) {K : Clk} (hK : IsClk rows K) :
    C (k + 6) i_Order___init__ [.ref 0, rnD rows] [.ins 0 [] []] = some (.ok .non (oS rows K (lens rows))) := by
  rw [c_Order___init__]
  obtain ⟨b, e0, hb⟩ := is_run_ok k n hn (rnD rows) hd []
  have hb : b = true := hb.mpr hR.isRun
  subst hb
  have e0 := callP_t (S := [.ins 0 [] []]) (by simp only [pures, rn_pure, Bool.and_true]) e0 rfl
  have hn6 := hR.small.1
  have x0 : exec (C (k + 5)) T0 (.ifs (.not (.call i_is_run true (.cons (.v 1) .nil))) (.cons (.raise 1) .nil) .nil) [some (.ref 0), some (rnD rows), none, none] [.ins 0 [] []] = some (.nx [some (.ref 0), some (rnD rows), none, none] [.ins 0 [] []]) := by
    simp [e0]
  have x1 : exec (C (k + 5)) T0 (.asgA 0 (.v 0) "_run" (.v 1)) [some (.ref 0), some (rnD rows), none, none] [.ins 0 [] []] = some (.nx [some (.ref 0), some (rnD rows), none, none] [.ins 0 ["_run"] [rnD rows]]) :=
    (asgA_0 (d := rnD rows) (ns := []) (vs := []) (R := []) rfl (by simp only [evalE, List.getElem?_cons_succ, List.getElem?_cons_zero]) (by decide)).trans rfl
  have y2 : evalE (C (k + 5)) T0 k_Order___init___2 [some (.ref 0), some (rnD rows), none, none] [.ins 0 ["_run"] [rnD rows]] = some (.ok (.lst (rows.map stD)) [.ins 0 ["_run"] [rnD rows]]) := by
    unfold k_Order___init___2
    rw [lc_no (S := [.ins 0 ["_run"] [rnD rows]]) (xs := rows.map rowD) (fun d => match d with
      | .tup xs => (match (C (k + 5)) i_states_of [d] [] with
        | some (.ok r _) => r
        | _ => .non)
      | _ => .non)]
    · rw [mkL_f, List.map_map]
      congr 3
      refine List.map_congr_left fun r hr => ?_
      obtain ⟨S', e⟩ := states_of_ok (k + 4) r (hR.sh.2 r hr).2 (by have := (hR.sh.2 r hr).1; omega)
      show (match (C (k + 5)) i_states_of [rowD r] [] with
        | some (.ok r _) => r
        | _ => .non) = _
      rw [e]
    · simp [rnD]
    · rw [PySem.sizeLine_eq, List.length_map]; omega
    · intro y hy
      obtain ⟨r, hr, rfl⟩ := List.mem_map.mp hy
      obtain ⟨S', e⟩ := states_of_ok (k + 4) r (hR.sh.2 r hr).2 (by have := (hR.sh.2 r hr).1; omega)
      have e2 := callP_t (S := [.ins 0 ["_run"] [rnD rows]]) (by simp only [pures, rowD, D.pure, evs_pure, Bool.and_true]) e (by rw [stD, D.pure, tupI_pures])
      have m : (match rowD r with
        | .tup xs => (match (C (k + 5)) i_states_of [rowD r] [] with
          | some (.ok r _) => r
          | _ => .non)
        | _ => .non) = stD r := by
        show (match (C (k + 5)) i_states_of [rowD r] [] with
          | some (.ok r _) => r
          | _ => .non) = _
        rw [e]
      rw [m]
      unfold e_Order___init___2
      have g : ((wipeE [some (D.ref 0), some (rnD rows), none, none] ([(("row" : PySem.Str), 2)].map (·.2))).set 2 (some (rowD r)))[2]? = some (some (rowD r)) := rfl
      simp only [evalE, evalEs, g, bnd_ok]
      exact e2
  have x2 : exec (C (k + 5)) T0 (.asgA 0 (.v 0) "_states" k_Order___init___2) [some (.ref 0), some (rnD rows), none, none] [.ins 0 ["_run"] [rnD rows]] = some (.nx [some (.ref 0), some (rnD rows), none, none] [.ins 0 ["_run", "_states"] [rnD rows, .lst (rows.map stD)]]) := by
    rw [asgA_0 rfl y2 (by decide)]
    simp [putA]
  have pl : ∀ b S, evalE (C (k + 5)) T0 (.call i_places_of true (.cons (.v 1) (.cons (.c (.str (kindS b))) .nil))) [some (.ref 0), some (rnD rows), none, none] S = some (.ok (pD (plS b 0 rows)) S) := fun b S => by
    obtain ⟨S', e⟩ := places_of_ok (k + 4) b rows hR.small (hR.lo.nd b)
    have e2 := callP_t (S := S) (by simp only [pures, rn_pure, Bool.and_true, D.pure]) e (by rw [pD, D.pure, kK_pures, kV_pures]; rfl)
    simp only [evalE, evalEs, List.getElem?_cons_succ, List.getElem?_cons_zero, bnd_ok, Cst.d]
    exact e2
  have pls : ∀ S, evalE (C (k + 5)) T0 (.call i_places_of true (.cons (.v 1) (.cons (.c (.str "send")) .nil))) [some (.ref 0), some (rnD rows), none, none] S = some (.ok (pD (plS true 0 rows)) S) := pl true
  have plt : ∀ S, evalE (C (k + 5)) T0 (.call i_places_of true (.cons (.v 1) (.cons (.c (.str "take")) .nil))) [some (.ref 0), some (rnD rows), none, none] S = some (.ok (pD (plS false 0 rows)) S) := pl false
  have x3 : exec (C (k + 5)) T0 (.asgA 0 (.v 0) "_sends" (.call i_places_of true (.cons (.v 1) (.cons (.c (.str "send")) .nil)))) [some (.ref 0), some (rnD rows), none, none] [.ins 0 ["_run", "_states"] [rnD rows, .lst (rows.map stD)]] = some (.nx [some (.ref 0), some (rnD rows), none, none] [.ins 0 ["_run", "_states", "_sends"] [rnD rows, .lst (rows.map stD), pD (plS true 0 rows)]]) := by
    rw [asgA_0 rfl (pls _) (by decide)]
    simp [putA]
  have x4 : exec (C (k + 5)) T0 (.asgA 0 (.v 0) "_takes" (.call i_places_of true (.cons (.v 1) (.cons (.c (.str "take")) .nil)))) [some (.ref 0), some (rnD rows), none, none] [.ins 0 ["_run", "_states", "_sends"] [rnD rows, .lst (rows.map stD), pD (plS true 0 rows)]] = some (.nx [some (.ref 0), some (rnD rows), none, none] [.ins 0 ["_run", "_states", "_sends", "_takes"] [rnD rows, .lst (rows.map stD), pD (plS true 0 rows), pD (plS false 0 rows)]]) := by
    rw [asgA_0 rfl (plt _) (by decide)]
    simp [putA]
  have x5 : exec (C (k + 5)) T0 (.asgA 0 (.v 0) "_clocks" k_Order___init___1) [some (.ref 0), some (rnD rows), none, none] [.ins 0 ["_run", "_states", "_sends", "_takes"] [rnD rows, .lst (rows.map stD), pD (plS true 0 rows), pD (plS false 0 rows)]] = some (.nx [some (.ref 0), some (rnD rows), none, none] (oS rows K fun _ => 0)) := by
    have lo := ref_loop (k + 5) rows.length (rnD rows) (fun S => by rw [rnD, biD_lenT, List.length_map]) (by omega) (.ins 0 ["_run", "_states", "_sends", "_takes"] [rnD rows, .lst (rows.map stD), pD (plS true 0 rows), pD (plS false 0 rows)]) (some (.ref 0)) none none (rows.map rowD) [] []
    rw [List.nil_append, List.nil_append, List.length_map] at lo
    have ev : evalE (C (k + 5)) T0 k_Order___init___1 [some (.ref 0), some (rnD rows), none, none] [.ins 0 ["_run", "_states", "_sends", "_takes"] [rnD rows, .lst (rows.map stD), pD (plS true 0 rows), pD (plS false 0 rows)]] =
        some (.ok (.lst (refs1 rows.length)) (.ins 0 ["_run", "_states", "_sends", "_takes"] [rnD rows, .lst (rows.map stD), pD (plS true 0 rows), pD (plS false 0 rows)] :: List.replicate rows.length (.lst [tupN (List.replicate rows.length 0)]))) := by
      unfold k_Order___init___1
      rw [evalE]
      have it : itD (rnD rows) = some (rows.map rowD) := rfl
      simp only [evalI, evalE, List.getElem?_cons_succ, List.getElem?_cons_zero, bnd_ok, it, okO_some]
      rw [if_pos (by rw [List.length_map, PySem.sizeLine_eq]; omega)]
      refine (congrArg (fun z => bnd z fun ys S2 => mkL false ys S2) lo).trans ?_
      rw [bnd_ok, mkL_f]
      congr 3
      unfold refs1
      refine List.map_congr_left fun i _ => ?_
      simp
    rw [asgA_0 rfl ev (by decide), ← init_env hK]
    simp [putA, oNm, oV]
  have rk := reckon_ok (k + 2) hR hK
  have mr := mth_reckon (rows := rows) (K := K) (d := fun _ => 0)
  have x6 : exec (C (k + 5)) T0 (.ex (.mcl 0 i_Order__reckon "_reckon" false (.v 0) .nil)) [some (.ref 0), some (rnD rows), none, none] (oS rows K fun _ => 0) = some (.nx [some (.ref 0), some (rnD rows), none, none] (oS rows K (lens rows))) := by
    rw [exec]
    simp only [evalE, evalEs, List.getElem?_cons_zero, bnd_ok, mr, if_true, callP_f]
    rw [show k + 5 = k + 2 + 3 from rfl, rk]
    rfl
  simp only [b_Order___init__, execs, x0, x1, x2, x3, x4, x5, x6, seqS_nx, outS_nx]
/-! the object, standing still -/
def ckD (rows : Rn) (K : Clk) : D := .lst ((List.range rows.length).map fun p => .lst (ckL K p (lens rows p + 1)))
def ordD (rows : Rn) (K : Clk) : D := .obj 0 oNm [rnD rows, .lst (rows.map stD), pD (plS true 0 rows), pD (plS false 0 rows), ckD rows K]
theorem ckL_pures (K : Clk) (p : Nat) : ∀ m, pures (ckL K p m) = true := by
  intro m
  unfold ckL
  induction (List.range m) with
  | nil => rfl
  | cons i l ih => rw [List.map_cons, pures, ih, tupN_pure]; rfl
theorem ckD_pure (rows : Rn) (K : Clk) : (ckD rows K).pure = true := by
  rw [ckD, D.pure]
  induction (List.range rows.length) with
  | nil => rfl
  | cons i l ih => rw [List.map_cons, pures, ih, D.pure, ckL_pures]; rfl
theorem stDs_pure (rows : Rn) : pures (rows.map stD) = true := by
  induction rows with
  | nil => rfl
  | cons r l ih => rw [List.map_cons, pures, ih, stD, D.pure, tupI_pures]; rfl
theorem pD_pure (l : List Pl) : (pD l).pure = true := by rw [pD, D.pure, kK_pures, kV_pures]; rfl
theorem ordD_pure (rows : Rn) (K : Clk) : (ordD rows K).pure = true := by
  rw [ordD, D.pure]
  simp only [pures, rn_pure, pD_pure, ckD_pure, Bool.and_true, Bool.true_and, D.pure, stDs_pure]
theorem map_refs (j : Nat) (g : Nat → List D) (hg : ∀ p, pures (g p) = true) : ∀ (ps : List Nat) (S : Sto), ps.Nodup → (∀ p ∈ ps, S[p + 1]? = some (.lst (g p))) →
    ∃ S', mapF (frz (j + 2)) (ps.map fun p => D.ref (p + 1)) S = some (ps.map fun p => .lst (g p), S') ∧ S'[0]? = S[0]?
  | [], S, _, _ => ⟨S, rfl, rfl⟩
  | p :: ps, S, nd, h => by
    rw [List.nodup_cons] at nd
    have h1 := h p (List.mem_cons_self ..)
    obtain ⟨S', e, h0⟩ := map_refs j g hg ps (S.set (p + 1) .dead) nd.2 (fun q hq => by
      have : p + 1 ≠ q + 1 := fun z => nd.1 (by
        have : p = q := by omega
        rw [this]; exact hq)
      rw [List.getElem?_set_ne this]
      exact h q (List.mem_cons_of_mem _ hq))
    refine ⟨S', ?_, ?_⟩
    · have e1 : frz (j + 2) (.ref (p + 1)) S = some (.lst (g p), S.set (p + 1) .dead) := by
        rw [frz]
        simp only [h1, mapF_pure j S (g p) (hg p)]
      rw [List.map_cons, mapF, e1]
      simp only
      rw [e]
      rfl
    · rw [h0, List.getElem?_set_ne (by omega)]
theorem frz_ord (rows : Rn) (K : Clk) : ∃ S', frz 9 (.ref 0) (oS rows K (lens rows)) = some (ordD rows K, S') := by
  obtain ⟨S', e, h0⟩ := map_refs 5 (fun p => ckL K p (lens rows p + 1)) (fun p => ckL_pures K p _) (List.range rows.length) (oS rows K (lens rows)) List.nodup_range (fun p hp => oS_at (List.mem_range.mp hp))
  have z0 : (oS rows K (lens rows))[0]? = some (.ins 0 oNm (oV rows)) := rfl
  rw [z0] at h0
  refine ⟨S'.set 0 .dead, ?_⟩
  have f5 : frz 8 (.lst (refs1 rows.length)) (oS rows K (lens rows)) = some (ckD rows K, S') ∨ (refs1 rows.length = [] ∧ rows = []) := by
    by_cases hr : rows = []
    · exact .inr ⟨by rw [hr]; rfl, hr⟩
    · left
      rw [frz]
      have np : pures (refs1 rows.length) = false := by
        cases rows with
        | nil => exact absurd rfl hr
        | cons r rs =>
          unfold refs1
          rw [List.length_cons, List.range_succ_eq_map, List.map_cons, pures]
          rfl
      rw [if_neg (by rw [np]; decide)]
      have e' : mapF (frz 7) (refs1 rows.length) (oS rows K (lens rows)) = _ := e
      rw [e']
      rfl
  have mv : mapF (frz 8) (oV rows) (oS rows K (lens rows)) = some ([rnD rows, .lst (rows.map stD), pD (plS true 0 rows), pD (plS false 0 rows), ckD rows K], S') ∨ rows = [] := by
    rcases f5 with f5 | ⟨_, f5⟩
    · left
      unfold oV
      simp only [mapF, frz_pure 7 _ _ (rn_pure rows), frz_pure 7 _ _ (show (D.lst (rows.map stD)).pure = true by rw [D.pure, stDs_pure]), frz_pure 7 _ _ (pD_pure _), f5]
    · exact .inr f5
  rcases mv with mv | rfl
  · rw [frz]
    simp only [z0, mv, h0]
    rfl
  · have : S' = oS [] K (lens []) := by
      have e' : some (([] : List D), oS [] K (lens [])) = some ([], S') := e
      injection e' with e'
      injection e' with _ e'
      exact e'.symm
    subst this
    rfl
/-- Order(run), a run -/
theorem order_ok (k n : Nat) (hn : n + 3 ≤ 64) {rows : Rn} (hd : dat (n + 5) (rnD rows) = true) (hR : Rnn rows) {K : Clk} (hK : IsClk rows K) (S : Sto) : mkC (C (k + 6)) i_Order___init__ 0 false [rnD rows] S = some (.ok (ordD rows K) S) := by
  have e := init_ok k n hn hd hR hK
  obtain ⟨S', f⟩ := frz_ord rows K
  have m : mkR (C (k + 6)) i_Order___init__ 0 true [rnD rows] [] = some (.ok (ordD rows K) S') := by
    unfold mkR
    have e' : C (k + 6) i_Order___init__ (.ref ([] : Sto).length :: [rnD rows]) (([] : Sto) ++ [.ins 0 [] []]) = some (.ok .non (oS rows K (lens rows))) := e
    rw [e', bnd_ok]
    have f' : frz 9 (.ref ([] : Sto).length) (oS rows K (lens rows)) = _ := f
    simp only [f']
  unfold mkC
  simp only [pures, rn_pure, Bool.and_true, if_true, m, ordD_pure]
theorem order_no (k n : Nat) (hn : n + 3 ≤ 64) {d : D} (hd : dat (n + 5) d = true) (h : ¬ IsRun d) (S : Sto) : mkC (C (k + 6)) i_Order___init__ 0 false [d] S = some (.ex 1 S) := by
  have dp := dat_pure _ d hd
  obtain ⟨b, e0, hb⟩ := is_run_ok k n hn d hd []
  have hb : b = false := by
    cases b with
    | false => rfl
    | true => exact absurd (hb.mp rfl) h
  subst hb
  have e0 := callP_t (S := [.ins 0 [] []]) (by simp only [pures, dp, Bool.and_true]) e0 rfl
  have e : C (k + 6) i_Order___init__ [.ref 0, d] [.ins 0 [] []] = some (.ex 1 [.ins 0 [] []]) := by
    rw [c_Order___init__]
    have x0 : exec (C (k + 5)) T0 (.ifs (.not (.call i_is_run true (.cons (.v 1) .nil))) (.cons (.raise 1) .nil) .nil) [some (.ref 0), some d, none, none] [.ins 0 [] []] = some (.ex 1 [some (.ref 0), some d, none, none] [.ins 0 [] []]) := by
      simp [e0]
    simp only [b_Order___init__, execs, x0, seqS_ex, outS_ex]
  have m : mkR (C (k + 6)) i_Order___init__ 0 true [d] [] = some (.ex 1 [.ins 0 [] []]) := by
    unfold mkR
    have e' : C (k + 6) i_Order___init__ (.ref ([] : Sto).length :: [d]) (([] : Sto) ++ [.ins 0 [] []]) = some (.ex 1 [.ins 0 [] []]) := e
    rw [e', bnd_ex]
  unfold mkC
  simp only [pures, dp, Bool.and_true, if_true, m]
end Lk
namespace Lk
open PyProof.Rows L2 Ip
/-! ### drawn changes are changes -/
theorem lt_one {a b : Nat} : ltS (mk [a]) (mk [b]) = decide (a < b) := by
  unfold ltS
  rw [decide_eq_decide]
  show [a] < [b] ↔ a < b
  rw [List.cons_lt_cons_iff]
  constructor
  · rintro (h | ⟨_, h⟩)
    · exact h
    · exact absurd h (List.not_lt_nil _)
  · exact .inl
theorem lt_nil {b : Nat} : ltS "" (mk [b]) = true := by
  unfold ltS
  exact decide_eq_true (List.nil_lt_cons _ _)
theorem chg_of : ∀ (cs : List Ch) (last : PySem.Str), (∀ q ∈ cs, chOk q) → (cs.map (·.1)).Pairwise (· < ·) → (∀ q ∈ cs, ltS last (mk [q.1]) = true) → chg last (cs.map chD) = true
  | [], _, _, _, _ => rfl
  | q :: cs, last, h, hp, hl => by
    rw [List.map_cons, List.pairwise_cons] at hp
    have hq := h q (List.mem_cons_self ..)
    have ih := chg_of cs (mk [q.1]) (fun z hz => h z (List.mem_cons_of_mem _ hz)) hp.2 (fun z hz => by
      rw [lt_one]
      exact decide_eq_true (hp.1 z.1 (List.mem_map.mpr ⟨z, hz, rfl⟩)))
    have l1 := hl q (List.mem_cons_self ..)
    have v1 : varC (mk [q.1]) = true := decide_eq_true (p := 97 ≤ q.1 ∧ q.1 ≤ 100) hq.1
    have i1 : isInt (.int q.2) (-1000) 1000 = true := by
      obtain ⟨_, h1, h2⟩ := hq
      simp [isInt, h1, h2]
    have nx : chgNext last (chD q) = some (mk [q.1]) := by
      show (if varC (mk [q.1]) && (ltS last (mk [q.1]) && isInt (.int q.2) (-1000) 1000) then some (mk [q.1]) else none) = _
      rw [v1, l1, i1]; rfl
    rw [List.map_cons, chg, nx]
    exact ih
/-- changes as the document wants them -/
def CsOk (cs : List Ch) : Prop := (∀ q ∈ cs, chOk q) ∧ (cs.map (·.1)).Pairwise (· < ·) ∧ cs.length ≤ 4
theorem CsOk.chg {cs : List Ch} (h : CsOk cs) : isChg (csD cs) = true := chg_of cs "" h.1 h.2.1 fun _ _ => lt_nil
/-! ### rows of events that grow -/
def addE (rows : Rn) (p : Nat) (e : Ev) : Rn := rows.set p (rows.getD p [] ++ [e])
theorem addE_len {rows : Rn} {p : Nat} {e : Ev} : (addE rows p e).length = rows.length := by simp [addE]
theorem getD_add {rows : Rn} {p : Nat} {e : Ev} (hp : p < rows.length) (q : Nat) : (addE rows p e).getD q [] = if q = p then rows.getD p [] ++ [e] else rows.getD q [] := by
  unfold addE
  rw [List.getD_eq_getElem?_getD]
  by_cases h : q = p
  · subst h
    rw [if_pos rfl, List.getElem?_set_self hp]
    rfl
  · rw [if_neg h, List.getElem?_set_ne (fun z => h z.symm), ← List.getD_eq_getElem?_getD]
theorem evAt_add {rows : Rn} {p : Nat} {e : Ev} (hp : p < rows.length) {q i : Nat} {x : Ev} (h : evAt rows q i = some x) : evAt (addE rows p e) q i = some x := by
  unfold evAt at h ⊢
  rw [getD_add hp]
  split
  · rename_i hq
    subst hq
    rw [List.getElem?_append_left (List.getElem?_eq_some_iff.mp h).1]
    exact h
  · exact h
theorem evAt_new {rows : Rn} {p : Nat} {e : Ev} (hp : p < rows.length) : evAt (addE rows p e) p (rows.getD p []).length = some e := by
  unfold evAt
  rw [getD_add hp, if_pos rfl, List.getElem?_append_right (Nat.le_refl _), Nat.sub_self]
  rfl
theorem Reach.add {rows : Rn} {p : Nat} {e : Ev} (hp : p < rows.length) {d : Nat → Nat} (h : Reach rows d) : Reach (addE rows p e) d := by
  induction h with
  | zero => exact .zero
  | step r en ih =>
    obtain ⟨x, hx, ht⟩ := en
    refine .step ih ⟨x, evAt_add hp hx, fun l cs z => ?_⟩
    obtain ⟨q, i, cs', hi, hs⟩ := ht l cs z
    exact ⟨q, i, cs', hi, evAt_add hp hs⟩
theorem lens_add {rows : Rn} {p : Nat} {e : Ev} (hp : p < rows.length) : lens (addE rows p e) = bump (lens rows) p := by
  funext q
  unfold lens bump
  rw [getD_add hp]
  split
  · rename_i hq
    subst hq
    rw [List.length_append]; rfl
  · rfl
theorem mem_sendsR {r : List Ev} {l : Int} : l ∈ sendsR r ↔ ∃ cs, Ev.send l cs ∈ r := by
  unfold sendsR
  rw [List.mem_filterMap]
  constructor
  · rintro ⟨e, he, h⟩
    cases e with
    | send m cs => cases h; exact ⟨cs, he⟩
    | step cs => cases h
    | take m cs => cases h
  · rintro ⟨cs, h⟩; exact ⟨_, h, rfl⟩
theorem mem_takesR {r : List Ev} {l : Int} : l ∈ takesR r ↔ ∃ cs, Ev.take l cs ∈ r := by
  unfold takesR
  rw [List.mem_filterMap]
  constructor
  · rintro ⟨e, he, h⟩
    cases e with
    | take m cs => cases h; exact ⟨cs, he⟩
    | step cs => cases h
    | send m cs => cases h
  · rintro ⟨cs, h⟩; exact ⟨_, h, rfl⟩
theorem evAt_mem {rows : Rn} {p i : Nat} {e : Ev} (h : evAt rows p i = some e) : ∃ r ∈ rows, e ∈ r := by
  unfold evAt at h
  by_cases c : p < rows.length
  · have e0 : rows.getD p [] = rows[p] := by rw [List.getD_eq_getElem?_getD, List.getElem?_eq_getElem c]; rfl
    rw [e0] at h
    exact ⟨rows[p], List.getElem_mem c, List.mem_of_getElem? h⟩
  · have e0 : rows.getD p [] = [] := by rw [List.getD_eq_getElem?_getD, List.getElem?_eq_none (by omega)]; rfl
    rw [e0] at h
    simp at h
theorem mem_evAt {rows : Rn} {r : List Ev} {e : Ev} (hr : r ∈ rows) (he : e ∈ r) : ∃ p i, evAt rows p i = some e := by
  obtain ⟨p, hp, rfl⟩ := List.getElem_of_mem hr
  obtain ⟨i, hi, rfl⟩ := List.getElem_of_mem he
  refine ⟨p, i, ?_⟩
  unfold evAt
  rw [List.getD_eq_getElem?_getD, List.getElem?_eq_getElem hp]
  exact List.getElem?_eq_getElem hi
theorem mem_sends {rows : Rn} {l : Int} : l ∈ sends rows ↔ ∃ p i cs, evAt rows p i = some (.send l cs) := by
  unfold sends
  rw [List.mem_flatMap]
  constructor
  · rintro ⟨r, hr, h⟩
    obtain ⟨cs, hc⟩ := mem_sendsR.mp h
    obtain ⟨p, i, z⟩ := mem_evAt hr hc
    exact ⟨p, i, cs, z⟩
  · rintro ⟨p, i, cs, h⟩
    obtain ⟨r, hr, he⟩ := evAt_mem h
    exact ⟨r, hr, mem_sendsR.mpr ⟨cs, he⟩⟩
theorem mem_takes {rows : Rn} {l : Int} : l ∈ takes rows ↔ ∃ p i cs, evAt rows p i = some (.take l cs) := by
  unfold takes
  rw [List.mem_flatMap]
  constructor
  · rintro ⟨r, hr, h⟩
    obtain ⟨cs, hc⟩ := mem_takesR.mp h
    obtain ⟨p, i, z⟩ := mem_evAt hr hc
    exact ⟨p, i, cs, z⟩
  · rintro ⟨p, i, cs, h⟩
    obtain ⟨r, hr, he⟩ := evAt_mem h
    exact ⟨r, hr, mem_takesR.mpr ⟨cs, he⟩⟩
theorem evAt_lt {rows : Rn} {p i : Nat} {e : Ev} (h : evAt rows p i = some e) : i < lens rows p := (List.getElem?_eq_some_iff.mp h).1
theorem sent_all {rows : Rn} {l : Int} : Sent rows (lens rows) l ↔ l ∈ sends rows := by
  rw [mem_sends]
  exact ⟨fun ⟨p, i, cs, _, h⟩ => ⟨p, i, cs, h⟩, fun ⟨p, i, cs, h⟩ => ⟨p, i, cs, evAt_lt h, h⟩⟩
theorem reach_add {rows : Rn} {p : Nat} {e : Ev} (hp : p < rows.length) (h : Reach rows (lens rows)) (ht : ∀ l cs, e = .take l cs → l ∈ sends rows) : Reach (addE rows p e) (lens (addE rows p e)) := by
  rw [lens_add hp]
  refine .step (h.add hp) ⟨e, evAt_new hp, fun l cs z => ?_⟩
  obtain ⟨q, i, cs', hi, hs⟩ := sent_all.mpr (ht l cs z)
  exact ⟨q, i, cs', hi, evAt_add hp hs⟩
theorem flat_add (f : List Ev → List Int) (hf : ∀ a b, f (a ++ b) = f a ++ f b) : ∀ (rows : Rn) (p : Nat) (e : Ev), p < rows.length → ((addE rows p e).flatMap f).Perm (f [e] ++ rows.flatMap f)
  | [], p, e, h => absurd h (Nat.not_lt_zero _)
  | r :: rows, 0, e, h => by
    show (f (r ++ [e]) ++ rows.flatMap f).Perm (f [e] ++ (f r ++ rows.flatMap f))
    rw [hf, ← List.append_assoc]
    exact List.Perm.append_right _ List.perm_append_comm
  | r :: rows, p + 1, e, h => by
    have ih := flat_add f hf rows p e (by simpa using h)
    show (f r ++ (addE rows p e).flatMap f).Perm (f [e] ++ (f r ++ rows.flatMap f))
    refine (ih.append_left (f r)).trans ?_
    rw [← List.append_assoc, ← List.append_assoc]
    exact List.Perm.append_right _ List.perm_append_comm
theorem sends_add {rows : Rn} {p : Nat} {e : Ev} (hp : p < rows.length) : (sends (addE rows p e)).Perm (sendsR [e] ++ sends rows) := flat_add sendsR (fun a b => by simp [sendsR]) rows p e hp
theorem takes_add {rows : Rn} {p : Nat} {e : Ev} (hp : p < rows.length) : (takes (addE rows p e)).Perm (takesR [e] ++ takes rows) := flat_add takesR (fun a b => by simp [takesR]) rows p e hp
/-! ### beginnings of runs -/
theorem reach_takes {rows : Rn} {q i : Nat} {x : Int} {cs : List Ch} (hi : evAt rows q i = some (.take x cs)) : ∀ {d : Nat → Nat}, Reach rows d → i < d q → Sent rows d x := fun {d} r => by
  induction r with
  | zero => intro z; exact absurd z (Nat.not_lt_zero _)
  | step r' en ih =>
    rename_i d' p'
    intro hq
    by_cases c : i < d' q
    · exact (ih c).mono bump_le
    · have e1 : q = p' := Classical.byContradiction fun n => by rw [bump_ne n] at hq; exact c hq
      subst e1
      rw [bump_same] at hq
      have e2 : i = d' q := by omega
      obtain ⟨y, hy, ht⟩ := en
      rw [← e2, hi] at hy
      exact (ht x cs (Option.some.inj hy).symm).mono bump_le
theorem getD_of {α : Type} {xs : List α} {d : α} {p : Nat} (h : p < xs.length) : xs.getD p d = xs[p] := by
  rw [List.getD_eq_getElem?_getD, List.getElem?_eq_getElem h]; rfl
theorem getD_no {α : Type} {xs : List α} {d : α} {p : Nat} (h : xs.length ≤ p) : xs.getD p d = d := by
  rw [List.getD_eq_getElem?_getD, List.getElem?_eq_none h]; rfl
theorem send_in {r : List Ev} {i : Nat} {l : Int} {cs : List Ch} (h : r[i]? = some (.send l cs)) : l ∈ sendsR r := mem_sendsR.mpr ⟨cs, List.mem_of_getElem? h⟩
/-- a letter is sent once -/
theorem uniq {rows : Rn} (hn : (sends rows).Nodup) {p i q j : Nat} {l : Int} {cs cs' : List Ch} (h1 : evAt rows p i = some (.send l cs)) (h2 : evAt rows q j = some (.send l cs')) : p = q ∧ i = j := by
  have lp : p < rows.length := Classical.byContradiction fun c => by
    unfold evAt at h1
    rw [getD_no (by omega)] at h1
    simp at h1
  have lq : q < rows.length := Classical.byContradiction fun c => by
    unfold evAt at h2
    rw [getD_no (by omega)] at h2
    simp at h2
  unfold evAt at h1 h2
  rw [getD_of lp] at h1
  rw [getD_of lq] at h2
  unfold sends List.Nodup at hn
  rw [List.pairwise_flatMap] at hn
  obtain ⟨a, b⟩ := hn
  rw [List.pairwise_iff_getElem] at b
  have e : p = q := by
    rcases Nat.lt_trichotomy p q with c | c | c
    · exact absurd rfl (b p q lp lq c l (send_in h1) l (send_in h2))
    · exact c
    · exact absurd rfl (b q p lq lp c l (send_in h2) l (send_in h1))
  subst e
  refine ⟨rfl, ?_⟩
  have z := a _ (List.getElem_mem lp)
  unfold sendsR at z
  rw [List.pairwise_filterMap, List.pairwise_iff_getElem] at z
  obtain ⟨i1, e1⟩ := List.getElem?_eq_some_iff.mp h1
  obtain ⟨j1, e2⟩ := List.getElem?_eq_some_iff.mp h2
  rcases Nat.lt_trichotomy i j with c | c | c
  · exact absurd rfl (z i j i1 j1 c l (by rw [e1]) l (by rw [e2]))
  · exact c
  · exact absurd rfl (z j i j1 i1 c l (by rw [e2]) l (by rw [e1]))
def cutF (rows : Rn) (κ : Nat → Nat) : Rn := (List.range rows.length).map fun p => (rows.getD p []).take (κ p)
theorem cut_getD {rows : Rn} {κ : Nat → Nat} (p : Nat) : (cutF rows κ).getD p [] = (rows.getD p []).take (κ p) := by
  unfold cutF
  by_cases c : p < rows.length
  · rw [getD_of (by simpa using c), List.getElem_map, List.getElem_range]
  · rw [getD_no (by simp; omega), getD_no (by omega)]
    simp
theorem cut_evAt {rows : Rn} {κ : Nat → Nat} {p i : Nat} : evAt (cutF rows κ) p i = if i < κ p then evAt rows p i else none := by
  unfold evAt
  rw [cut_getD, List.getElem?_take]
def TakesIn (rows : Rn) : Prop := ∀ l ∈ takes rows, l ∈ sends rows
theorem poss_takes {rows : Rn} (h : Poss rows) : TakesIn rows := fun l hl => by
  obtain ⟨d, hr, hf⟩ := h
  obtain ⟨p, i, cs, e⟩ := mem_takes.mp hl
  have hd : d = lens rows := funext hf
  subst hd
  exact sent_all.mp (reach_takes e hr (evAt_lt e))
theorem cut_reach {rows : Rn} {κ : Nat → Nat} (hn : (sends rows).Nodup) (ht : TakesIn (cutF rows κ)) {d : Nat → Nat} (h : Reach rows d) : Reach (cutF rows κ) (fun p => min (d p) (κ p)) := by
  induction h with
  | zero =>
    have : (fun p => min ((fun _ => 0 : Nat → Nat) p) (κ p)) = fun _ => 0 := funext fun p => Nat.zero_min _
    rw [this]; exact .zero
  | step r en ih =>
    rename_i d p
    by_cases c : d p < κ p
    · have e : (fun q => min (bump d p q) (κ q)) = bump (fun q => min (d q) (κ q)) p := by
        funext q
        unfold bump
        split
        · rename_i hq
          subst hq
          show min (d q + 1) (κ q) = min (d q) (κ q) + 1
          omega
        · rfl
      rw [e]
      obtain ⟨x, hx, hs⟩ := en
      have m1 : min (d p) (κ p) = d p := by omega
      have hx' : evAt (cutF rows κ) p (min (d p) (κ p)) = some x := by rw [cut_evAt, m1, if_pos c]; exact hx
      refine .step ih ⟨x, hx', fun l cs z => ?_⟩
      obtain ⟨q, i, cs', hi, hq⟩ := hs l cs z
      have lt : l ∈ takes (cutF rows κ) := mem_takes.mpr ⟨p, _, cs, by rw [← z]; exact hx'⟩
      obtain ⟨q2, i2, cs2, h2⟩ := mem_sends.mp (ht l lt)
      have h3 := h2
      rw [cut_evAt] at h3
      split at h3
      · rename_i c2
        obtain ⟨e1, e2⟩ := uniq hn hq h3
        subst e1 e2
        exact ⟨q, i, cs2, by show i < min (d q) (κ q); omega, h2⟩
      · cases h3
    · have e : (fun q => min (bump d p q) (κ q)) = fun q => min (d q) (κ q) := by
        funext q
        unfold bump
        split
        · rename_i hq; subst hq; omega
        · rfl
      rw [e]; exact ih
theorem cut_poss {rows : Rn} {κ : Nat → Nat} (hn : (sends rows).Nodup) (hr : Reach rows (lens rows)) : Poss (cutF rows κ) ↔ TakesIn (cutF rows κ) := by
  refine ⟨poss_takes, fun ht => ⟨_, cut_reach hn ht hr, fun p => ?_⟩⟩
  rw [cut_getD, List.length_take, Nat.min_comm]
  rfl
theorem flat_sub (f : List Ev → List Int) (hf : ∀ (l : List Ev) n, (f (l.take n)).Sublist (f l)) (rows : Rn) (κ : Nat → Nat) : ((cutF rows κ).flatMap f).Sublist (rows.flatMap f) := by
  have e : rows = (List.range rows.length).map fun p => rows.getD p [] := by
    refine List.ext_getElem? fun i => ?_
    rw [List.getElem?_map]
    by_cases c : i < rows.length
    · rw [List.getElem?_range c, List.getElem?_eq_getElem c]
      show some rows[i] = some (rows.getD i [])
      rw [getD_of c]
    · rw [List.getElem?_eq_none (by omega), List.getElem?_eq_none (by rw [List.length_range]; omega)]; rfl
  have key : ∀ L : List Nat, ((L.map fun p => (rows.getD p []).take (κ p)).flatMap f).Sublist ((L.map fun p => rows.getD p []).flatMap f) := by
    intro L
    induction L with
    | nil => exact .slnil
    | cons p L ih =>
      rw [List.map_cons, List.map_cons, List.flatMap_cons, List.flatMap_cons]
      exact (hf _ _).append ih
  have := key (List.range rows.length)
  rw [← e] at this
  exact this
theorem cut_let {rows : Rn} {κ : Nat → Nat} (h : LetOk rows) : LetOk (cutF rows κ) :=
  ⟨h.1.sublist (flat_sub sendsR (fun l n => (List.take_sublist n l).filterMap _) rows κ), h.2.sublist (flat_sub takesR (fun l n => (List.take_sublist n l).filterMap _) rows κ)⟩
/-- processes without events behind -/
theorem pad_getD (rows : Rn) (m p : Nat) : (rows ++ List.replicate m []).getD p [] = rows.getD p [] := by
  by_cases c : p < rows.length
  · rw [List.getD_eq_getElem?_getD, List.getElem?_append_left c, ← List.getD_eq_getElem?_getD]
  · rw [getD_no (by omega : rows.length ≤ p), List.getD_eq_getElem?_getD, List.getElem?_append_right (by omega), List.getElem?_replicate]
    split <;> rfl
theorem poss_eq {a b : Rn} (h : ∀ p, a.getD p [] = b.getD p []) : Poss a → Poss b := by
  have ev : ∀ p i, evAt a p i = evAt b p i := fun p i => by unfold evAt; rw [h]
  rintro ⟨d, hr, hf⟩
  refine ⟨d, ?_, fun p => by rw [← h]; exact hf p⟩
  clear hf
  induction hr with
  | zero => exact .zero
  | step r en ih =>
    obtain ⟨x, hx, hs⟩ := en
    refine .step ih ⟨x, by rw [← ev]; exact hx, fun l cs z => ?_⟩
    obtain ⟨q, i, cs', hi, hq⟩ := hs l cs z
    exact ⟨q, i, cs', hi, by rw [← ev]; exact hq⟩
theorem flat_pad (f : List Ev → List Int) (h0 : f [] = []) (rows : Rn) (m : Nat) : (rows ++ List.replicate m []).flatMap f = rows.flatMap f := by
  rw [List.flatMap_append]
  have : (List.replicate m ([] : List Ev)).flatMap f = [] := by
    rw [List.flatMap_eq_nil_iff]
    intro r hr
    rw [List.eq_of_mem_replicate hr, h0]
  rw [this, List.append_nil]
/-! #### rows of right events -/
def Good (rows : Rn) : Prop := ∀ r ∈ rows, r.length ≤ 30 ∧ ∀ e ∈ r, e.ok ∧ CsOk e.cs
theorem ev_isEv {e : Ev} (h : e.ok ∧ CsOk e.cs) : isEv e.d = true := by
  obtain ⟨⟨_, h3⟩, hc⟩ := h
  have cg := hc.chg
  cases e with
  | step cs =>
    show (decide (("step" : PySem.Str) = "step") && isChg (csD cs)) = true
    rw [show isChg (csD cs) = true from cg]
    simp
  | send i cs =>
    have hi := h3 i (.inl ⟨cs, rfl⟩)
    show (isST "send" && (isInt (.int i) 1 999 && isChg (csD cs))) = true
    rw [show isChg (csD cs) = true from cg, show isST "send" = true by decide +kernel]
    simp [isInt, hi.1, hi.2]
  | take i cs =>
    have hi := h3 i (.inr ⟨cs, rfl⟩)
    show (isST "take" && (isInt (.int i) 1 999 && isChg (csD cs))) = true
    rw [show isChg (csD cs) = true from cg, show isST "take" = true by decide +kernel]
    simp [isInt, hi.1, hi.2]
theorem Good.shape {rows : Rn} (h : Good rows) (h1 : 1 ≤ rows.length ∧ rows.length ≤ 6) : RunShape rows := ⟨h1, fun r hr => ⟨(h r hr).1, fun e he => ((h r hr).2 e he).1⟩⟩
theorem Good.sh {rows : Rn} (h : Good rows) (h1 : 1 ≤ rows.length ∧ rows.length ≤ 6) : shB (rnD rows) = true := by
  show (isInt (.int (rows.map rowD).length) 1 6 && (rows.map rowD).all rowB) = true
  rw [Bool.and_eq_true, List.all_eq_true]
  refine ⟨by simp [isInt]; omega, fun d hd => ?_⟩
  obtain ⟨r, hr, rfl⟩ := List.mem_map.mp hd
  show (decide ((r.map Ev.d).length ≤ 30) && (r.map Ev.d).all isEv) = true
  rw [Bool.and_eq_true, decide_eq_true_eq, List.length_map, List.all_eq_true]
  refine ⟨(h r hr).1, fun x hx => ?_⟩
  obtain ⟨e, he, rfl⟩ := List.mem_map.mp hx
  exact ev_isEv ((h r hr).2 e he)
theorem Good.isRun {rows : Rn} (h : Good rows) (h1 : 1 ≤ rows.length ∧ rows.length ≤ 6) : IsRun (rnD rows) ↔ LetOk rows ∧ Poss rows :=
  ⟨fun z => z.2 rows rfl, fun z => ⟨h.sh h1, fun rows' e => by rw [← rnD_inj e]; exact z⟩⟩
theorem Good.cut {rows : Rn} (h : Good rows) (κ : Nat → Nat) : Good (cutF rows κ) := fun r hr => by
  unfold cutF at hr
  obtain ⟨p, hp, rfl⟩ := List.mem_map.mp hr
  have hp := List.mem_range.mp hp
  rw [getD_of hp]
  obtain ⟨a, b⟩ := h _ (List.getElem_mem hp)
  exact ⟨by rw [List.length_take]; omega, fun e he => b e (List.mem_of_mem_take he)⟩
theorem Good.pad {rows : Rn} (h : Good rows) (m : Nat) : Good (rows ++ List.replicate m []) := fun r hr => by
  rcases List.mem_append.mp hr with hr | hr
  · exact h r hr
  · rw [List.eq_of_mem_replicate hr]
    exact ⟨Nat.zero_le _, fun e he => by cases he⟩
theorem one_leaf' {v : Nat} (h : 97 ≤ v ∧ v ≤ 100) : leaf (.str (mk [v])) = true := by
  have : v = 97 ∨ v = 98 ∨ v = 99 ∨ v = 100 := by omega
  rcases this with rfl | rfl | rfl | rfl <;> decide +kernel
theorem cs_dat {cs : List Ch} (h : ∀ q ∈ cs, chOk q) (hl : cs.length ≤ 4) : dat 2 (csD cs) = true := by
  refine dat_tup.mpr ⟨by rw [List.length_map]; omega, List.all_eq_true.mpr fun d hd => ?_⟩
  obtain ⟨q, hq, rfl⟩ := List.mem_map.mp hd
  refine dat_tup.mpr ⟨by simp, ?_⟩
  rw [List.all_cons, List.all_cons]
  show (leaf (.str (mk [q.1])) && _) = true
  rw [one_leaf' (h q hq).1]; rfl
theorem ev_dat {e : Ev} (h : e.ok) : dat 3 e.d = true := by
  obtain ⟨⟨h1, h2⟩, _⟩ := h
  have hc := cs_dat h1 h2
  cases e with
  | step cs =>
    refine dat_tup.mpr ⟨by simp, ?_⟩
    rw [List.all_cons, List.all_cons, show dat 2 (csD cs) = true from hc]
    decide +kernel
  | send i cs =>
    refine dat_tup.mpr ⟨by simp, ?_⟩
    rw [List.all_cons, List.all_cons, List.all_cons, show dat 2 (csD cs) = true from hc, dat_leaf (show leaf (.str "send") = true by decide +kernel)]
    rfl
  | take i cs =>
    refine dat_tup.mpr ⟨by simp, ?_⟩
    rw [List.all_cons, List.all_cons, List.all_cons, show dat 2 (csD cs) = true from hc, dat_leaf (show leaf (.str "take") = true by decide +kernel)]
    rfl
theorem rn_dat {rows : Rn} (h : RunShape rows) : dat 5 (rnD rows) = true := by
  refine dat_tup.mpr ⟨by rw [List.length_map]; have := h.1.2; omega, List.all_eq_true.mpr fun d hd => ?_⟩
  obtain ⟨r, hr, rfl⟩ := List.mem_map.mp hd
  refine dat_tup.mpr ⟨by rw [List.length_map]; have := (h.2 r hr).1; omega, List.all_eq_true.mpr fun x hx => ?_⟩
  obtain ⟨e, he, rfl⟩ := List.mem_map.mp hx
  exact ev_dat ((h.2 r hr).2 e he)
theorem meD_pop {S : Sto} {n : Nat} {xs : List D} {i : Int} {y : D} (h : S[n]? = some (.lst xs)) (h0 : 0 ≤ i) (hi : i < xs.length) (hy : xs[i.toNat]? = some y) (hz : xs.length ≤ 16777216) : meD .pop (.ref n) [.int i] S = some (.ok y (S.set n (.lst (xs.eraseIdx i.toNat)))) := by
  have e : ixN xs.length i = some i.toNat := by unfold ixN; rw [if_pos h0, if_pos hi]
  show (match getL S n with
    | some zs => match ixN zs.length i with
      | some k => match zs[k]? with
        | some y => if zs.length ≤ PySem.sizeLine then some (Ro.ok y (S.set n (.lst (zs.eraseIdx k)))) else none
        | none => none
      | none => none
    | _ => none) = _
  rw [getL_eq h]
  simp only [e, hy]
  rw [if_pos (by rw [PySem.sizeLine_eq]; exact hz)]
theorem tyM_pop {S : Sto} {n : Nat} {xs : List D} (h : S[n]? = some (.lst xs)) : tyM .pop (.ref n) S = true := by
  show (getL S n).isSome = true
  rw [getL_eq h]; rfl
theorem lenR {S : Sto} {n : Nat} {xs : List D} (h : S[n]? = some (.lst xs)) : biD .len [.ref n] S = some (.int xs.length) := by
  show (match dctD S (.ref n) with
    | some q => if q.1 = 0 then some (D.int q.2.1.length) else none
    | none => (seqD S (.ref n)).map fun (xs : List D) => D.int xs.length) = _
  rw [dctD_lst h]
  show ((getL S n).map fun (xs : List D) => D.int xs.length) = _
  rw [getL_eq h]; rfl
theorem erase_map {α β : Type} (f : α → β) : ∀ (xs : List α) (i : Nat), (xs.map f).eraseIdx i = (xs.eraseIdx i).map f
  | [], _ => rfl
  | x :: xs, 0 => rfl
  | x :: xs, i + 1 => by
    show f x :: (xs.map f).eraseIdx i = f x :: (xs.eraseIdx i).map f
    rw [erase_map f xs i]
/-! ### the law's drawn runs are runs -/
def refs (b c : Nat) : List D := (List.range c).map fun i => .ref (b + i)
theorem refs_at {b c : Nat} {i : Int} (h0 : 0 ≤ i) (h : i < c) : atI (refs b c) i = some (.ref (b + i.toNat)) := by
  obtain ⟨j, rfl⟩ : ∃ j : Nat, i = (j : Int) := ⟨i.toNat, by omega⟩
  rw [atI_nn]
  unfold refs
  rw [List.getElem?_map, List.getElem?_range (by omega)]
  simp
theorem rg_len : ∀ (n : Nat) (i : Int), (rg i n).length = n
  | 0, _ => rfl
  | n + 1, i => by rw [rg, List.length_cons, rg_len n]
/-! ### rows that grow, with clocks kept along -/
theorem evAt_old {rows : Rn} {p : Nat} {e : Ev} (hp : p < rows.length) {q i : Nat} (h : i < lens rows q) : evAt (addE rows p e) q i = evAt rows q i := by
  unfold evAt
  rw [getD_add hp]
  split
  · rename_i c
    subst c
    exact List.getElem?_append_left h
  · rfl
theorem evAt_addE {rows : Rn} {p : Nat} {e : Ev} (hp : p < rows.length) {q i : Nat} {x : Ev} (h : evAt (addE rows p e) q i = some x) : evAt rows q i = some x ∨ (q = p ∧ i = lens rows p ∧ x = e) := by
  by_cases c : i < lens rows q
  · left; rw [← evAt_old hp c]; exact h
  · right
    unfold evAt at h
    rw [getD_add hp] at h
    split at h
    · rename_i z
      subst z
      rw [List.getElem?_append_right (by unfold lens at c; omega)] at h
      have : i - (rows.getD q []).length = 0 := by
        refine Classical.byContradiction fun n => ?_
        rw [List.getElem?_eq_none (by show 1 ≤ _; omega)] at h
        cases h
      rw [this] at h
      refine ⟨rfl, by unfold lens at c ⊢; omega, ?_⟩
      simpa using h.symm
    · unfold lens at c
      rw [List.getElem?_eq_none (by omega)] at h
      cases h
theorem clk_step {rows : Rn} (ho : LetOk rows) {d : Nat → Nat} (r : Reach rows d) {p : Nat} {e : Ev} (he : evAt rows p (d p) = some e) (hs : ∀ l cs, e = .take l cs → Sent rows d l) {K : Clk} (hK : ClkTo rows d K) {v : List Nat}
    (hv : v.length = rows.length) (v1 : (∀ l cs, e ≠ .take l cs) → v = (K p (d p)).set p (d p + 1)) (v2 : ∀ l cs q j cs', e = .take l cs → evAt rows q j = some (.send l cs') → v = (joinC (K p (d p)) (K q (j + 1))).set p (d p + 1)) :
    ClkTo rows (bump d p) (fun q i => if q = p ∧ i = d p + 1 then v else K q i) := by
  refine ⟨fun q i => ?_, fun q => ?_, fun q i e' hi he' hn => ?_, fun q i l cs q' j cs' hi he' hq' => ?_⟩
  · show (if q = p ∧ i = d p + 1 then v else K q i).length = _
    split
    · exact hv
    · exact hK.len q i
  · show (if q = p ∧ 0 = d p + 1 then v else K q 0) = _
    rw [if_neg (by omega)]; exact hK.zero q
  · show (if q = p ∧ i + 1 = d p + 1 then v else K q (i + 1)) = (if q = p ∧ i = d p + 1 then v else K q i).set q (i + 1)
    by_cases c : q = p ∧ i = d p
    · obtain ⟨rfl, rfl⟩ := c
      rw [if_pos ⟨rfl, rfl⟩, if_neg (by omega)]
      rw [he] at he'
      cases he'
      exact v1 hn
    · have hi' : i < d q := by
        by_cases e : q = p
        · subst e; rw [bump_same] at hi
          have : i ≠ d q := fun z => c ⟨rfl, z⟩
          omega
        · rw [bump_ne e] at hi; exact hi
      rw [if_neg (fun z => c ⟨z.1, by omega⟩), if_neg (fun z => by obtain ⟨rfl, z⟩ := z; omega)]
      exact hK.stp q i e' hi' he' hn
  · show (if q = p ∧ i + 1 = d p + 1 then v else K q (i + 1)) = (joinC (if q = p ∧ i = d p + 1 then v else K q i) (if q' = p ∧ j + 1 = d p + 1 then v else K q' (j + 1))).set q (i + 1)
    by_cases c : q = p ∧ i = d p
    · obtain ⟨rfl, rfl⟩ := c
      rw [if_pos ⟨rfl, rfl⟩, if_neg (by omega)]
      rw [he] at he'
      cases he'
      obtain ⟨a, j', cs2, hj, ha⟩ := hs l cs rfl
      obtain ⟨rfl, rfl⟩ := send_uniq ho ha hq'
      rw [if_neg (fun z => by obtain ⟨rfl, z⟩ := z; omega)]
      exact v2 l cs _ _ cs' rfl hq'
    · have hi' : i < d q := by
        by_cases e : q = p
        · subst e; rw [bump_same] at hi
          have : i ≠ d q := fun z => c ⟨rfl, z⟩
          omega
        · rw [bump_ne e] at hi; exact hi
      obtain ⟨a, j', cs2, hj, ha⟩ := r.sent q i l cs hi' he'
      obtain ⟨rfl, rfl⟩ := send_uniq ho ha hq'
      rw [if_neg (fun z => c ⟨z.1, by omega⟩), if_neg (fun z => by obtain ⟨rfl, z⟩ := z; omega), if_neg (fun z => by obtain ⟨rfl, z⟩ := z; omega)]
      exact hK.tak q i l cs _ _ cs' hi' he' hq'
theorem ClkTo.addE {rows : Rn} {p : Nat} {e : Ev} (hp : p < rows.length) {K : Clk} (hK : IsClk rows K) (hr : Reach rows (lens rows)) (ho : LetOk (addE rows p e)) : ClkTo (addE rows p e) (lens rows) K := by
  refine ⟨fun q i => by rw [addE_len]; exact hK.len q i, fun q => by rw [addE_len]; exact hK.zero q, fun q i e' hi he' hn => hK.stp q i e' hi (by rw [← evAt_old hp hi]; exact he') hn, fun q i l cs q' j cs' hi he' hq' => ?_⟩
  have he := he'
  rw [evAt_old hp hi] at he
  obtain ⟨a, j', cs2, hj, ha⟩ := hr.sent q i l cs hi he
  obtain ⟨rfl, rfl⟩ := send_uniq ho (evAt_add hp ha) hq'
  exact hK.tak q i l cs _ _ cs2 hi he ha
theorem IsClk.addE {rows : Rn} {p : Nat} {e : Ev} (hp : p < rows.length) {K : Clk} (hK : IsClk rows K) (hr : Reach rows (lens rows)) (ho : LetOk (addE rows p e)) (ht : ∀ l cs, e = .take l cs → l ∈ sends rows) {v : List Nat}
    (hv : v.length = rows.length) (v1 : (∀ l cs, e ≠ .take l cs) → v = (K p (lens rows p)).set p (lens rows p + 1)) (v2 : ∀ l cs q j cs', e = .take l cs → evAt rows q j = some (.send l cs') → v = (joinC (K p (lens rows p)) (K q (j + 1))).set p (lens rows p + 1)) :
    IsClk (addE rows p e) (fun q i => if q = p ∧ i = lens rows p + 1 then v else K q i) := by
  have h := clk_step ho (Reach.add hp hr) (evAt_new hp) (fun l cs z => (sent_all.mpr (ht l cs z)).imp fun a b => b.imp fun i c => c.imp fun cs' y => ⟨y.1, evAt_add hp y.2⟩) (ClkTo.addE hp hK hr ho) (v := v) (by rw [addE_len]; exact hv) v1 (fun l cs q j cs' z h => by
    rcases evAt_addE hp h with h | ⟨_, _, h⟩
    · exact v2 l cs q j cs' z h
    · rw [z] at h; cases h)
  show ClkTo _ (lens (Lk.addE rows p e)) _
  rw [lens_add hp]
  exact h
structure MP (rows : Rn) (lf : List Pl) (L m M : Nat) : Prop where
  ok : ∀ r ∈ rows, r.length ≤ M ∧ ∀ e ∈ r, e.ok ∧ CsOk e.cs
  sn : (sends rows).Nodup
  rg : ∀ l ∈ sends rows, 1 ≤ l ∧ l ≤ (L : Int)
  fs : ∀ q ∈ lf, ∃ i cs, q.2.2 = i + 1 ∧ evAt rows q.2.1 i = some (.send q.1 cs)
  fn : (lf.map (·.1)).Nodup
  ft : ∀ q ∈ lf, q.1 ∉ takes rows
  tn : (takes rows).Nodup
  re : Reach rows (lens rows)
  lm : L ≤ m
  fll : lf.length ≤ m
section
variable {rows : Rn} {lf : List Pl} {L m M : Nat} {p : Nat} {cs : List Ch}
theorem MP.okAdd (h : MP rows lf L m M) (hp : p < rows.length) (hM : lens rows p < M) {e : Ev} (he : e.ok ∧ CsOk e.cs) : ∀ r ∈ addE rows p e, r.length ≤ M ∧ ∀ e ∈ r, e.ok ∧ CsOk e.cs := fun r hr => by
  have hg : rows.getD p [] ∈ rows := by
    rw [List.getD_eq_getElem?_getD, List.getElem?_eq_getElem hp]
    exact List.getElem_mem hp
  rcases List.mem_or_eq_of_mem_set hr with hr | rfl
  · exact h.ok r hr
  · obtain ⟨a, b⟩ := h.ok _ hg
    refine ⟨by rw [List.length_append, List.length_singleton]; unfold lens at hM; omega, fun x hx => ?_⟩
    rcases List.mem_append.mp hx with hx | hx
    · exact b x hx
    · rw [List.mem_singleton.mp hx]; exact he
theorem MP.lo (h : MP rows lf L m M) : LetOk rows := ⟨h.sn, h.tn⟩
theorem MP.fsAdd (h : MP rows lf L m M) (hp : p < rows.length) {e : Ev} : ∀ q ∈ lf, ∃ i cs, q.2.2 = i + 1 ∧ evAt (addE rows p e) q.2.1 i = some (.send q.1 cs) := fun q hq => by
  obtain ⟨i, cs, h1, h2⟩ := h.fs q hq
  exact ⟨i, cs, h1, evAt_add hp h2⟩
theorem MP.tks (h : MP rows lf L m M) {x : Int} (hx : x ∈ takes rows) : x ∈ sends rows := by
  obtain ⟨q, i, cs', hi⟩ := mem_takes.mp hx
  exact sent_all.mp (reach_takes hi h.re (evAt_lt hi))
theorem MP.stepA (h : MP rows lf L m M) (hp : p < rows.length) (hM : lens rows p < M) (hc : CsOk cs) : MP (addE rows p (.step cs)) lf L (m + 1) M := by
  have s1 : (sends (addE rows p (.step cs))).Perm (sends rows) := sends_add (e := .step cs) hp
  have t1 : (takes (addE rows p (.step cs))).Perm (takes rows) := takes_add (e := .step cs) hp
  exact ⟨h.okAdd hp hM ⟨⟨⟨hc.1, hc.2.2⟩, fun l z => by rcases z with ⟨_, z⟩ | ⟨_, z⟩ <;> cases z⟩, hc⟩, s1.nodup_iff.mpr h.sn, fun l hl => h.rg l (s1.mem_iff.mp hl), h.fsAdd hp, h.fn, fun q hq z => h.ft q hq (t1.mem_iff.mp z), t1.nodup_iff.mpr h.tn, reach_add hp h.re (fun l cs z => by cases z), by have := h.lm; omega, by have := h.fll; omega⟩
theorem MP.sendA (h : MP rows lf L m M) (hp : p < rows.length) (hM : lens rows p < M) (hc : CsOk cs) (hL : L < 999) : MP (addE rows p (.send ((L + 1 : Nat) : Int) cs)) (lf ++ [(((L + 1 : Nat) : Int), p, lens rows p + 1)]) (L + 1) (m + 1) M := by
  have s1 : (sends (addE rows p (.send ((L + 1 : Nat) : Int) cs))).Perm (((L + 1 : Nat) : Int) :: sends rows) := sends_add (e := .send ((L + 1 : Nat) : Int) cs) hp
  have t1 : (takes (addE rows p (.send ((L + 1 : Nat) : Int) cs))).Perm (takes rows) := takes_add (e := .send ((L + 1 : Nat) : Int) cs) hp
  have fresh : ((L + 1 : Nat) : Int) ∉ sends rows := fun z => by
    have := h.rg _ z
    omega
  have flt : ∀ q ∈ lf, q.1 ∈ sends rows := fun q hq => by
    obtain ⟨i, cs', _, h2⟩ := h.fs q hq
    exact mem_sends.mpr ⟨_, _, _, h2⟩
  refine ⟨h.okAdd hp hM ⟨⟨⟨hc.1, hc.2.2⟩, fun l' z => ?_⟩, hc⟩, s1.nodup_iff.mpr (List.nodup_cons.mpr ⟨fresh, h.sn⟩), fun x hx => ?_, fun q hq => ?_, ?_, fun q hq z => ?_, t1.nodup_iff.mpr h.tn, reach_add hp h.re (fun l cs z => by cases z), by have := h.lm; omega, by rw [List.length_append, List.length_singleton]; have := h.fll; omega⟩
  · rcases z with ⟨_, z⟩ | ⟨_, z⟩ <;> cases z
    omega
  · rcases List.mem_cons.mp (s1.mem_iff.mp hx) with rfl | hx
    · omega
    · have := h.rg x hx; omega
  · rcases List.mem_append.mp hq with hq | hq
    · exact h.fsAdd hp q hq
    · rw [List.mem_singleton.mp hq]
      exact ⟨lens rows p, cs, rfl, evAt_new hp⟩
  · rw [List.map_append, List.nodup_append]
    refine ⟨h.fn, by simp, fun a ha b hb e => ?_⟩
    obtain ⟨q, hq, rfl⟩ := List.mem_map.mp ha
    have hb : b = ((L + 1 : Nat) : Int) := List.mem_singleton.mp hb
    rw [hb] at e
    exact fresh (by rw [← e]; exact flt q hq)
  · have z := t1.mem_iff.mp z
    rcases List.mem_append.mp hq with hq | hq
    · exact h.ft q hq z
    · rw [List.mem_singleton.mp hq] at z
      exact fresh (h.tks z)
theorem MP.takeA (h : MP rows lf L m M) (hp : p < rows.length) (hM : lens rows p < M) (hc : CsOk cs) (hL : L ≤ 999) {q : Nat} (hq : q < lf.length) : MP (addE rows p (.take lf[q].1 cs)) (lf.eraseIdx q) L (m + 1) M := by
  have s1 : (sends (addE rows p (.take lf[q].1 cs))).Perm (sends rows) := sends_add (e := .take lf[q].1 cs) hp
  have t1 : (takes (addE rows p (.take lf[q].1 cs))).Perm (lf[q].1 :: takes rows) := takes_add (e := .take lf[q].1 cs) hp
  have mq : lf[q] ∈ lf := List.getElem_mem hq
  have hl : (lf.map (·.1)).length = lf.length := List.length_map ..
  have ms : lf[q].1 ∈ sends rows := by
    obtain ⟨i, cs', _, h2⟩ := h.fs _ mq
    exact mem_sends.mpr ⟨_, _, _, h2⟩
  have nq : ∀ x ∈ lf.eraseIdx q, x.1 ≠ lf[q].1 := fun x z y => by
    obtain ⟨i, hi, e⟩ := List.getElem_of_mem z
    have key : ∀ j (hj : j < lf.length), lf[j] = x → j = q := fun j hj e => by
      have : (lf.map (·.1))[j]'(by rw [hl]; exact hj) = (lf.map (·.1))[q]'(by rw [hl]; exact hq) := by
        rw [List.getElem_map, List.getElem_map, e]; exact y
      exact (List.getElem_inj h.fn).mp this
    rw [List.getElem_eraseIdx] at e
    split at e
    · rename_i c
      have := key _ _ e
      omega
    · rename_i c
      have := key _ _ e
      omega
  refine ⟨h.okAdd hp hM ⟨⟨⟨hc.1, hc.2.2⟩, fun l' z => ?_⟩, hc⟩, s1.nodup_iff.mpr h.sn, fun x hx => h.rg x (s1.mem_iff.mp hx), fun x hx => h.fsAdd hp x (List.mem_of_mem_eraseIdx hx), h.fn.sublist ((List.eraseIdx_sublist _ _).map _), fun x hx z => ?_, t1.nodup_iff.mpr (List.nodup_cons.mpr ⟨h.ft _ mq, h.tn⟩), reach_add hp h.re (fun l cs z => by cases z; exact ms), by have := h.lm; omega, by have := h.fll; have := List.length_eraseIdx_le lf q; omega⟩
  · rcases z with ⟨_, z⟩ | ⟨_, z⟩ <;> cases z
    have := h.rg _ ms
    omega
  · rcases List.mem_cons.mp (t1.mem_iff.mp z) with e | z
    · exact nq x hx e
    · exact h.ft x (List.mem_of_mem_eraseIdx hx) z
theorem MP.good (h : MP rows lf L m M) (hM : M ≤ 30) : Good rows := fun r hr => by
  obtain ⟨a, b⟩ := h.ok r hr
  exact ⟨by omega, b⟩
theorem MP.rnn (h : MP rows lf L m M) (hM : M ≤ 30) (h1 : 1 ≤ rows.length ∧ rows.length ≤ 6) : Rnn rows :=
  ⟨(h.good hM).sh h1, (h.good hM).shape h1, h.lo, ⟨_, h.re, fun _ => rfl⟩⟩
end
end Lk
namespace Lk
open PyProof.Rows L2 Ip
theorem le2 : (0 + 1 + 1 ≤ PySem.sizeLine) := by rw [PySem.sizeLine_eq]; decide
theorem le3 : (0 + 1 + 1 + 1 ≤ PySem.sizeLine) := by rw [PySem.sizeLine_eq]; decide
theorem one_sl : (0 + 1 ≤ PySem.sizeLine) := by rw [PySem.sizeLine_eq]; decide
theorem ex_go {Γ : Gam} {T : Ip.Tab} {s : Stm} {r : Stms} {env E : Ip.En} {S U : Sto} (h : exec Γ T s env S = some (.nx E U)) : execs Γ T (.cons s r) env S = execs Γ T r E U := by
  rw [execs, h, seqS_nx]
theorem gt_of {S : Sto} {i : Nat} {o : Ob} (h : S[i]? = some o) (T : Sto) : (S ++ T)[i]? = some o := by
  rw [List.getElem?_append_left (List.getElem?_eq_some_iff.mp h).1]; exact h
/-! ### the drawing -/
structure Bs where
  (a b c : Int)
def Bs.ob (s : Bs) : Ob := .lst [.int s.a, .int s.b, .int s.c]
def Bs.wet (s : Bs) : Bs := if s.a = 0 then
    let seed := (s.b * 48271 + s.c * 69621 + 11) % 2147483647
    ⟨seed * 2147483629 + (seed * seed + s.c * 16807) % 2147483629, seed, s.c⟩
  else s
def dr (m : Int) (s : Bs) : Int := s.wet.a % m
def nx (m : Int) (s : Bs) : Bs := ⟨s.wet.a / m, s.wet.b, s.wet.c⟩
def bS (n : Nat) (s : Bs) (S : Sto) : Sto := S.set n s.ob
theorem dr_low {m : Int} (s : Bs) (h : 0 < m) : 0 ≤ dr m s := Int.emod_nonneg _ (by omega)
theorem dr_top {m : Int} (s : Bs) (h : 0 < m) : dr m s < m := Int.emod_lt_of_pos _ h
section
variable {n : Nat} {S : Sto} {s : Bs}
@[simp] theorem bS_len : (bS n s S).length = S.length := by simp [bS]
theorem bS_app {T : Sto} (h : n < S.length) : bS n s S ++ T = bS n s (S ++ T) := by
  unfold bS; rw [List.set_append_left _ _ h]
theorem bS_at (h : n < S.length) : (bS n s S)[n]? = some s.ob := by simp [bS, h]
theorem bS_ne {j : Nat} (h : n ≠ j) : (bS n s S)[j]? = S[j]? := by simp [bS, h]
theorem bS_set {j : Nat} {o : Ob} (h : n ≠ j) : (bS n s S).set j o = bS n s (S.set j o) := by
  unfold bS; rw [List.set_comm _ _ h]
@[simp] theorem bS_bS {t : Bs} : bS n t (bS n s S) = bS n t S := by simp [bS]
theorem bS_fold (a b c : Int) : (bS n s S).set n (.lst [.int a, .int b, .int c]) = bS n ⟨a, b, c⟩ S := by simp [bS, Bs.ob]
theorem bS_get (h : n < S.length) : getL (bS n s S) n = some [.int s.a, .int s.b, .int s.c] := getL_eq (bS_at h)
theorem draw_ok (k : Nat) (n : Nat) (s : Bs) (S : Sto) (m : Int) (h : n < S.length) (h0 : 0 < m) (h1 : m < 1073741824) :
    C (k + 1) i__law_draw [.ref n, .int m] (bS n s S) = some (.ok (.int (dr m s)) (bS n (nx m s) S)) := by
  rw [c__law_draw]
  have i0 : ∀ (t : Bs) (j : Int), ixD (bS n t S) (.ref n) (.int j) = atI [.int t.a, .int t.b, .int t.c] j := fun t j => ixD_ref (bS_at h)
  have m0 : ∀ (U : Sto) (i : Int), binD .mul false (.int i) (.int 48271) U = some (.ok (.int (i * 48271)) U) := fun U i => binD_mul (.inr (by decide))
  have m1 : ∀ (U : Sto) (i : Int), binD .mul false (.int i) (.int 69621) U = some (.ok (.int (i * 69621)) U) := fun U i => binD_mul (.inr (by decide))
  have m2 : ∀ (U : Sto) (i : Int), binD .mul false (.int i) (.int 2147483629) U = some (.ok (.int (i * 2147483629)) U) := fun U i => binD_mul (.inr (by decide))
  have m3 : ∀ (U : Sto) (i : Int), binD .mul false (.int i) (.int 16807) U = some (.ok (.int (i * 16807)) U) := fun U i => binD_mul (.inr (by decide))
  have n0 : ixN 3 0 = some 0 := rfl
  have n1 : ixN 3 1 = some 1 := rfl
  by_cases ha : s.a = 0
  · have m4 : ∀ (U : Sto) (i : Int), binD .mul false (.int (i % 2147483647)) (.int (i % 2147483647)) U = some (.ok (.int (i % 2147483647 * (i % 2147483647))) U) := fun U i => binD_mul (.inl (by omega))
    simp [b__law_draw, i0, m0, m1, m2, m3, m4, ha, binD_mod, binD_fdiv, h0, h1, bS_get h, n0, n1, bS_fold, dr, nx, Bs.wet]
  · simp [b__law_draw, i0, ha, binD_mod, binD_fdiv, h0, h1, bS_get h, n0, n1, bS_fold, dr, nx, Bs.wet]
end
theorem at_last (S : Sto) (o : Ob) : (S ++ [o])[S.length]? = some o := by simp
theorem set_last (S : Sto) (o o' : Ob) : (S ++ [o]).set S.length o' = S ++ [o'] := by
  rw [List.set_append_right _ _ (Nat.le_refl _), Nat.sub_self]; rfl
theorem app_lt {n : Nat} {S : Sto} (h : n < S.length) (T : Sto) : n < (S ++ T).length := by rw [List.length_append]; omega
theorem pk_ok {P : D → Prop} {l : List D} {i : Int} (h0 : 0 ≤ i) (h : i < l.length) (hp : ∀ d ∈ l, P d) : P (pk l i) := hp _ (pk_mem h0 h)
theorem pk_dr {P : D → Prop} {l : List D} {m : Int} {s : Bs} (h0 : 0 < m) (h : m ≤ l.length) (hp : ∀ d ∈ l, P d) : P (pk l (dr m s)) := pk_ok (dr_low s h0) (by have := dr_top s h0; omega) hp
theorem at_dr {l : List D} {m : Int} {s : Bs} (h0 : 0 < m) (h : m ≤ l.length) : atI l (dr m s) = some (pk l (dr m s)) := atI_pk (dr_low s h0) (by have := dr_top s h0; omega)
theorem bag_ok (k : Nat) (ns : List Int) (j : Nat) (S : Sto) : ∃ s, C (k + 1) i__law_bag [.scr ns, .int j] S = some (.ok (.ref S.length) (bS S.length s (S ++ [.lst []]))) := by
  rw [c__law_bag]
  have e : ∀ a b c : Int, bS S.length ⟨a, b, c⟩ (S ++ [.lst []]) = S ++ [.lst [.int a, .int b, .int c]] := fun a b c => by
    unfold bS; rw [set_last]; rfl
  by_cases h : (j : Int) < ns.length
  · have hj : j < ns.length := by omega
    have g : atI (ns.map D.int) (j : Int) = some (.int ns[j]) := by rw [atI_nn, List.getElem?_map, List.getElem?_eq_getElem hj]; rfl
    by_cases hc : (1000000000000000000 : Int) ≤ ns[j]
    · refine ⟨⟨ns[j], ns[j], j⟩, ?_⟩
      rw [e]
      simp [b__law_bag, h, g, binD_pow, hc, hj]
    · refine ⟨⟨0, ns[j], j⟩, ?_⟩
      rw [e]
      simp [b__law_bag, h, g, binD_pow, hc, hj]
  · refine ⟨⟨0, 0, j⟩, ?_⟩
    rw [e]
    have hj : ¬ j < ns.length := by omega
    simp [b__law_bag, h, binD_pow, hj]
end Lk
namespace Lk
open PyProof.Rows L2 Ip
/-! ### fields of an order; vectors -/
section
variable {rows : Rn} {K : Clk} {S : Sto} {v2 v3 : Option D}
theorem of_run : fldD S 0 (ordD rows K) "_run" = some (rnD rows) := by
  show (if 0 = 0 then fldL "_run" oNm [rnD rows, .lst (rows.map stD), pD (plS true 0 rows), pD (plS false 0 rows), ckD rows K] else none) = _
  simp [fldL, oNm]
theorem of_states : fldD S 0 (ordD rows K) "_states" = some (.lst (rows.map stD)) := by
  show (if 0 = 0 then fldL "_states" oNm [rnD rows, .lst (rows.map stD), pD (plS true 0 rows), pD (plS false 0 rows), ckD rows K] else none) = _
  simp [fldL, oNm]
theorem of_clocks : fldD S 0 (ordD rows K) "_clocks" = some (ckD rows K) := by
  show (if 0 = 0 then fldL "_clocks" oNm [rnD rows, .lst (rows.map stD), pD (plS true 0 rows), pD (plS false 0 rows), ckD rows K] else none) = _
  simp [fldL, oNm]
theorem of_mth (m : PySem.Str) (h : (oNm.all fun n => decide (n ≠ m)) = true) : mthD S 0 (ordD rows K) m = true := by
  show (decide (0 = 0) && oNm.all fun n => decide (n ≠ m)) = true
  rw [h]; rfl
theorem ck_row {p : Nat} (hp : p < rows.length) : ixD S (ckD rows K) (.int (p : Int)) = some (.lst (ckL K p (lens rows p + 1))) := by
  rw [ckD, ixD_lst, atI_nn, List.getElem?_map, List.getElem?_range hp]; rfl
theorem ck_at {p i : Nat} (h : i ≤ lens rows p) : ixD S (.lst (ckL K p (lens rows p + 1))) (.int (i : Int)) = some (tupN (K p i)) := by
  rw [ixD_lst, atI_nn, ckL_get (by omega)]
theorem zeros_mul {n : Nat} (h : n ≤ 1000) (d : D) (S : Sto) : binD .mul false (.tup [d]) (.int (n : Int)) S = some (.ok (.tup (List.replicate n d)) S) := by
  show (@ite (Option (Ro D)) _ (Classical.propDecidable _) (some (Ro.ok (D.tup (List.replicate (n : Int).toNat [d]).flatten) S)) none) = _
  rw [if_pos ⟨by simp, by omega, by omega⟩, Int.toNat_natCast]
  congr 3
  clear h
  induction n with
  | zero => rfl
  | succ n ih => rw [List.replicate_succ, List.flatten_cons, ih, List.replicate_succ]; rfl
theorem zeros_mulL {n : Nat} (h : n ≤ 1000) (d : D) (S : Sto) : binD .mul false (.lst [d]) (.int (n : Int)) S = some (.ok (.lst (List.replicate n d)) S) := by
  show (@ite (Option (Ro D)) (-(2 ^ 63) ≤ (n : Int) ∧ (n : Int) < 2 ^ 63 ∧ 1 * (n : Int).toNat ≤ PySem.sizeLine) (Classical.propDecidable _) (mkL false (List.replicate (n : Int).toNat [d]).flatten S) none) = _
  rw [if_pos ⟨by omega, by omega, by rw [PySem.sizeLine_eq]; omega⟩, mkL_f, Int.toNat_natCast]
  congr 3
  clear h
  induction n with
  | zero => rfl
  | succ n ih => rw [List.replicate_succ, List.flatten_cons, ih, List.replicate_succ]; rfl
def zeroV (n : Nat) : List Nat := List.replicate n 0
theorem zeroV_d (n : Nat) : D.tup (List.replicate n (.int 0)) = tupN (zeroV n) := by
  unfold tupN zeroV; rw [List.map_replicate]; rfl
def sizesV (rows : Rn) : List Nat := rows.map (·.length)
theorem sizes_lc {Γ : Gam} {env : Ip.En} {U : Sto} {x : Ex} {own : List (PySem.Str × Nat)} {i : Nat} {it : Ip.Itr} (h6 : rows.length ≤ 6) (hi : evalI Γ T0 it env U = some (.ok (rows.map rowD) U))
    (hx : ∀ r : List Ev, evalE Γ T0 x ((wipeE env (own.map (·.2))).set i (some (rowD r))) U = some (.ok (.int (r.length : Nat)) U)) :
    evalE Γ T0 (.lc false own (.n i) it .no x) env U = some (.ok (.lst ((sizesV rows).map fun x : Nat => D.int x)) U) := by
  rw [lc_no (S := U) (xs := rows.map rowD) (fun d => match d with
    | .tup xs => .int (xs.length : Nat)
    | _ => .non) hi (by rw [List.length_map, PySem.sizeLine_eq]; omega) (fun y hy => ?_), mkL_f]
  · unfold sizesV
    rw [List.map_map, List.map_map]
    congr 3
    refine List.map_congr_left fun r _ => ?_
    simp [rowD]
  · obtain ⟨r, _, rfl⟩ := List.mem_map.mp hy
    rw [hx]
    simp [rowD]
/-- a vector with one more at p -/
def addV (c : List Nat) (p : Nat) : List Nat := c.set p (c.getD p 0 + 1)
theorem add_expr {Γ : Gam} {env : Ip.En} {c : List Nat} {p i j : Nat} (h1 : env[i]? = some (some (tupN c))) (h2 : env[j]? = some (some (.int (p : Int)))) (hp : p < c.length) (hl : c.length ≤ 1000) (U : Sto) :
    evalE Γ T0 (.bin .add false (.bin .add false (.sl false (.v i) .no (.so (.v j))) (.tup (.cons (.bin .add false (.ix (.v i) (.v j)) (.c (.int 1))) .nil))) (.sl false (.v i) (.so (.bin .add false (.v j) (.c (.int 1)))) .no)) env U = some (.ok (tupN (addV c p)) U) := by
  obtain ⟨W, u1, u2⟩ := tup_set (x := c.getD p 0 + 1) hp hl U
  have g := tupN_get hp U
  have ec : ((c.getD p 0 : Nat) : Int) + 1 = ((c.getD p 0 + 1 : Nat) : Int) := by omega
  simp only [evalE, evalEs, evalO, h1, h2, bnd_ok, tupN, slD_tup, List.length_cons, List.length_nil, (show (0 + 1 ≤ PySem.sizeLine) by rw [PySem.sizeLine_eq]; decide), if_true, Cst.d, binD_add]
  simp only [tupN] at g
  simp only [g, okO_some, bnd_ok, binD_add, ec, List.length_cons, List.length_nil, (show (0 + 1 ≤ PySem.sizeLine) by rw [PySem.sizeLine_eq]; decide), if_true, u1, u2, tupN, addV]
def covB (a b : List Nat) : Bool := (List.range a.length).all fun p => decide (b.getD p 0 ≤ a.getD p 0)
def upsV (rows : Rn) (K : Clk) (c : List Nat) : List Nat := (List.range rows.length).filter fun p => decide (c.getD p 0 < lens rows p) && covB (addV c p) (K p (c.getD p 0 + 1))
def intsN (l : List Nat) : List D := l.map fun x : Nat => D.int x
theorem intsN_pure : ∀ l : List Nat, pures (intsN l) = true := tupN_pures
theorem addV_len (c : List Nat) (p : Nat) : (addV c p).length = c.length := by simp [addV]
def cutB (K : Clk) (c : List Nat) : Bool := (List.range c.length).all fun p => covB c (K p (c.getD p 0))
end
end Lk
namespace Lk
open PyProof.Rows L2 Ip
/-! ### vectors -/
def allV : List Nat → List (List Nat)
  | [] => [[]]
  | s :: ss => (allV ss).flatMap fun t => (List.range (s + 1)).map fun x => x :: t
theorem mem_allV : ∀ {ss c : List Nat}, c ∈ allV ss ↔ c.length = ss.length ∧ ∀ p, p < ss.length → c.getD p 0 ≤ ss.getD p 0
  | [], c => by
    rw [allV, List.mem_singleton]
    constructor
    · rintro rfl; exact ⟨rfl, fun p h => absurd h (Nat.not_lt_zero _)⟩
    · rintro ⟨h, _⟩; exact List.length_eq_zero_iff.mp h
  | s :: ss, c => by
    rw [allV, List.mem_flatMap]
    constructor
    · rintro ⟨t, ht, hc⟩
      obtain ⟨x, hx, rfl⟩ := List.mem_map.mp hc
      have hx := List.mem_range.mp hx
      obtain ⟨h1, h2⟩ := mem_allV.mp ht
      refine ⟨by rw [List.length_cons, List.length_cons, h1], fun p hp => ?_⟩
      cases p with
      | zero => show x ≤ s; omega
      | succ p => rw [List.getD_cons_succ, List.getD_cons_succ]; exact h2 p (by simpa using hp)
    · rintro ⟨h1, h2⟩
      cases c with
      | nil => cases h1
      | cons x t =>
        refine ⟨t, mem_allV.mpr ⟨by simpa using h1, fun p hp => ?_⟩, List.mem_map.mpr ⟨x, List.mem_range.mpr ?_, rfl⟩⟩
        · have := h2 (p + 1) (by simpa using hp)
          rwa [List.getD_cons_succ, List.getD_cons_succ] at this
        · have : x ≤ s := h2 0 (by simp)
          omega
theorem allV_nodup : ∀ ss : List Nat, (allV ss).Nodup
  | [] => by simp [allV]
  | s :: ss => by
    rw [allV]
    refine List.pairwise_flatMap.mpr ⟨fun t _ => ?_, ?_⟩
    · rw [List.pairwise_map]
      exact List.nodup_range.imp fun h z => h (List.cons.inj z).1
    · refine (allV_nodup ss).imp fun {a b} h x hx y hy z => ?_
      obtain ⟨i, _, rfl⟩ := List.mem_map.mp hx
      obtain ⟨j, _, rfl⟩ := List.mem_map.mp hy
      exact h (List.cons.inj z).2
theorem allV_len : ∀ {ss : List Nat}, (∀ s ∈ ss, s ≤ 30) → (allV ss).length ≤ 31 ^ ss.length
  | [], _ => Nat.le_refl _
  | s :: ss, h => by
    have ih := allV_len (ss := ss) fun x hx => h x (List.mem_cons_of_mem _ hx)
    have hs := h s (List.mem_cons_self ..)
    rw [allV, List.length_flatMap]
    simp only [List.length_map, List.length_range]
    rw [List.map_const', List.sum_replicate_nat, List.length_cons, Nat.pow_succ]
    exact Nat.mul_le_mul ih (by omega)
/-! order -/
def ltV : List Nat → List Nat → Bool
  | [], [] => false
  | [], _ :: _ => true
  | _ :: _, [] => false
  | x :: a, y :: b => decide (x < y) || (!decide (y < x) && ltV a b)
def leV (a b : List Nat) : Bool := !ltV b a
def leP (a b : List Nat) : Bool := !(decide (b.sum < a.sum) || (!decide (a.sum < b.sum) && ltV b a))
def pdV (c : List Nat) : PySem.PyData := .tuple (c.map fun x : Nat => .int x)
def tkV : List Nat → List (Int ⊕ List Nat)
  | [] => [.inl 0]
  | x :: c => .inl 1 :: .inl (x : Int) :: tkV c
def tkP (c : List Nat) : List (Int ⊕ List Nat) := .inl 1 :: .inl (c.sum : Int) :: .inl 1 :: (tkV c ++ [.inl 0])
theorem tk_pdV : ∀ c : List Nat, PySem.W.keyToksAll (c.map fun x : Nat => PySem.PyData.int x) = tkV c
  | [] => by simp [PySem.W.keyToksAll, tkV]
  | x :: c => by
    rw [List.map_cons, PySem.W.keyToksAll, tk_pdV c]
    simp [PySem.W.keyToks, tkV]
theorem lex_tkV (t : List (Int ⊕ List Nat)) : ∀ a b : List Nat, lexLt itemOrd (tkV a ++ t) (tkV b ++ t) = ltV a b
  | [], [] => lex_irrefl (O := itemOrd) _
  | [], y :: b => by
    show lexLt itemOrd (.inl 0 :: t) (.inl 1 :: _) = true
    rw [lex_cons]
    rfl
  | x :: a, [] => by
    show lexLt itemOrd (.inl 1 :: _) (.inl 0 :: t) = false
    rw [lex_cons]
    rfl
  | x :: a, y :: b => by
    show lexLt itemOrd (.inl 1 :: .inl (x : Int) :: (tkV a ++ t)) (.inl 1 :: .inl (y : Int) :: (tkV b ++ t)) = _
    rw [lex_cons, lex_cons, lex_tkV t a b]
    show (decide ((1 : Int) < 1) || (!decide ((1 : Int) < 1) && (decide ((x : Int) < y) || (!decide ((y : Int) < x) && ltV a b)))) = ltV (x :: a) (y :: b)
    rw [ltV, show decide ((x : Int) < y) = decide (x < y) from decide_eq_decide.mpr (by omega), show decide ((y : Int) < x) = decide (y < x) from decide_eq_decide.mpr (by omega)]
    simp
theorem leV_tk (a b : List Nat) : leV a b = PySem.W.sortLe (listOrd itemOrd) false tkV a b := by
  have := lex_tkV [] b a
  rw [List.append_nil, List.append_nil] at this
  show (!ltV b a) = !lexLt itemOrd (tkV b) (tkV a)
  rw [this]
theorem leP_tk (a b : List Nat) : leP a b = PySem.W.sortLe (listOrd itemOrd) false tkP a b := by
  have h := lex_tkV [.inl 0] b a
  show (!(decide (b.sum < a.sum) || (!decide (a.sum < b.sum) && ltV b a))) = !lexLt itemOrd (tkP b) (tkP a)
  unfold tkP
  rw [lex_cons, lex_cons, lex_cons, h]
  show _ = !(decide ((1 : Int) < 1) || (!decide ((1 : Int) < 1) && (decide ((b.sum : Int) < a.sum) || (!decide ((a.sum : Int) < b.sum) && (decide ((1 : Int) < 1) || (!decide ((1 : Int) < 1) && ltV b a))))))
  rw [show decide ((b.sum : Int) < a.sum) = decide (b.sum < a.sum) from decide_eq_decide.mpr (by omega), show decide ((a.sum : Int) < b.sum) = decide (a.sum < b.sum) from decide_eq_decide.mpr (by omega)]
  simp
theorem leV_trans (a b c : List Nat) : leV a b = true → leV b c = true → leV a c = true := by
  rw [leV_tk, leV_tk, leV_tk]; exact (PySem.W.sortLe_total _ _ _).trans a b c
theorem leV_total (a b : List Nat) : (leV a b || leV b a) = true := by
  rw [leV_tk, leV_tk, Bool.or_eq_true]; exact (PySem.W.sortLe_total _ _ _).total a b
theorem leP_trans (a b c : List Nat) : leP a b = true → leP b c = true → leP a c = true := by
  rw [leP_tk, leP_tk, leP_tk]; exact (PySem.W.sortLe_total _ _ _).trans a b c
theorem leP_total (a b : List Nat) : (leP a b || leP b a) = true := by
  rw [leP_tk, leP_tk, Bool.or_eq_true]; exact (PySem.W.sortLe_total _ _ _).total a b
theorem leV_anti : ∀ a b : List Nat, ltV a b = false → ltV b a = false → a = b
  | [], [], _, _ => rfl
  | [], y :: b, h, _ => by cases h
  | x :: a, [], _, h => by cases h
  | x :: a, y :: b, h1, h2 => by
    rw [ltV, Bool.or_eq_false_iff] at h1 h2
    obtain ⟨h1, h3⟩ := h1
    obtain ⟨h2, h4⟩ := h2
    rw [decide_eq_false_iff_not] at h1 h2
    rw [decide_eq_false h2, Bool.not_false, Bool.true_and] at h3
    rw [decide_eq_false h1, Bool.not_false, Bool.true_and] at h4
    have : x = y := by omega
    rw [this, leV_anti a b h3 h4]
theorem leV_eq {a b : List Nat} (h1 : leV a b = true) (h2 : leV b a = true) : a = b := leV_anti a b (by unfold leV at h2; simpa using h2) (by unfold leV at h1; simpa using h1)
theorem leP_eq {a b : List Nat} (h1 : leP a b = true) (h2 : leP b a = true) : a = b := by
  unfold leP at h1 h2
  rw [Bool.not_eq_true', Bool.or_eq_false_iff] at h1 h2
  obtain ⟨h1, h3⟩ := h1
  obtain ⟨h2, h4⟩ := h2
  rw [h2, Bool.not_false, Bool.true_and] at h3
  rw [h1, Bool.not_false, Bool.true_and] at h4
  exact leV_anti a b h4 h3
theorem leP_sum {a b : List Nat} (h : a.sum < b.sum) : leP a b = true := by
  unfold leP
  rw [decide_eq_false (by omega), decide_eq_true h]; rfl
theorem leP_same {a b : List Nat} (h : a.sum = b.sum) : leP a b = leV a b := by
  unfold leP leV
  rw [decide_eq_false (by omega), decide_eq_false (by omega)]
  simp
/-! cuts -/
section
variable {rows : Rn} {K : Clk}
theorem clk_own (hR : Rnn rows) (hK : IsClk rows K) {p : Nat} (hp : p < rows.length) : ∀ i, i ≤ lens rows p → (K p i).getD p 0 = i
  | 0, _ => by
    rw [hK.zero, List.getD_eq_getElem?_getD, List.getElem?_replicate, if_pos hp]; rfl
  | i + 1, h => by
    obtain ⟨e, he⟩ := ev_some (rows := rows) (p := p) (i := i) h
    have st : ∀ v : List Nat, v.length = rows.length → (v.set p (i + 1)).getD p 0 = i + 1 := fun v hv => by
      rw [List.getD_eq_getElem?_getD, List.getElem?_set_self (by omega)]; rfl
    cases e with
    | step cs => rw [hK.stp p i _ h he (fun _ _ z => nomatch z)]; exact st _ (hK.len p i)
    | send l cs => rw [hK.stp p i _ h he (fun _ _ z => nomatch z)]; exact st _ (hK.len p i)
    | take l cs =>
      obtain ⟨q, j, cs', hq⟩ := hR.sent he
      rw [hK.tak p i l cs q j cs' h he hq]
      exact st _ (by rw [joinC_len (by rw [hK.len, hK.len]), hK.len])
theorem set_get {v : List Nat} {p q x : Nat} (h : q ≠ p) : (v.set p x).getD q 0 = v.getD q 0 := by
  rw [List.getD_eq_getElem?_getD, List.getD_eq_getElem?_getD, List.getElem?_set_ne (fun z => h z.symm)]
theorem join_get {a b : List Nat} (h : a.length = b.length) (q : Nat) : (joinC a b).getD q 0 = max (a.getD q 0) (b.getD q 0) := by
  by_cases c : q < a.length
  · rw [getD_of (by rw [joinC_len h]; exact c), getD_of c, getD_of (by omega)]
    unfold joinC
    rw [List.getElem_zipWith]
  · rw [getD_no (by rw [joinC_len h]; omega), getD_no (by omega), getD_no (by omega)]; rfl
theorem clk_up (hR : Rnn rows) (hK : IsClk rows K) {p i q : Nat} (hp : p < rows.length) (h : i < lens rows p) : (K p i).getD q 0 ≤ (K p (i + 1)).getD q 0 := by
  by_cases c : q = p
  · subst c
    rw [clk_own hR hK hp i (by omega), clk_own hR hK hp (i + 1) h]; omega
  · obtain ⟨e, he⟩ := ev_some (rows := rows) (p := p) (i := i) h
    cases e with
    | step cs => rw [hK.stp p i _ h he (fun _ _ z => nomatch z), set_get c]; exact Nat.le_refl _
    | send l cs => rw [hK.stp p i _ h he (fun _ _ z => nomatch z), set_get c]; exact Nat.le_refl _
    | take l cs =>
      obtain ⟨r, j, cs', hq⟩ := hR.sent he
      rw [hK.tak p i l cs r j cs' h he hq, set_get c, join_get (by rw [hK.len, hK.len])]
      omega
theorem clk_mono (hR : Rnn rows) (hK : IsClk rows K) {p q : Nat} (hp : p < rows.length) {i : Nat} : ∀ {j : Nat}, i ≤ j → j ≤ lens rows p → (K p i).getD q 0 ≤ (K p j).getD q 0
  | 0, h, _ => by rw [Nat.le_zero.mp h]; exact Nat.le_refl _
  | j + 1, h, hj => by
    by_cases c : i = j + 1
    · rw [c]; exact Nat.le_refl _
    · exact Nat.le_trans (clk_mono hR hK hp (j := j) (by omega) (by omega)) (clk_up hR hK hp hj)
/-- what the clocks say of a function -/
def CutF (rows : Rn) (K : Clk) (c : Nat → Nat) : Prop := ∀ p q, p < rows.length → q < rows.length → (K p (c p)).getD q 0 ≤ c q
theorem reach_cutF (hR : Rnn rows) (hK : IsClk rows K) {d : Nat → Nat} (h : Reach rows d) : CutF rows K d := by
  induction h with
  | zero =>
    intro p q hp hq
    rw [hK.zero, List.getD_eq_getElem?_getD, List.getElem?_replicate, if_pos hq]
    exact Nat.le_refl _
  | step r en ih =>
    rename_i d p
    intro p' q hp' hq
    by_cases c : p' = p
    · subst c
      rw [bump_same]
      obtain ⟨e, he, hs⟩ := en
      have hl := evAt_lt he
      by_cases c2 : q = p'
      · subst c2
        rw [clk_own hR hK hq _ hl, bump_same]
        exact Nat.le_refl _
      · rw [bump_ne c2]
        cases e with
        | step cs => rw [hK.stp p' (d p') _ hl he (fun _ _ z => nomatch z), set_get c2]; exact ih p' q hp' hq
        | send l cs => rw [hK.stp p' (d p') _ hl he (fun _ _ z => nomatch z), set_get c2]; exact ih p' q hp' hq
        | take l cs =>
          obtain ⟨a, j, cs', hj, ha⟩ := hs l cs rfl
          have hal := ev_lt ha
          rw [hK.tak p' (d p') l cs a j cs' hl he ha, set_get c2, join_get (by rw [hK.len, hK.len])]
          have h1 := ih p' q hp' hq
          have h2 := ih a q hal hq
          have h3 := clk_mono hR hK (p := a) (q := q) hal (i := j + 1) (j := d a) hj (r.le_len a)
          omega
    · rw [bump_ne c]
      exact Nat.le_trans (ih p' q hp' hq) (bump_le q)
theorem cutF_reach (hR : Rnn rows) (hK : IsClk rows K) {c : Nat → Nat} (hc : CutF rows K c) (hle : ∀ p, c p ≤ lens rows p) {d : Nat → Nat} (h : Reach rows d) : Reach rows (fun p => min (d p) (c p)) := by
  induction h with
  | zero =>
    have : (fun p => min 0 (c p)) = fun _ => 0 := funext fun p => Nat.zero_min _
    rw [this]; exact .zero
  | step r en ih =>
    rename_i d p
    by_cases h : c p ≤ d p
    · have : (fun q => min (bump d p q) (c q)) = fun q => min (d q) (c q) := funext fun q => by
        by_cases e : q = p
        · subst e; rw [bump_same]; omega
        · rw [bump_ne e]
      rw [this]; exact ih
    · have : (fun q => min (bump d p q) (c q)) = bump (fun q => min (d q) (c q)) p := funext fun q => by
        by_cases e : q = p
        · subst e; rw [bump_same, bump_same]; omega
        · rw [bump_ne e, bump_ne e]
      rw [this]
      refine .step ih ?_
      obtain ⟨e, he, hs⟩ := en
      have hp := ev_lt he
      have m : min (d p) (c p) = d p := by omega
      refine ⟨e, by show evAt rows p (min (d p) (c p)) = _; rw [m]; exact he, fun l cs z => ?_⟩
      subst z
      obtain ⟨q, j, cs', hj, hq⟩ := hs l cs rfl
      refine ⟨q, j, cs', ?_, hq⟩
      show j < min (d q) (c q)
      have : j < c q := by
        by_cases e : q = p
        · subst e; omega
        · have hql := ev_lt hq
          have h1 : j + 1 ≤ (K p (d p + 1)).getD q 0 := by
            rw [hK.tak p (d p) l cs q j cs' (evAt_lt he) he hq, set_get e, join_get (by rw [hK.len, hK.len]), clk_own hR hK hql (j + 1) (evAt_lt hq)]
            omega
          have h2 := clk_mono hR hK (p := p) (q := q) hp (i := d p + 1) (j := c p) (by omega) (hle p)
          have h3 := hc p q hp hql
          omega
      omega
theorem cutF_iff (hR : Rnn rows) (hK : IsClk rows K) {c : Nat → Nat} : Reach rows c ↔ CutF rows K c ∧ ∀ p, c p ≤ lens rows p := by
  constructor
  · intro h
    exact ⟨reach_cutF hR hK h, h.le_len⟩
  · rintro ⟨h1, h2⟩
    obtain ⟨d, hr, hf⟩ := hR.po
    have := cutF_reach hR hK h1 h2 hr
    have e : (fun p => min (d p) (c p)) = c := funext fun p => by
      have := hf p
      have := h2 p
      unfold lens at this
      omega
    rw [e] at this
    exact this
/-- a vector as a function -/
def fV (c : List Nat) : Nat → Nat := fun p => c.getD p 0
def IsCutV (rows : Rn) (K : Clk) (c : List Nat) : Prop := c ∈ allV (sizesV rows) ∧ cutB K c = true
theorem sizes_get (rows : Rn) (p : Nat) : (sizesV rows).getD p 0 = lens rows p := by
  unfold sizesV lens
  by_cases h : p < rows.length
  · rw [getD_of (by rw [List.length_map]; exact h), getD_of h, List.getElem_map]
  · rw [getD_no (by rw [List.length_map]; omega), getD_no (by omega)]; rfl
theorem sizes_len (rows : Rn) : (sizesV rows).length = rows.length := List.length_map ..
theorem mem_all {c : List Nat} : c ∈ allV (sizesV rows) ↔ c.length = rows.length ∧ ∀ p, c.getD p 0 ≤ lens rows p := by
  rw [mem_allV, sizes_len]
  constructor
  · rintro ⟨h1, h2⟩
    refine ⟨h1, fun p => ?_⟩
    by_cases h : p < rows.length
    · rw [← sizes_get]; exact h2 p h
    · rw [getD_no (by omega)]; exact Nat.zero_le _
  · rintro ⟨h1, h2⟩
    exact ⟨h1, fun p _ => by rw [sizes_get]; exact h2 p⟩
theorem covB_iff {a b : List Nat} : covB a b = true ↔ ∀ p, p < a.length → b.getD p 0 ≤ a.getD p 0 := by
  unfold covB
  rw [List.all_eq_true]
  constructor
  · intro h p hp; exact of_decide_eq_true (h p (List.mem_range.mpr hp))
  · intro h p hp; exact decide_eq_true (h p (List.mem_range.mp hp))
theorem cutB_iff {c : List Nat} (hc : c.length = rows.length) : cutB K c = true ↔ CutF rows K (fV c) := by
  unfold cutB
  rw [List.all_eq_true]
  constructor
  · intro h p q hp hq
    exact covB_iff.mp (h p (List.mem_range.mpr (by omega))) q (by omega)
  · intro h p hp
    have hp := List.mem_range.mp hp
    exact covB_iff.mpr fun q hq => h p q (by omega) (by omega)
theorem cutV_iff (hR : Rnn rows) (hK : IsClk rows K) {c : List Nat} : IsCutV rows K c ↔ c.length = rows.length ∧ Reach rows (fV c) := by
  unfold IsCutV
  rw [mem_all]
  constructor
  · rintro ⟨⟨h1, h2⟩, h3⟩
    exact ⟨h1, (cutF_iff hR hK).mpr ⟨(cutB_iff h1).mp h3, h2⟩⟩
  · rintro ⟨h1, h2⟩
    obtain ⟨h3, h4⟩ := (cutF_iff hR hK).mp h2
    exact ⟨⟨h1, h4⟩, (cutB_iff h1).mpr h3⟩
theorem fV_add {c : List Nat} {p : Nat} (hp : p < c.length) : fV (addV c p) = bump (fV c) p := funext fun q => by
  unfold fV addV
  by_cases e : q = p
  · subst e
    rw [bump_same, List.getD_eq_getElem?_getD, List.getElem?_set_self hp]; rfl
  · rw [bump_ne e, set_get e]
theorem set_sum : ∀ {c : List Nat} {p x : Nat}, p < c.length → (c.set p x).sum + c.getD p 0 = c.sum + x
  | [], p, x, h => absurd h (Nat.not_lt_zero _)
  | y :: c, 0, x, h => by
    rw [List.set_cons_zero, List.sum_cons, List.sum_cons]
    show x + c.sum + y = y + c.sum + x
    omega
  | y :: c, p + 1, x, h => by
    have := set_sum (c := c) (p := p) (x := x) (by simpa using h)
    rw [List.set_cons_succ, List.sum_cons, List.sum_cons, List.getD_cons_succ]
    omega
theorem addV_sum {c : List Nat} {p : Nat} (hp : p < c.length) : (addV c p).sum = c.sum + 1 := by
  have := set_sum (c := c) (p := p) (x := c.getD p 0 + 1) hp
  unfold addV
  omega
/-- which events can be added -/
theorem ups_iff (hK : IsClk rows K) {c : List Nat} (hc : IsCutV rows K c) {p : Nat} (hp : p < rows.length) : p ∈ upsV rows K c ↔ IsCutV rows K (addV c p) := by
  obtain ⟨h1, h2⟩ := hc
  obtain ⟨hl, hle⟩ := mem_all.mp h1
  have hcf := (cutB_iff hl).mp h2
  have hpl : p < c.length := by omega
  have f := fV_add hpl
  unfold upsV IsCutV
  rw [List.mem_filter, Bool.and_eq_true, decide_eq_true_eq, List.mem_range, mem_all, cutB_iff (by rw [addV_len]; exact hl), f]
  have own : (addV c p).getD p 0 = c.getD p 0 + 1 := by
    have := congrFun f p
    rw [bump_same] at this
    exact this
  constructor
  · rintro ⟨_, h3, h4⟩
    have h4 := covB_iff.mp h4
    refine ⟨⟨by rw [addV_len]; exact hl, fun q => ?_⟩, fun p' q hp' hq => ?_⟩
    · have e : (addV c p).getD q 0 = bump (fV c) p q := congrFun f q
      rw [e]
      by_cases z : q = p
      · subst z; rw [bump_same]; exact h3
      · rw [bump_ne z]; exact hle q
    · by_cases z : p' = p
      · subst z
        rw [bump_same]
        have := h4 q (by rw [addV_len]; omega)
        have e : (addV c p').getD q 0 = bump (fV c) p' q := congrFun f q
        rw [e] at this
        exact this
      · rw [bump_ne z]
        exact Nat.le_trans (hcf p' q hp' hq) (bump_le q)
  · rintro ⟨⟨_, h3⟩, h4⟩
    have := h3 p
    rw [own] at this
    refine ⟨hp, this, covB_iff.mpr fun q hq => ?_⟩
    rw [addV_len] at hq
    have h5 := h4 p q hp (by omega)
    rw [bump_same] at h5
    have e : (addV c p).getD q 0 = bump (fV c) p q := congrFun f q
    rw [e]
    exact h5
/-- each cut but the empty one has one below -/
theorem cut_down (hR : Rnn rows) (hK : IsClk rows K) {c : List Nat} (hc : IsCutV rows K c) (hs : 0 < c.sum) : ∃ c0 p, p < rows.length ∧ IsCutV rows K c0 ∧ addV c0 p = c := by
  obtain ⟨hl, hr⟩ := (cutV_iff hR hK).mp hc
  generalize hg : fV c = g at hr
  cases hr with
  | zero =>
    exfalso
    have z : ∀ c : List Nat, (∀ p, c.getD p 0 = 0) → c.sum = 0 := by
      intro c
      induction c with
      | nil => intro _; rfl
      | cons x c ih =>
        intro h
        have h0 : x = 0 := h 0
        rw [List.sum_cons, h0, ih fun p => by have := h (p + 1); rwa [List.getD_cons_succ] at this]
    have := z c fun p => congrFun hg p
    omega
  | step r en =>
    rename_i d p
    have hp := en_lt en
    have hpl : p < c.length := by omega
    have hcp : c.getD p 0 = d p + 1 := by
      have := congrFun hg p
      rw [bump_same] at this
      exact this
    have e0 : fV (c.set p (d p)) = d := funext fun q => by
      unfold fV
      by_cases z : q = p
      · subst z
        rw [List.getD_eq_getElem?_getD, List.getElem?_set_self hpl]; rfl
      · rw [set_get z]
        have := congrFun hg q
        rw [bump_ne z] at this
        exact this
    refine ⟨c.set p (d p), p, hp, (cutV_iff hR hK).mpr ⟨by rw [List.length_set]; exact hl, by rw [e0]; exact r⟩, ?_⟩
    unfold addV
    have e1 : (c.set p (d p)).getD p 0 = d p := congrFun e0 p
    rw [e1, List.set_set, ← hcp, getD_of hpl]
    exact List.set_getElem_self hpl
/-! levels -/
def cutsOf (rows : Rn) (K : Clk) : List (List Nat) := (allV (sizesV rows)).filter (cutB K)
def lev (rows : Rn) (K : Clk) (s : Nat) : List (List Nat) := ((cutsOf rows K).filter fun c => decide (c.sum = s)).mergeSort leV
def cutsL (rows : Rn) (K : Clk) : List (List Nat) := (cutsOf rows K).mergeSort leP
theorem mem_cutsOf {c : List Nat} : c ∈ cutsOf rows K ↔ IsCutV rows K c := by unfold cutsOf IsCutV; rw [List.mem_filter]
theorem mem_cutsL {c : List Nat} : c ∈ cutsL rows K ↔ IsCutV rows K c := by unfold cutsL; rw [List.mem_mergeSort, mem_cutsOf]
theorem mem_lev {s : Nat} {c : List Nat} : c ∈ lev rows K s ↔ IsCutV rows K c ∧ c.sum = s := by
  unfold lev; rw [List.mem_mergeSort, List.mem_filter, mem_cutsOf, decide_eq_true_eq]
theorem cutsOf_nodup : (cutsOf rows K).Nodup := (allV_nodup _).filter _
theorem lev_nodup (s : Nat) : (lev rows K s).Nodup := (List.mergeSort_perm _ _).nodup_iff.mpr (cutsOf_nodup.filter _)
theorem cutsL_nodup : (cutsL rows K).Nodup := (List.mergeSort_perm _ _).nodup_iff.mpr cutsOf_nodup
theorem lev_sorted (s : Nat) : (lev rows K s).Pairwise (fun a b => leV a b = true) := List.pairwise_mergeSort leV_trans leV_total _
theorem cutsL_sorted : (cutsL rows K).Pairwise (fun a b => leP a b = true) := List.pairwise_mergeSort leP_trans leP_total _
/-- a list of the next level's cuts, sorted, is the next level -/
theorem next_lev (hR : Rnn rows) (hK : IsClk rows K) {s : Nat} {l : List (List Nat)} (hn : l.Nodup) (hm : ∀ x, x ∈ l ↔ ∃ c p, c ∈ lev rows K s ∧ p ∈ upsV rows K c ∧ addV c p = x) : l.mergeSort leV = lev rows K (s + 1) := by
  refine List.Perm.eq_of_pairwise (le := fun a b => leV a b = true) (fun a b _ _ h1 h2 => leV_eq h1 h2) (List.pairwise_mergeSort leV_trans leV_total _) (lev_sorted _) ?_
  refine (List.mergeSort_perm _ _).trans ((List.perm_ext_iff_of_nodup hn (lev_nodup _)).mpr fun x => ?_)
  rw [hm, mem_lev]
  constructor
  · rintro ⟨c, p, hc, hp, rfl⟩
    obtain ⟨h1, h2⟩ := mem_lev.mp hc
    have hpl : p < rows.length := List.mem_range.mp (List.mem_filter.mp hp).1
    have hl : c.length = rows.length := (mem_all.mp h1.1).1
    exact ⟨(ups_iff hK h1 hpl).mp hp, by rw [addV_sum (by omega), h2]⟩
  · rintro ⟨h1, h2⟩
    obtain ⟨c, p, hp, hc, e⟩ := cut_down hR hK h1 (by omega)
    have hl : c.length = rows.length := (mem_all.mp hc.1).1
    refine ⟨c, p, mem_lev.mpr ⟨hc, ?_⟩, (ups_iff hK hc hp).mpr (by rw [e]; exact h1), e⟩
    rw [← e, addV_sum (by omega)] at h2
    omega
theorem lev_stop (hR : Rnn rows) (hK : IsClk rows K) {s : Nat} (h : lev rows K s = []) : ∀ t, s ≤ t → lev rows K t = []
  | 0, ht => by rw [Nat.le_zero.mp ht] at h; exact h
  | t + 1, ht => by
    by_cases c : s = t + 1
    · rw [← c]; exact h
    · have ih := lev_stop hR hK h t (by omega)
      rw [List.eq_nil_iff_forall_not_mem]
      intro x hx
      obtain ⟨h1, h2⟩ := mem_lev.mp hx
      obtain ⟨c, p, hp, hc, e⟩ := cut_down hR hK h1 (by omega)
      have hl : c.length = rows.length := (mem_all.mp hc.1).1
      have : c ∈ lev rows K t := mem_lev.mpr ⟨hc, by rw [← e, addV_sum (by omega)] at h2; omega⟩
      rw [ih] at this
      cases this
theorem levs_all (hR : Rnn rows) (hK : IsClk rows K) {s : Nat} (h : lev rows K s = []) : (List.range s).flatMap (lev rows K) = cutsL rows K := by
  refine List.Perm.eq_of_pairwise (le := fun a b => leP a b = true) (fun a b _ _ h1 h2 => leP_eq h1 h2) ?_ cutsL_sorted ?_
  · refine List.pairwise_flatMap.mpr ⟨fun t _ => ?_, ?_⟩
    · refine (lev_sorted t).imp_of_mem fun {a b} ha hb hle => ?_
      rw [leP_same (by rw [(mem_lev.mp ha).2, (mem_lev.mp hb).2])]; exact hle
    · refine List.pairwise_lt_range.imp fun {a b} hab x hx y hy => leP_sum ?_
      rw [(mem_lev.mp hx).2, (mem_lev.mp hy).2]; exact hab
  · refine (List.perm_ext_iff_of_nodup ?_ cutsL_nodup).mpr fun x => ?_
    · refine List.pairwise_flatMap.mpr ⟨fun t _ => lev_nodup t, List.pairwise_lt_range.imp fun {a b} hab x hx y hy z => ?_⟩
      have h1 := (mem_lev.mp hx).2
      have h2 := (mem_lev.mp hy).2
      rw [z] at h1
      omega
    · rw [List.mem_flatMap, mem_cutsL]
      constructor
      · rintro ⟨t, _, hx⟩; exact (mem_lev.mp hx).1
      · intro hx
        refine ⟨x.sum, List.mem_range.mpr ?_, mem_lev.mpr ⟨hx, rfl⟩⟩
        refine Classical.byContradiction fun c => ?_
        have := lev_stop hR hK h x.sum (by omega)
        have hm : x ∈ lev rows K x.sum := mem_lev.mpr ⟨hx, rfl⟩
        rw [this] at hm
        cases hm
theorem lev_zero (hR : Rnn rows) (hK : IsClk rows K) : lev rows K 0 = [zeroV rows.length] := by
  have z : ∀ c : List Nat, c.sum = 0 → c = zeroV c.length := by
    intro c
    induction c with
    | nil => intro _; rfl
    | cons x c ih =>
      intro h
      rw [List.sum_cons] at h
      have h1 : x = 0 := by omega
      have h2 := ih (by omega)
      rw [List.length_cons]
      unfold zeroV at h2 ⊢
      rw [List.replicate_succ, ← h2, h1]
  have zf : fV (zeroV rows.length) = fun _ => 0 := funext fun p => by
    unfold fV zeroV
    rw [List.getD_eq_getElem?_getD, List.getElem?_replicate]
    split <;> rfl
  have zc : IsCutV rows K (zeroV rows.length) := (cutV_iff hR hK).mpr ⟨by simp [zeroV], by rw [zf]; exact .zero⟩
  refine List.Perm.eq_of_pairwise (le := fun a b => leV a b = true) (fun a b _ _ h1 h2 => leV_eq h1 h2) (lev_sorted _) (by simp) ((List.perm_ext_iff_of_nodup (lev_nodup _) (by simp)).mpr fun x => ?_)
  rw [mem_lev, List.mem_singleton]
  constructor
  · rintro ⟨h1, h2⟩
    rw [z x h2, (mem_all.mp h1.1).1]
  · rintro rfl
    exact ⟨zc, by simp [zeroV]⟩
end
end Lk
namespace Lk
open PyProof.Rows L2 Ip
/-! ### the law's vectors and cuts -/
theorem binD_lsts {xs ys : List D} (h : xs.length + ys.length ≤ PySem.sizeLine) (S : Sto) : binD .add false (.lst xs) (.lst ys) S = some (.ok (.lst (xs ++ ys)) S) := by
  show (if xs.length + ys.length ≤ PySem.sizeLine then mkL false (xs ++ ys) S else none) = _
  rw [if_pos h, mkL_f]
theorem rg_map : ∀ (n : Nat) (i : Int), rg i n = (List.range n).map fun x : Nat => D.int (i + (x : Int))
  | 0, i => rfl
  | n + 1, i => by
    rw [rg, rg_map n, List.range_succ_eq_map, List.map_cons, List.map_map]
    congr 1
    · simp
    · refine List.map_congr_left fun x _ => ?_
      simp only [Function.comp]
      congr 1
      omega
theorem rg0 (n : Nat) : rg 0 n = intsN (List.range n) := by
  rw [rg_map]
  refine List.map_congr_left fun x _ => ?_
  rw [Int.zero_add]
theorem tupNs_pure : ∀ l : List (List Nat), pures (l.map tupN) = true
  | [] => rfl
  | c :: l => by rw [List.map_cons, pures, tupN_pure, tupNs_pure l]; rfl
/-! sorting -/
theorem pd_tupN (c : List Nat) : pd (tupN c) = some (pdV c) := by
  have := pds_ints (c.map fun x : Nat => (x : Int))
  rw [List.map_map, List.map_map] at this
  unfold tupN pdV
  rw [pd]
  exact congrArg (Option.map PySem.PyData.tuple) this
def pairD (c : List Nat) : D := .tup [.int (c.sum : Nat), tupN c]
theorem pd_pair (c : List Nat) : pd (pairD c) = some (.tuple [.int (c.sum : Nat), pdV c]) := by
  unfold pairD
  simp [pd, pds, pd_tupN]
theorem dep_V (c : List Nat) : (pdV c).depth ≤ 2 := by
  have := dep_ints (c.map fun x : Nat => (x : Int))
  rw [List.map_map] at this
  unfold pdV
  rw [PySem.PyData.depth]
  have e : PySem.PyData.depthAll (c.map fun x : Nat => PySem.PyData.int x) = PySem.PyData.depthAll (c.map (PySem.PyData.int ∘ fun x : Nat => (x : Int))) := rfl
  omega
theorem alike_ints : ∀ a b : List Nat, PySem.W.alikeAll (a.map fun x : Nat => PySem.PyData.int x) (b.map fun x : Nat => PySem.PyData.int x) = true
  | [], b => by cases b <;> simp [PySem.W.alikeAll]
  | x :: a, [] => by simp [PySem.W.alikeAll]
  | x :: a, y :: b => by
    rw [List.map_cons, List.map_cons, PySem.W.alikeAll, alike_ints a b]
    simp [PySem.W.alike]
theorem alike_V (a b : List Nat) : PySem.W.alike (pdV a) (pdV b) = true := by
  unfold pdV
  rw [PySem.W.alike]; exact alike_ints a b
theorem sortOk_V {l : List (List Nat)} (h : ∀ c ∈ l, c ≠ []) (hl : l.length ≤ 1000000) : SortOk (l.map tupN) := by
  have e : ((l.map tupN).map fun d => (pd d).getD .none) = l.map pdV := by
    rw [List.map_map]
    refine List.map_congr_left fun c _ => ?_
    simp only [Function.comp, pd_tupN, Option.getD_some]
  refine ⟨fun d hd => ?_, ?_, ?_, by rw [List.length_map]; exact hl⟩
  · obtain ⟨c, _, rfl⟩ := List.mem_map.mp hd
    exact ⟨_, pd_tupN c, by have := dep_V c; omega⟩
  · rw [e]
    intro d hd d' hd'
    obtain ⟨c, _, rfl⟩ := List.mem_map.mp hd
    obtain ⟨c', _, rfl⟩ := List.mem_map.mp hd'
    exact alike_V c c'
  · rw [e]
    refine .inl fun d hd => ?_
    obtain ⟨c, hc, rfl⟩ := List.mem_map.mp hd
    cases c with
    | nil => exact absurd rfl (h _ hc)
    | cons x c => exact ⟨_, _, rfl⟩
theorem sortOk_P {l : List (List Nat)} (hl : l.length ≤ 1000000) : SortOk (l.map pairD) := by
  have e : ((l.map pairD).map fun d => (pd d).getD .none) = l.map fun c => PySem.PyData.tuple [.int (c.sum : Nat), pdV c] := by
    rw [List.map_map]
    refine List.map_congr_left fun c _ => ?_
    simp only [Function.comp, pd_pair, Option.getD_some]
  refine ⟨fun d hd => ?_, ?_, ?_, by rw [List.length_map]; exact hl⟩
  · obtain ⟨c, _, rfl⟩ := List.mem_map.mp hd
    refine ⟨_, pd_pair c, ?_⟩
    have := dep_V c
    simp [PySem.PyData.depth, PySem.PyData.depthAll]
    omega
  · rw [e]
    intro d hd d' hd'
    obtain ⟨c, _, rfl⟩ := List.mem_map.mp hd
    obtain ⟨c', _, rfl⟩ := List.mem_map.mp hd'
    simp [PySem.W.alike, PySem.W.alikeAll, alike_V]
  · rw [e]
    refine .inl fun d hd => ?_
    obtain ⟨c, _, rfl⟩ := List.mem_map.mp hd
    exact ⟨_, _, rfl⟩
theorem leD_V (a b : List Nat) : leD (tupN a) (tupN b) = leV a b := by
  rw [leV_tk]
  show (!lexLt itemOrd (PySem.W.keyToks ((pd (tupN b)).getD .none)) (PySem.W.keyToks ((pd (tupN a)).getD .none))) = !lexLt itemOrd (tkV b) (tkV a)
  rw [pd_tupN, pd_tupN, Option.getD_some, Option.getD_some]
  unfold pdV
  rw [PySem.W.keyToks, PySem.W.keyToks, tk_pdV, tk_pdV]
theorem leD_P (a b : List Nat) : leD (pairD a) (pairD b) = leP a b := by
  rw [leP_tk]
  have tk : ∀ c, PySem.W.keyToks ((pd (pairD c)).getD .none) = tkP c := fun c => by
    rw [pd_pair, Option.getD_some, PySem.W.keyToks, PySem.W.keyToksAll, PySem.W.keyToksAll, PySem.W.keyToksAll, PySem.W.keyToks]
    unfold pdV tkP
    rw [PySem.W.keyToks, tk_pdV]
    rfl
  show (!lexLt itemOrd (PySem.W.keyToks ((pd (pairD b)).getD .none)) (PySem.W.keyToks ((pd (pairD a)).getD .none))) = !lexLt itemOrd (tkP b) (tkP a)
  rw [tk, tk]
theorem sorted_P {l : List (List Nat)} (hne : l ≠ []) (hl : l.length ≤ 1000000) (S : Sto) : bfD .sorted false [.lst (l.map pairD)] S = some (.ok (.lst ((l.mergeSort leP).map pairD)) S) := by
  have na : asInts (l.map pairD) = none := by
    cases l with
    | nil => exact absurd rfl hne
    | cons c l => rfl
  show (match asInts (l.map pairD) with
    | some ns => mkL false ((sortI ns).map .int) S
    | none => @ite _ (SortOk (l.map pairD)) (Classical.propDecidable _) (mkL false ((l.map pairD).mergeSort leD) S) none) = _
  rw [na]
  simp only
  rw [if_pos (sortOk_P hl), mkL_f, ← List.map_mergeSort (r := leP) (s := leD) (f := pairD) (fun a _ b _ => (leD_P a b).symm)]
section
variable {rows : Rn} {K : Clk} {S : Sto}
theorem lic_inner (k : Nat) {c v : List Nat} (hv : v.length = c.length) (v0 v2 : Option D) (S : Sto) : ∀ (n j : Nat), j + n = c.length → ∀ v4 : Option D,
    ∃ c4, forL (.n 4) (fun e S => execs (C k) T0 l__law_is_cut_1 e S) (rg j n) [v0, some (tupN c), v2, some (tupN v), v4] S =
      if (List.range' j n).all (fun q => decide (v.getD q 0 ≤ c.getD q 0)) then some (.nx [v0, some (tupN c), v2, some (tupN v), c4] S) else some (.rt (.bl false) S)
  | 0, j, _, v4 => ⟨v4, by simp [rg, forL]⟩
  | n + 1, j, hj, v4 => by
    obtain ⟨c4, ih⟩ := lic_inner k hv v0 v2 S n (j + 1) (by omega) (some (.int (j : Int)))
    have g1 := tupN_get (v := v) (i := j) (by omega) S
    have g2 := tupN_get (v := c) (i := j) (by omega) S
    refine ⟨c4, ?_⟩
    rw [List.range'_succ, List.all_cons, rg]
    rw [show ((j + 1 : Nat) : Int) = (j : Int) + 1 by omega] at ih
    by_cases h : v.getD j 0 ≤ c.getD j 0
    · have h' : ¬ ((c.getD j 0 : Nat) : Int) < ((v.getD j 0 : Nat) : Int) := by omega
      have st : execs (C k) T0 l__law_is_cut_1 [v0, some (tupN c), v2, some (tupN v), some (.int (j : Int))] S = some (.nx [v0, some (tupN c), v2, some (tupN v), some (.int (j : Int))] S) := by
        simp only [l__law_is_cut_1, execs, exec, evalT, evalE, List.getElem?_cons_succ, List.getElem?_cons_zero, bnd_ok, g1, g2, okO_some, cmpD_gt, h', decide_false, bnS_ok, seqS_nx]
      simp only [forL, asg_n, List.set_cons_succ, List.set_cons_zero, st]
      rw [ih, decide_eq_true h, Bool.true_and]
    · have h' : ((c.getD j 0 : Nat) : Int) < ((v.getD j 0 : Nat) : Int) := by omega
      have st : execs (C k) T0 l__law_is_cut_1 [v0, some (tupN c), v2, some (tupN v), some (.int (j : Int))] S = some (.rt (.bl false) S) := by
        simp only [l__law_is_cut_1, execs, exec, evalT, evalE, List.getElem?_cons_succ, List.getElem?_cons_zero, bnd_ok, g1, g2, okO_some, cmpD_gt, h', decide_true, bnS_ok, Cst.d, seqS_rt]
      simp only [forL, asg_n, List.set_cons_succ, List.set_cons_zero, st]
      rw [decide_eq_false h, Bool.false_and, if_neg (by decide)]
theorem lic_outer (k : Nat) (hK : IsClk rows K) (h6 : rows.length ≤ 6) {c : List Nat} (hc : c.length = rows.length) (hle : ∀ p, c.getD p 0 ≤ lens rows p) (S : Sto) : ∀ (n j : Nat), j + n = c.length → ∀ v2 v3 v4 : Option D,
    ∃ c2 c3 c4, forL (.n 2) (fun e S => execs (C k) T0 l__law_is_cut_2 e S) (rg j n) [some (ckD rows K), some (tupN c), v2, v3, v4] S =
      if (List.range' j n).all (fun p => covB c (K p (c.getD p 0))) then some (.nx [some (ckD rows K), some (tupN c), c2, c3, c4] S) else some (.rt (.bl false) S)
  | 0, j, _, v2, v3, v4 => ⟨v2, v3, v4, by simp [rg, forL]⟩
  | n + 1, j, hj, v2, v3, v4 => by
    have g2 := tupN_get (v := c) (i := j) (by omega) S
    have r1 := ck_row (K := K) (S := S) (rows := rows) (p := j) (by omega)
    have r2 := ck_at (K := K) (S := S) (rows := rows) (p := j) (i := c.getD j 0) (hle j)
    obtain ⟨b4, e1⟩ := lic_inner k (c := c) (v := K j (c.getD j 0)) (by rw [hK.len, hc]) (some (ckD rows K)) (some (.int (j : Int))) S c.length 0 (by omega) v4
    rw [← List.range_eq_range', show ((0 : Nat) : Int) = 0 from rfl] at e1
    obtain ⟨c2, c3, c4, ih⟩ := lic_outer k hK h6 hc hle S n (j + 1) (by omega) (some (.int (j : Int))) (some (tupN (K j (c.getD j 0)))) b4
    refine ⟨c2, c3, c4, ?_⟩
    rw [List.range'_succ, List.all_cons, rg]
    rw [show ((j + 1 : Nat) : Int) = (j : Int) + 1 by omega] at ih
    have hr : rngD 0 (c.length : Int) = some (rg 0 c.length) := rngD_len (by omega)
    have ln : biD .len [tupN c] S = some (.int (c.length : Nat)) := by rw [tupN, biD_lenT, List.length_map]
    have cv : covB c (K j (c.getD j 0)) = (List.range c.length).all (fun q => decide ((K j (c.getD j 0)).getD q 0 ≤ c.getD q 0)) := rfl
    rw [← cv] at e1
    cases hb : covB c (K j (c.getD j 0)) with
    | true =>
      rw [hb, if_pos rfl] at e1
      have st : execs (C k) T0 l__law_is_cut_2 [some (ckD rows K), some (tupN c), some (.int (j : Int)), v3, v4] S = some (.nx [some (ckD rows K), some (tupN c), some (.int (j : Int)), some (tupN (K j (c.getD j 0))), b4] S) := by
        simp only [l__law_is_cut_2, execs, exec, evalE, evalEs, evalI, List.getElem?_cons_succ, List.getElem?_cons_zero, bnd_ok, r1, g2, okO_some, r2, bnS_ok, asg_n, List.set_cons_succ, List.set_cons_zero, seqS_nx, ln, hr, e1]
      simp only [forL, asg_n, List.set_cons_succ, List.set_cons_zero, st]
      rw [ih, Bool.true_and]
    | false =>
      rw [hb, if_neg (by decide)] at e1
      have st : execs (C k) T0 l__law_is_cut_2 [some (ckD rows K), some (tupN c), some (.int (j : Int)), v3, v4] S = some (.rt (.bl false) S) := by
        simp only [l__law_is_cut_2, execs, exec, evalE, evalEs, evalI, List.getElem?_cons_succ, List.getElem?_cons_zero, bnd_ok, r1, g2, okO_some, r2, bnS_ok, asg_n, List.set_cons_succ, List.set_cons_zero, seqS_nx, ln, hr, e1, seqS_rt]
      simp only [forL, asg_n, List.set_cons_succ, List.set_cons_zero, st]
      rw [Bool.false_and, if_neg (by decide)]
theorem law_is_cut_c (k : Nat) (hK : IsClk rows K) (h6 : rows.length ≤ 6) {c : List Nat} (hc : c ∈ allV (sizesV rows)) : callP (C (k + 1)) true i__law_is_cut [ckD rows K, tupN c] S = some (.ok (.bl (cutB K c)) S) := by
  obtain ⟨hl, hle⟩ := mem_all.mp hc
  refine callP_t (S1 := []) (by simp only [pures, ckD_pure, tupN_pure, Bool.and_true]) ?_ rfl
  rw [c__law_is_cut]
  obtain ⟨c2, c3, c4, e⟩ := lic_outer k hK h6 hl hle [] c.length 0 (by omega) none none none
  rw [← List.range_eq_range', show ((0 : Nat) : Int) = 0 from rfl] at e
  have cv : (List.range c.length).all (fun p => covB c (K p (c.getD p 0))) = cutB K c := rfl
  rw [cv] at e
  have hr : rngD 0 (c.length : Int) = some (rg 0 c.length) := rngD_len (by omega)
  have ln : ∀ S, biD .len [tupN c] S = some (.int (c.length : Nat)) := fun S => by rw [tupN, biD_lenT, List.length_map]
  have e0 : exec (C k) T0 (.for (.n 2) (.rng1 (.bi .len (.cons (.v 1) .nil))) l__law_is_cut_2) [some (ckD rows K), some (tupN c), none, none, none] [] = if cutB K c then some (.nx [some (ckD rows K), some (tupN c), c2, c3, c4] []) else some (.rt (.bl false) []) := by
    rw [← e]
    simp only [exec, evalI, evalE, evalEs, List.getElem?_cons_succ, List.getElem?_cons_zero, bnd_ok, ln, okO_some, hr, bnS_ok]
  cases hb : cutB K c with
  | true =>
    rw [hb, if_pos rfl] at e0
    simp only [b__law_is_cut, execs, e0, seqS_nx]
    simp only [exec, evalE, Cst.d, bnS_ok, seqS_rt, outS_rt]
  | false =>
    rw [hb, if_neg (by decide)] at e0
    simp only [b__law_is_cut, execs, e0, seqS_rt, outS_rt]
end
/-! ### == and in, of vectors and lists of them -/
theorem pds_V : ∀ l : List (List Nat), pds (l.map tupN) = some (l.map pdV)
  | [] => rfl
  | c :: l => by rw [List.map_cons, pds, pd_tupN, pds_V l]; rfl
theorem pds_N (l : List Nat) : pds (intsN l) = some (l.map fun x : Nat => PySem.PyData.int x) := by
  have := pds_ints (l.map fun x : Nat => (x : Int))
  rw [List.map_map, List.map_map] at this
  exact this
theorem eqvAll_N : ∀ a b : List Nat, PySem.PyData.eqvAll (a.map fun x : Nat => PySem.PyData.int x) (b.map fun x : Nat => PySem.PyData.int x) = decide (a = b)
  | [], [] => by simp [PySem.PyData.eqvAll]
  | [], y :: b => by simp [PySem.PyData.eqvAll]
  | x :: a, [] => by simp [PySem.PyData.eqvAll]
  | x :: a, y :: b => by
    rw [List.map_cons, List.map_cons, PySem.PyData.eqvAll, eqvAll_N a b]
    simp [PySem.PyData.eqv]
    rw [Bool.eq_iff_iff]
    simp
    omega
theorem eqv_V (a b : List Nat) : PySem.PyData.eqv (pdV a) (pdV b) = decide (a = b) := by
  unfold pdV
  rw [PySem.PyData.eqv]; exact eqvAll_N a b
theorem eqvAll_V : ∀ a b : List (List Nat), PySem.PyData.eqvAll (a.map pdV) (b.map pdV) = decide (a = b)
  | [], [] => by simp [PySem.PyData.eqvAll]
  | [], y :: b => by simp [PySem.PyData.eqvAll]
  | x :: a, [] => by simp [PySem.PyData.eqvAll]
  | x :: a, y :: b => by
    rw [List.map_cons, List.map_cons, PySem.PyData.eqvAll, eqvAll_V a b, eqv_V]
    rw [Bool.eq_iff_iff]
    simp
theorem lay_N (l : List Nat) : PySem.PyData.canLayAll0 (l.map fun x : Nat => PySem.PyData.int x) = true := by
  have := lay_ints (l.map fun x : Nat => (x : Int))
  rw [List.map_map] at this
  exact this
theorem dep_N (l : List Nat) : PySem.PyData.depthAll (l.map fun x : Nat => PySem.PyData.int x) ≤ 1 := by
  have := dep_ints (l.map fun x : Nat => (x : Int))
  rw [List.map_map] at this
  exact this
theorem shaped_N (l : List Nat) : PySem.SeqAt.shaped (.list (l.map fun x : Nat => PySem.PyData.int x)) = true := by
  unfold PySem.SeqAt.shaped
  have d := dep_N l
  rw [Bool.and_eq_true]
  refine ⟨by simp [PySem.PyData.canLay0, lay_N l], ?_⟩
  simp [PySem.PyData.depth]
  omega
theorem shaped_V (c : List Nat) : PySem.SeqAt.shaped (pdV c) = true := by
  unfold PySem.SeqAt.shaped
  have d := dep_V c
  rw [Bool.and_eq_true]
  refine ⟨by unfold pdV; simp [PySem.PyData.canLay0, lay_N c], ?_⟩
  simp
  omega
theorem lay_VL : ∀ l : List (List Nat), PySem.PyData.canLayAll0 (l.map pdV) = true
  | [] => by simp [PySem.PyData.canLayAll0]
  | c :: l => by
    have := PySem.SeqAt.canLay_of_shaped (shaped_V c)
    simp [PySem.PyData.canLayAll0, this, lay_VL l]
theorem dep_VL : ∀ l : List (List Nat), PySem.PyData.depthAll (l.map pdV) ≤ 2
  | [] => by simp [PySem.PyData.depthAll]
  | c :: l => by
    have h1 := dep_VL l
    have h2 := dep_V c
    simp [PySem.PyData.depthAll]
    omega
theorem shaped_VL (l : List (List Nat)) : PySem.SeqAt.shaped (.list (l.map pdV)) = true := by
  unfold PySem.SeqAt.shaped
  have d := dep_VL l
  rw [Bool.and_eq_true]
  refine ⟨by simp [PySem.PyData.canLay0, lay_VL l], ?_⟩
  simp [PySem.PyData.depth]
  omega
section
variable {S : Sto}
theorem res_V (c : List Nat) : res2 S (tupN c) = tupN c := rfl
theorem pdr_VL (l : List (List Nat)) : pd (res2 S (.lst (l.map tupN))) = some (.list (l.map pdV)) := by
  have r1 : (l.map tupN).map (res1 S) = l.map tupN := by
    rw [List.map_map]
    exact List.map_congr_left fun _ _ => rfl
  show (pds ((l.map tupN).map (res1 S))).map PySem.PyData.list = _
  rw [r1, pds_V]; rfl
theorem pdr_NL (l : List Nat) : pd (res2 S (.lst (intsN l))) = some (.list (l.map fun x : Nat => PySem.PyData.int x)) := by
  have r1 : (intsN l).map (res1 S) = intsN l := by
    unfold intsN
    rw [List.map_map]
    exact List.map_congr_left fun _ _ => rfl
  show (pds ((intsN l).map (res1 S))).map PySem.PyData.list = _
  rw [r1, pds_N]; rfl
theorem res_ref {n : Nat} {xs : List D} (h : S[n]? = some (.lst xs)) : res2 S (.ref n) = res2 S (.lst xs) := by
  show (match getL S n with
    | some xs => D.lst (xs.map (res1 S))
    | none => .ref n) = _
  rw [getL_eq h]; rfl
theorem eqD_V (a b : List Nat) : eqD S (tupN a) (tupN b) = some (decide (a = b)) := by
  show (match pd (res2 S (tupN a)), pd (res2 S (tupN b)) with
    | some a, some b => if PySem.SeqAt.shaped a = true ∧ PySem.SeqAt.shaped b = true then some (PySem.PyData.eqv a b) else none
    | _, _ => none) = _
  rw [res_V, res_V, pd_tupN, pd_tupN]
  simp only
  rw [if_pos ⟨shaped_V a, shaped_V b⟩, eqv_V]
theorem eqD_VL (a b : List (List Nat)) : eqD S (.lst (a.map tupN)) (.lst (b.map tupN)) = some (decide (a = b)) := by
  show (match pd (res2 S (.lst (a.map tupN))), pd (res2 S (.lst (b.map tupN))) with
    | some a, some b => if PySem.SeqAt.shaped a = true ∧ PySem.SeqAt.shaped b = true then some (PySem.PyData.eqv a b) else none
    | _, _ => none) = _
  rw [pdr_VL, pdr_VL]
  simp only
  rw [if_pos ⟨shaped_VL a, shaped_VL b⟩, PySem.PyData.eqv, eqvAll_V]
theorem eqD_NL (a b : List Nat) : eqD S (.lst (intsN a)) (.lst (intsN b)) = some (decide (a = b)) := by
  show (match pd (res2 S (.lst (intsN a))), pd (res2 S (.lst (intsN b))) with
    | some a, some b => if PySem.SeqAt.shaped a = true ∧ PySem.SeqAt.shaped b = true then some (PySem.PyData.eqv a b) else none
    | _, _ => none) = _
  rw [pdr_NL, pdr_NL]
  simp only
  rw [if_pos ⟨shaped_N a, shaped_N b⟩, PySem.PyData.eqv, eqvAll_N]
theorem eqD_NR {n : Nat} (a b : List Nat) (h : S[n]? = some (.lst (intsN a))) : eqD S (.ref n) (.lst (intsN b)) = some (decide (a = b)) := by
  show (match pd (res2 S (.ref n)), pd (res2 S (.lst (intsN b))) with
    | some a, some b => if PySem.SeqAt.shaped a = true ∧ PySem.SeqAt.shaped b = true then some (PySem.PyData.eqv a b) else none
    | _, _ => none) = _
  rw [res_ref h, pdr_NL, pdr_NL]
  simp only
  rw [if_pos ⟨shaped_N a, shaped_N b⟩, PySem.PyData.eqv, eqvAll_N]
theorem inD_V (c : List Nat) (l : List (List Nat)) : inD S (tupN c) (.lst (l.map tupN)) = some (decide (c ∈ l)) := by
  show (match pd (tupN c), pd (res2 S (.lst (l.map tupN))) with
    | some a, some (.list b) => if PySem.SeqAt.shaped a = true ∧ PySem.SeqAt.shaped (.list b) = true then some (b.any fun z => PySem.PyData.eqv z a) else none
    | _, _ => none) = _
  rw [pdr_VL, pd_tupN]
  simp only
  rw [if_pos ⟨shaped_V c, shaped_VL l⟩]
  congr 1
  rw [Bool.eq_iff_iff, List.any_eq_true, decide_eq_true_eq]
  constructor
  · rintro ⟨z, hz, e⟩
    obtain ⟨n, hn, rfl⟩ := List.mem_map.mp hz
    rw [eqv_V, decide_eq_true_eq] at e
    rw [← e]; exact hn
  · intro h
    exact ⟨_, List.mem_map.mpr ⟨c, h, rfl⟩, by rw [eqv_V]; simp⟩
end
/-! ### dicts with vectors as keys -/
def keyV (c : List Nat) : List Key := c.map fun x : Nat => .inl (x : Int)
theorem kKeys_V : ∀ c : List Nat, kKeys (c.map fun x : Nat => D.int x) = some (keyV c)
  | [] => rfl
  | x :: c => by
    rw [List.map_cons, kKeys, kKeys_V c]; rfl
theorem tKey_V (c : List Nat) : tKey (tupN c) = some (keyV c) := kKeys_V c
theorem keyV_inj : ∀ {a b : List Nat}, keyV a = keyV b → a = b
  | [], [], _ => rfl
  | [], y :: b, h => by cases h
  | x :: a, [], h => by cases h
  | x :: a, y :: b, h => by
    have h' : (Sum.inl (x : Int) : Key) :: keyV a = Sum.inl (y : Int) :: keyV b := h
    injection h' with h1 h2
    injection h1 with h1
    rw [keyV_inj h2, Int.ofNat.inj h1]
def ktV (l : List (List Nat)) : Ob := .dct 1 (l.map tupN) (l.map fun _ => .bl true)
def insV (c : List Nat) (l : List (List Nat)) : List (List Nat) := if c ∈ l then l else l ++ [c]
theorem lookK_ktV (c : List Nat) : ∀ ks : List (List Nat), lookK tKey (keyV c) (ks.map tupN) (ks.map fun _ => .bl true) = if c ∈ ks then some (.bl true) else none
  | [] => rfl
  | a :: ks => by
    rw [List.map_cons, List.map_cons, lookK, lookK_ktV c ks, tKey_V]
    by_cases h : a = c
    · subst h; simp
    · have h2 : ¬ (some (keyV a) = some (keyV c)) := fun z => h (keyV_inj (Option.some.inj z))
      rw [if_neg h2]
      simp only [List.mem_cons, show ¬ (c = a) from fun e => h e.symm, false_or]
theorem repV_ktV (c : List Nat) : ∀ ks : List (List Nat), repV tKey (keyV c) (.bl true) (ks.map tupN) (ks.map fun _ => .bl true) = ks.map fun _ => .bl true
  | [] => rfl
  | a :: ks => by
    rw [List.map_cons, List.map_cons, repV, repV_ktV c ks]
    split <;> rfl
theorem putS_ktV {ks : List (List Nat)} {c : List Nat} {env : Ip.En} {U : Sto} (h : ks.length ≤ 1000000) : putS U.length (tupN c) (.bl true) env (U ++ [ktV ks]) = some (.nx env (U ++ [ktV (insV c ks)])) := by
  have e0 : (U ++ [ktV ks])[U.length]? = some (.dct 1 (ks.map tupN) (ks.map fun _ => .bl true)) := at_last U _
  unfold putS
  rw [e0]
  simp only
  rw [if_pos (by rw [List.length_map, PySem.sizeLine_eq]; omega)]
  have e1 : dPut (1, ks.map tupN, ks.map fun _ => D.bl true) (tupN c) (.bl true) = some ((insV c ks).map tupN, (insV c ks).map fun _ => .bl true) := by
    show (tKey (tupN c)).map (fun k => putW tKey k (tupN c) (.bl true) (ks.map tupN) (ks.map fun _ => .bl true)) = _
    rw [tKey_V]
    show some (putW tKey (keyV c) (tupN c) (.bl true) (ks.map tupN) (ks.map fun _ => .bl true)) = _
    unfold putW insV
    rw [lookK_ktV]
    by_cases z : c ∈ ks
    · rw [if_pos z, if_pos z, repV_ktV]; rfl
    · rw [if_neg z, if_neg z]; simp
  rw [e1]
  simp only [Option.map_some]
  rw [set_last]; rfl
theorem insV_len (c : List Nat) (l : List (List Nat)) : (insV c l).length ≤ l.length + 1 := by unfold insV; split <;> simp
theorem insV_mem {c x : List Nat} {l : List (List Nat)} : x ∈ insV c l ↔ x ∈ l ∨ x = c := by
  unfold insV
  split
  · rename_i h
    constructor
    · exact .inl
    · rintro (h' | rfl)
      · exact h'
      · exact h
  · simp
theorem insV_nodup {c : List Nat} {l : List (List Nat)} (h : l.Nodup) : (insV c l).Nodup := by
  unfold insV
  split
  · exact h
  · rename_i hn
    rw [List.nodup_append]
    exact ⟨h, by simp, fun a ha b hb e => hn (by rw [List.mem_singleton.mp hb] at e; rw [← e]; exact ha)⟩
end Lk
namespace Lk
open PyProof.Rows L2 Ip
/-! ### states -/
def stA (s : List Int) (r : List Ev) : List Int := r.foldl (fun s e => stApp s e.cs) s
theorem stA_len : ∀ (r : List Ev) (s : List Int), (stA s r).length = s.length
  | [], s => rfl
  | e :: r, s => by
    show (stA (stApp s e.cs) r).length = _
    rw [stA_len r, stApp_len]
theorem stS_get : ∀ (r : List Ev) (s : List Int) (i : Nat), i ≤ r.length → (stS s r)[i]? = some (stA s (r.take i))
  | [], s, i, h => by
    have : i = 0 := Nat.le_zero.mp h
    subst this; rfl
  | e :: r, s, 0, h => rfl
  | e :: r, s, i + 1, h => by
    rw [stS, List.getElem?_cons_succ, stS_get r _ i (by simpa using h)]
    rfl
def abcdK : List D := [.str (mk [97]), .str (mk [98]), .str (mk [99]), .str (mk [100])]
theorem abcd_k : ([Cst.str "a", .str "b", .str "c", .str "d"].map Cst.d) = abcdK := by rfl
def dO (s : List Int) : Ob := .dct 0 abcdK (s.map .int)
def stDct (s : List Int) : D := .dct 0 abcdK (s.map .int)
theorem four {s : List Int} (h : s.length = 4) : ∃ a b c d, s = [a, b, c, d] := by
  match s, h with
  | [a, b, c, d], _ => exact ⟨a, b, c, d, rfl⟩
theorem put_st {s : List Int} (hs : s.length = 4) {v : Nat} (hv : 97 ≤ v ∧ v ≤ 100) (x : Int) (env : Ip.En) : putS 0 (.str (mk [v])) (.int x) env [dO s] = some (.nx env [dO (s.set (v - 97) x)]) := by
  obtain ⟨a, b, c, d, rfl⟩ := four hs
  show (if abcdK.length < PySem.sizeLine then (dPut (0, abcdK, [a, b, c, d].map D.int) (.str (mk [v])) (.int x)).map fun q : List D × List D => So.nx env [Ob.dct 0 q.1 q.2] else none) = _
  rw [if_pos (by rw [PySem.sizeLine_eq]; decide)]
  show (some (putW kKey (.inr (mk [v])) (.str (mk [v])) (.int x) abcdK ([a, b, c, d].map D.int))).map _ = _
  have : v = 97 ∨ v = 98 ∨ v = 99 ∨ v = 100 := by omega
  rcases this with rfl | rfl | rfl | rfl <;> simp [putW, abcdK, lookK, repV, kKey, dO, mk_inj]
theorem get_st {s : List Int} (hs : s.length = 4) (S : Sto) : ∃ a b c d, s = [a, b, c, d] ∧ ixD S (stDct s) (.str "a") = some (.int a) ∧ ixD S (stDct s) (.str "b") = some (.int b) ∧ ixD S (stDct s) (.str "c") = some (.int c) ∧ ixD S (stDct s) (.str "d") = some (.int d) := by
  obtain ⟨a, b, c, d, rfl⟩ := four hs
  have key : ∀ (v : Nat) (y : PySem.Str), y = mk [v] → ixD S (stDct [a, b, c, d]) (.str y) = (match lookK kKey (.inr (mk [v])) abcdK ([a, b, c, d].map D.int) with
    | some d => some d
    | none => none) := fun v y e => by
    subst e
    show (match dGet (0, abcdK, [a, b, c, d].map D.int) (.str (mk [v])) with
      | some (some d) => some d
      | _ => none) = _
    have g : dGet (0, abcdK, [a, b, c, d].map D.int) (.str (mk [v])) = some (lookK kKey (.inr (mk [v])) abcdK ([a, b, c, d].map D.int)) := rfl
    rw [g]
    cases lookK kKey (.inr (mk [v])) abcdK ([a, b, c, d].map D.int) <;> rfl
  refine ⟨a, b, c, d, rfl, ?_, ?_, ?_, ?_⟩
  · rw [key 97 "a" rfl]; simp [abcdK, lookK, kKey, mk_inj]
  · rw [key 98 "b" rfl]; simp [abcdK, lookK, kKey, mk_inj]
  · rw [key 99 "c" rfl]; simp [abcdK, lookK, kKey, mk_inj]
  · rw [key 100 "d" rfl]; simp [abcdK, lookK, kKey, mk_inj]
theorem abcdK_pure : pures abcdK = true := rfl
/-! ### letters under way -/
/-- is l taken in the cut? -/
def takB (rows : Rn) (c : List Nat) (l : Int) : Bool := (plS false 0 rows).any fun q => decide (q.1 = l) && decide (q.2.2 ≤ c.getD q.2.1 0)
def wayL (rows : Rn) (c : List Nat) : List Pl := (plS true 0 rows).filter fun q => decide (q.2.2 ≤ c.getD q.2.1 0) && !takB rows c q.1
def evK (b : Bool) (r : List Ev) : List Int := if b then sendsR r else takesR r
theorem plR_cut (b : Bool) (p : Nat) (m : Nat) : ∀ (r : List Ev) (i : Nat), ((plR b p i r).filter fun q => decide (q.2.2 ≤ m)).map (·.1) = evK b (r.take (m - i))
  | [], i => by cases b <;> simp [plR, evK, sendsR, takesR]
  | e :: r, i => by
    rw [plR, List.filter_append, List.map_append, plR_cut b p m r (i + 1)]
    by_cases h : i < m
    · obtain ⟨k, hk⟩ : ∃ k, m - i = k + 1 := ⟨m - i - 1, by omega⟩
      rw [hk, List.take_succ_cons, show m - (i + 1) = k by omega]
      cases e <;> cases b <;> simp [plE, evK, sendsR, takesR, show i + 1 ≤ m by omega]
    · rw [show m - i = 0 by omega, show m - (i + 1) = 0 by omega, List.take_zero, List.take_zero]
      cases e <;> cases b <;> simp [plE, evK, sendsR, takesR, show ¬ (i + 1 ≤ m) by omega]
theorem plR_fst {b : Bool} {p : Nat} {r : List Ev} {i : Nat} {q : Pl} (h : q ∈ plR b p i r) : q.2.1 = p := by
  obtain ⟨l, a, j⟩ := q
  exact (mem_plR.mp h).1
/-- the letters of the first events of each row -/
def letC (b : Bool) (c : List Nat) : Nat → Rn → List Int
  | _, [] => []
  | p, r :: rs => evK b (r.take (c.getD p 0)) ++ letC b c (p + 1) rs
theorem plS_cut (b : Bool) (c : List Nat) : ∀ (rs : Rn) (p : Nat), ((plS b p rs).filter fun q => decide (q.2.2 ≤ c.getD q.2.1 0)).map (·.1) = letC b c p rs
  | [], p => rfl
  | r :: rs, p => by
    rw [plS, List.filter_append, List.map_append, plS_cut b c rs (p + 1), letC]
    congr 1
    have := plR_cut b p (c.getD p 0) r 0
    rw [Nat.sub_zero] at this
    rw [← this]
    congr 1
    refine List.filter_congr fun q hq => ?_
    rw [plR_fst hq]
theorem takB_iff {rows : Rn} {c : List Nat} {l : Int} : takB rows c l = true ↔ l ∈ letC false c 0 rows := by
  rw [← plS_cut, takB, List.any_eq_true, List.mem_map]
  constructor
  · rintro ⟨q, hq, h⟩
    rw [Bool.and_eq_true, decide_eq_true_eq, decide_eq_true_eq] at h
    exact ⟨q, List.mem_filter.mpr ⟨hq, decide_eq_true h.2⟩, h.1⟩
  · rintro ⟨q, hq, h⟩
    obtain ⟨h1, h2⟩ := List.mem_filter.mp hq
    exact ⟨q, h1, by rw [Bool.and_eq_true, decide_eq_true_eq]; exact ⟨h, h2⟩⟩
/-- as the law counts -/
theorem way_law (rows : Rn) (c : List Nat) : (wayL rows c).length = ((letC true c 0 rows).filter fun l => !decide (l ∈ letC false c 0 rows)).length := by
  rw [← plS_cut true, wayL]
  have e : ((plS true 0 rows).filter fun q => decide (q.2.2 ≤ c.getD q.2.1 0) && !takB rows c q.1) = (((plS true 0 rows).filter fun q => decide (q.2.2 ≤ c.getD q.2.1 0)).filter fun q => !takB rows c q.1) := by
    rw [List.filter_filter]
    congr 1
    funext q
    rw [Bool.and_comm]
  rw [e, List.filter_map, List.length_map]
  congr 1
  refine List.filter_congr fun q _ => ?_
  simp only [Function.comp]
  congr 1
  rw [Bool.eq_iff_iff, takB_iff, decide_eq_true_eq]
end Lk
namespace Lk
open PyProof.Rows L2 Ip
/-! ### the law's states -/
theorem lst_inner (k : Nat) (v0 v1 v2 v4 : Option D) : ∀ (cs : List Ch), (∀ q ∈ cs, chOk q) → ∀ (s : List Int) (v5 v6 : Option D), s.length = 4 →
    ∃ c5 c6, forL (.t (.cons (.n 5) (.cons (.n 6) .nil))) (fun e S => execs (C k) T0 l__law_state_1 e S) (cs.map chD) [v0, v1, v2, some (.ref 0), v4, v5, v6] [dO s] = some (.nx [v0, v1, v2, some (.ref 0), v4, c5, c6] [dO (stApp s cs)])
  | [], _, s, v5, v6, _ => ⟨v5, v6, rfl⟩
  | q :: cs, hq, s, v5, v6, hs => by
    obtain ⟨c5, c6, e⟩ := lst_inner k v0 v1 v2 v4 cs (fun z hz => hq z (List.mem_cons_of_mem _ hz)) (s.set (q.1 - 97) q.2) (some (.str (mk [q.1]))) (some (.int q.2)) (by rw [List.length_set]; exact hs)
    refine ⟨c5, c6, ?_⟩
    have as : asgT (.t (.cons (.n 5) (.cons (.n 6) .nil))) (chD q) [v0, v1, v2, some (.ref 0), v4, v5, v6] = some [v0, v1, v2, some (.ref 0), v4, some (.str (mk [q.1])), some (.int q.2)] := rfl
    have pu := fun env => put_st hs (hq q (List.mem_cons_self ..)).1 q.2 env
    have st : execs (C k) T0 l__law_state_1 [v0, v1, v2, some (.ref 0), v4, some (.str (mk [q.1])), some (.int q.2)] [dO s] = some (.nx [v0, v1, v2, some (.ref 0), v4, some (.str (mk [q.1])), some (.int q.2)] [dO (s.set (q.1 - 97) q.2)]) := by
      simp only [l__law_state_1, execs, exec, evalE, List.getElem?_cons_succ, List.getElem?_cons_zero, bnS_ok, pu, seqS_nx]
    rw [List.map_cons]
    simp only [forL, as, st]
    exact e
theorem ev_lastD (e : Ev) (U : Sto) : ixD U e.d (.int (-1)) = some (csD e.cs) := by
  cases e with
  | step cs => exact L2.atI_last [.str "step"] (csD cs)
  | send l cs => exact L2.atI_last [.str "send", .int l] (csD cs)
  | take l cs => exact L2.atI_last [.str "take", .int l] (csD cs)
theorem lst_outer (k : Nat) (v0 v1 v2 : Option D) : ∀ (r : List Ev), (∀ e ∈ r, e.ok) → ∀ (s : List Int) (v4 v5 v6 : Option D), s.length = 4 →
    ∃ c4 c5 c6, forL (.n 4) (fun e S => execs (C k) T0 l__law_state_2 e S) (r.map Ev.d) [v0, v1, v2, some (.ref 0), v4, v5, v6] [dO s] = some (.nx [v0, v1, v2, some (.ref 0), c4, c5, c6] [dO (stA s r)])
  | [], _, s, v4, v5, v6, _ => ⟨v4, v5, v6, rfl⟩
  | e :: r, hr, s, v4, v5, v6, hs => by
    have ho := hr e (List.mem_cons_self ..)
    obtain ⟨b5, b6, e1⟩ := lst_inner k v0 v1 v2 (some e.d) e.cs ho.1.1 s v5 v6 hs
    obtain ⟨c4, c5, c6, e2⟩ := lst_outer k v0 v1 v2 r (fun z hz => hr z (List.mem_cons_of_mem _ hz)) (stApp s e.cs) (some e.d) b5 b6 (by rw [stApp_len]; exact hs)
    refine ⟨c4, c5, c6, ?_⟩
    have la := fun U => ev_lastD e U
    have it : itD (csD e.cs) = some (e.cs.map chD) := rfl
    have st : execs (C k) T0 l__law_state_2 [v0, v1, v2, some (.ref 0), some e.d, v5, v6] [dO s] = some (.nx [v0, v1, v2, some (.ref 0), some e.d, b5, b6] [dO (stApp s e.cs)]) := by
      simp only [l__law_state_2, execs, exec, evalI, evalE, List.getElem?_cons_succ, List.getElem?_cons_zero, bnd_ok, Cst.d, la, okO_some, it, bnS_ok, e1, seqS_nx]
    rw [List.map_cons]
    simp only [forL, asg_n, List.set_cons_succ, List.set_cons_zero, st]
    exact e2
def stAt (rows : Rn) (p i : Nat) : List Int := stA [0, 0, 0, 0] ((rows.getD p []).take i)
theorem stAt_len (rows : Rn) (p i : Nat) : (stAt rows p i).length = 4 := stA_len _ _
theorem row_ok {rows : Rn} (h : RunShape rows) {p : Nat} (hp : p < rows.length) : ∀ e ∈ rows.getD p [], e.ok := by
  rw [getD_of hp]; exact (h.2 _ (List.getElem_mem hp)).2
theorem law_state_c (k : Nat) {rows : Rn} (hR : Rnn rows) {p i : Nat} (hp : p < rows.length) (S : Sto) : callP (C (k + 1)) true i__law_state [rnD rows, .int (p : Int), .int (i : Int)] S = some (.ok (stDct (stAt rows p i)) S) := by
  have ro := row_ok hR.sh hp
  obtain ⟨c4, c5, c6, e⟩ := lst_outer k (some (rnD rows)) (some (.int (p : Int))) (some (.int (i : Int))) ((rows.getD p []).take i) (fun e he => ro e (List.mem_of_mem_take he)) [0, 0, 0, 0] none none none rfl
  have r1 := fun U => row_at hp U
  have sl : ∀ U, slD false (rowO rows p) none (some (i : Int)) U = some (.ok (.tup (((rows.getD p []).take i).map Ev.d)) U) := fun U => by
    show some (Ro.ok (D.tup (cutD ((rows.getD p []).map Ev.d) none (some (i : Int)))) U) = _
    rw [cutD_hi (by omega), Int.toNat_natCast, List.map_take]
  have it : ∀ l : List D, itD (.tup l) = some l := fun l => rfl
  have d0 : mkD true 0 ([Cst.str "a", .str "b", .str "c", .str "d"].map Cst.d) ([Cst.int 0, .int 0, .int 0, .int 0].map Cst.d) [] = some (.ok (.ref 0) [dO [0, 0, 0, 0]]) := rfl
  have body : C (k + 1) i__law_state [rnD rows, .int (p : Int), .int (i : Int)] [] = some (.ok (.ref 0) [dO (stAt rows p i)]) := by
    rw [c__law_state]
    have e : forL (.n 4) (fun e S => execs (C k) T0 l__law_state_2 e S) (((rows.getD p []).take i).map Ev.d) [some (rnD rows), some (.int (p : Int)), some (.int (i : Int)), some (.ref 0), none, none, none] [dO [0, 0, 0, 0]] = some (.nx [some (rnD rows), some (.int (p : Int)), some (.int (i : Int)), some (.ref 0), c4, c5, c6] [dO (stAt rows p i)]) := e
    generalize rowO rows p = ro' at *
    generalize ((rows.getD p []).take i).map Ev.d = evs at *
    simp only [b__law_state, execs, exec, evalI, evalE, evalO, d0, List.getElem?_cons_succ, List.getElem?_cons_zero, bnd_ok, bnS_ok, asg_n, List.set_cons_succ, List.set_cons_zero, seqS_nx, r1, okO_some, sl, it, e, seqS_rt, outS_rt]
  refine callP_z (by simp only [pures, rn_pure, D.pure, Bool.and_true]) body (S2 := [.dead]) ?_ (by unfold stDct; rw [D.pure, abcdK_pure, ints_pure]; rfl)
  rw [frz]
  have g : ([dO (stAt rows p i)] : Sto)[0]? = some (.dct 0 abcdK ((stAt rows p i).map .int)) := rfl
  simp only [g, mapF_pure 7 _ _ (ints_pure _)]
  rfl
/-! the order's states -/
section
variable {rows : Rn} {K : Clk} {S : Sto}
theorem om_state : mthD S 0 (ordD rows K) "state" = true := of_mth _ (by simp [oNm])
theorem state_c (k : Nat) {p i : Nat} (hp : p < rows.length) (hi : i ≤ lens rows p) : callP (C (k + 1)) true i_Order_state [ordD rows K, .int (p : Int), .int (i : Int)] S = some (.ok (tupI (stAt rows p i)) S) := by
  refine callP_t (S1 := []) (by simp only [pures, ordD_pure, D.pure, Bool.and_true]) ?_ (by unfold tupI; rw [D.pure, ints_pure])
  rw [c_Order_state]
  have f := of_states (rows := rows) (K := K) (S := [])
  have r1 : ∀ U, ixD U (.lst (rows.map stD)) (.int (p : Int)) = some (stD (rows.getD p [])) := fun U => by
    rw [ixD_lst, atI_nn, List.getElem?_map, List.getElem?_eq_getElem hp, getD_of hp]; rfl
  have r2 : ∀ U, ixD U (stD (rows.getD p [])) (.int (i : Int)) = some (tupI (stAt rows p i)) := fun U => by
    rw [stD, ixD_lst, atI_nn, List.getElem?_map, stS_get _ _ _ hi]; rfl
  generalize ordD rows K = o at *
  simp only [b_Order_state, execs, exec, evalE, List.getElem?_cons_succ, List.getElem?_cons_zero, bnd_ok, f, okO_some, r1, r2, bnS_ok, seqS_rt, outS_rt]
end
end Lk
namespace Lk
open PyProof.Rows L2 Ip
/-! ### under_way -/
def wayB (rows : Rn) (c : List Nat) (q : Pl) : Bool := decide (q.2.2 ≤ c.getD q.2.1 0) && !takB rows c q.1
section
variable {rows : Rn} {K : Clk} {S : Sto}
theorem of_sends : fldD S 0 (ordD rows K) "_sends" = some (pD (plS true 0 rows)) := by
  show (if 0 = 0 then fldL "_sends" oNm [rnD rows, .lst (rows.map stD), pD (plS true 0 rows), pD (plS false 0 rows), ckD rows K] else none) = _
  simp [fldL, oNm]
theorem of_takes : fldD S 0 (ordD rows K) "_takes" = some (pD (plS false 0 rows)) := by
  show (if 0 = 0 then fldL "_takes" oNm [rnD rows, .lst (rows.map stD), pD (plS true 0 rows), pD (plS false 0 rows), ckD rows K] else none) = _
  simp [fldL, oNm]
theorem om_under_way : mthD S 0 (ordD rows K) "under_way" = true := of_mth _ (by simp [oNm])
theorem pD_get (qs : List Pl) (l : Int) (d : D) (U : Sto) : meD .get (pD qs) [.int l, d] U = some (.ok (((qs.find? fun q => decide (q.1 = l)).map fun q => D.tup [.int q.2.1, .int q.2.2]).getD d) U) := by
  show okO ((dGet (0, kK qs, kV qs) (.int l)).map fun r => r.getD d) U = _
  rw [dGet_0i, lookK_pl]; rfl
theorem pD_notin (qs : List Pl) (l : Int) (U : Sto) : cmpD .notin (.int l) (pD qs) U = some (!(qs.find? fun q => decide (q.1 = l)).isSome) := by
  show (inD U (.int l) (pD qs)).map not = _
  have : inD U (.int l) (pD qs) = (dGet (0, kK qs, kV qs) (.int l)).map Option.isSome := rfl
  rw [this, dGet_0i, lookK_pl]
  simp
theorem pl_lt {b : Bool} {q : Pl} (h : q ∈ plS b 0 rows) : q.2.1 < rows.length := by
  obtain ⟨l, p, j⟩ := q
  obtain ⟨n, e, _, he, _⟩ := mem_pl.mp h
  exact ev_lt he
theorem uw_turn (k : Nat) (hR : Rnn rows) {c : List Nat} (hc : c.length = rows.length) {q : Pl} (hq : q ∈ plS true 0 rows) (m : Nat) (v6 v7 : Option D) :
    ∃ c6 c7, execs (C k) T0 l_Order_under_way_1 [some (ordD rows K), some (tupN c), some (.int (m : Int)), some (.int q.1), some (.int (q.2.1 : Int)), some (.int (q.2.2 : Int)), v6, v7] S =
      some (.nx [some (ordD rows K), some (tupN c), some (.int ((m + (if wayB rows c q then 1 else 0) : Nat) : Int)), some (.int q.1), some (.int (q.2.1 : Int)), some (.int (q.2.2 : Int)), c6, c7] S) := by
  obtain ⟨l, p, j⟩ := q
  have hp : p < rows.length := pl_lt hq
  have g1 := fun U => tupN_get (v := c) (i := p) (by omega) U
  have f := fun U => of_takes (rows := rows) (K := K) (S := U)
  unfold wayB
  simp only
  by_cases h : j ≤ c.getD p 0
  · have h' : (j : Int) ≤ ((c.getD p 0 : Nat) : Int) := by omega
    rw [decide_eq_true h, Bool.true_and]
    have gt := fun U => pD_get (plS false 0 rows) l (.tup [.int (p : Int), .int 0]) U
    have ni := fun U => pD_notin (plS false 0 rows) l U
    have ty : ∀ U, tyM .get (pD (plS false 0 rows)) U = true := fun U => rfl
    have ad : ∀ (U : Sto) (i : Int), augI .add i 1 = some (i + 1) := fun U i => rfl
    have e1 : ((m : Int) + 1) = ((m + 1 : Nat) : Int) := by omega
    cases hf : (plS false 0 rows).find? fun q => decide (q.1 = l) with
    | none =>
      have tk : takB rows c l = false := by
        unfold takB
        rw [List.any_eq_false]
        intro q hq2
        have := List.find?_eq_none.mp hf q hq2
        simp only [decide_eq_true_eq] at this
        rw [decide_eq_false this]; simp
      rw [hf] at gt ni
      rw [tk, Bool.not_false, if_pos rfl]
      simp only [Option.map_none, Option.getD_none] at gt
      simp only [Option.isSome_none, Bool.not_false] at ni
      refine ⟨some (.int (p : Int)), some (.int 0), ?_⟩
      have as : ∀ a b, asgT (.t (.cons (.n 6) (.cons (.n 7) .nil))) (.tup [.int (p : Int), .int 0]) [some (ordD rows K), some (tupN c), some (.int (m : Int)), some (.int l), some (.int (p : Int)), some (.int (j : Int)), a, b] = some [some (ordD rows K), some (tupN c), some (.int (m : Int)), some (.int l), some (.int (p : Int)), some (.int (j : Int)), some (.int (p : Int)), some (.int 0)] := fun _ _ => rfl
      generalize ordD rows K = o at *
      generalize pD (plS false 0 rows) = tk at *
      simp only [l_Order_under_way_1, execs, exec, evalT, evalE, evalEs, List.getElem?_cons_succ, List.getElem?_cons_zero, bnd_ok, g1, okO_some, cmpD_le, h', decide_true, bnS_ok, f, ty, if_true, Cst.d, List.length_cons, List.length_nil, le2, gt, as, seqS_nx, ni, augI, e1, List.set_cons_succ, List.set_cons_zero]
    | some q2 =>
      obtain ⟨l2, a, i⟩ := q2
      have hl2 : l2 = l := by have := List.find?_some hf; simpa using this
      subst hl2
      have hm := List.mem_of_find?_eq_some hf
      have ha : a < rows.length := pl_lt hm
      have g2 := fun U => tupN_get (v := c) (i := a) (by omega) U
      have tk : takB rows c l2 = decide (i ≤ c.getD a 0) := by
        unfold takB
        rw [Bool.eq_iff_iff, List.any_eq_true, decide_eq_true_eq]
        constructor
        · rintro ⟨q, hq2, hh⟩
          rw [Bool.and_eq_true, decide_eq_true_eq, decide_eq_true_eq] at hh
          have := nodup_fst (hR.lo.nd false) hq2 hm hh.1
          rw [this] at hh
          exact hh.2
        · intro hh
          exact ⟨_, hm, by rw [Bool.and_eq_true, decide_eq_true_eq, decide_eq_true_eq]; exact ⟨rfl, hh⟩⟩
      rw [hf] at gt ni
      rw [tk]
      simp only [Option.map_some, Option.getD_some] at gt
      simp only [Option.isSome_some, Bool.not_true] at ni
      refine ⟨some (.int (a : Int)), some (.int (i : Int)), ?_⟩
      have as : ∀ x y, asgT (.t (.cons (.n 6) (.cons (.n 7) .nil))) (.tup [.int (a : Int), .int (i : Int)]) [some (ordD rows K), some (tupN c), some (.int (m : Int)), some (.int l2), some (.int (p : Int)), some (.int (j : Int)), x, y] = some [some (ordD rows K), some (tupN c), some (.int (m : Int)), some (.int l2), some (.int (p : Int)), some (.int (j : Int)), some (.int (a : Int)), some (.int (i : Int))] := fun _ _ => rfl
      by_cases hh : i ≤ c.getD a 0
      · have h2 : ¬ ((c.getD a 0 : Nat) : Int) < (i : Int) := by omega
        rw [decide_eq_true hh, Bool.not_true, if_neg (by decide), Nat.add_zero]
        generalize ordD rows K = o at *
        generalize pD (plS false 0 rows) = tk at *
        simp only [l_Order_under_way_1, execs, exec, evalT, evalE, evalEs, List.getElem?_cons_succ, List.getElem?_cons_zero, bnd_ok, g1, okO_some, cmpD_le, h', decide_true, bnS_ok, f, ty, if_true, Cst.d, List.length_cons, List.length_nil, le2, gt, as, seqS_nx, ni, g2, cmpD_gt, h2, decide_false]
      · have h2 : ((c.getD a 0 : Nat) : Int) < (i : Int) := by omega
        rw [decide_eq_false hh, Bool.not_false, if_pos rfl]
        generalize ordD rows K = o at *
        generalize pD (plS false 0 rows) = tk at *
        simp only [l_Order_under_way_1, execs, exec, evalT, evalE, evalEs, List.getElem?_cons_succ, List.getElem?_cons_zero, bnd_ok, g1, okO_some, cmpD_le, h', decide_true, bnS_ok, f, ty, if_true, Cst.d, List.length_cons, List.length_nil, le2, gt, as, seqS_nx, ni, g2, cmpD_gt, h2, augI, e1, List.set_cons_succ, List.set_cons_zero]
  · have h' : ¬ (j : Int) ≤ ((c.getD p 0 : Nat) : Int) := by omega
    rw [decide_eq_false h, Bool.false_and, if_neg (by decide), Nat.add_zero]
    refine ⟨v6, v7, ?_⟩
    generalize ordD rows K = o at *
    simp only [l_Order_under_way_1, execs, exec, evalT, evalE, evalEs, List.getElem?_cons_succ, List.getElem?_cons_zero, bnd_ok, g1, okO_some, cmpD_le, h', decide_false, bnS_ok, seqS_nx]
theorem uw_loop (k : Nat) (hR : Rnn rows) {c : List Nat} (hc : c.length = rows.length) : ∀ (qs : List Pl), (∀ q ∈ qs, q ∈ plS true 0 rows) → ∀ (m : Nat) (v3 v4 v5 v6 v7 : Option D),
    ∃ c3 c4 c5 c6 c7, forL (.t (.cons (.n 3) (.cons (.t (.cons (.n 4) (.cons (.n 5) .nil))) .nil))) (fun e S => execs (C k) T0 l_Order_under_way_1 e S) (dWalk .items (kK qs) (kV qs)) [some (ordD rows K), some (tupN c), some (.int (m : Int)), v3, v4, v5, v6, v7] S =
      some (.nx [some (ordD rows K), some (tupN c), some (.int ((m + (qs.filter (wayB rows c)).length : Nat) : Int)), c3, c4, c5, c6, c7] S)
  | [], _, m, v3, v4, v5, v6, v7 => ⟨v3, v4, v5, v6, v7, rfl⟩
  | q :: qs, h, m, v3, v4, v5, v6, v7 => by
    obtain ⟨b6, b7, e1⟩ := uw_turn (S := S) (K := K) k hR hc (h q (List.mem_cons_self ..)) m v6 v7
    obtain ⟨c3, c4, c5, c6, c7, e2⟩ := uw_loop k hR hc qs (fun z hz => h z (List.mem_cons_of_mem _ hz)) (m + (if wayB rows c q then 1 else 0)) (some (.int q.1)) (some (.int (q.2.1 : Int))) (some (.int (q.2.2 : Int))) b6 b7
    refine ⟨c3, c4, c5, c6, c7, ?_⟩
    have dw : dWalk .items (kK (q :: qs)) (kV (q :: qs)) = .tup [.int q.1, .tup [.int (q.2.1 : Int), .int (q.2.2 : Int)]] :: dWalk .items (kK qs) (kV qs) := rfl
    have as : asgT (.t (.cons (.n 3) (.cons (.t (.cons (.n 4) (.cons (.n 5) .nil))) .nil))) (.tup [.int q.1, .tup [.int (q.2.1 : Int), .int (q.2.2 : Int)]]) [some (ordD rows K), some (tupN c), some (.int (m : Int)), v3, v4, v5, v6, v7] = some [some (ordD rows K), some (tupN c), some (.int (m : Int)), some (.int q.1), some (.int (q.2.1 : Int)), some (.int (q.2.2 : Int)), v6, v7] := rfl
    rw [dw]
    simp only [forL, as, e1]
    rw [e2, List.filter_cons]
    have : m + (if wayB rows c q then 1 else 0) + (qs.filter (wayB rows c)).length = m + (if wayB rows c q = true then q :: qs.filter (wayB rows c) else qs.filter (wayB rows c)).length := by
      split <;> simp <;> omega
    rw [this]
theorem under_way_c (k : Nat) (hR : Rnn rows) {c : List Nat} (hc : c.length = rows.length) : callP (C (k + 1)) true i_Order_under_way [ordD rows K, tupN c] S = some (.ok (.int ((wayL rows c).length : Nat)) S) := by
  refine callP_t (S1 := []) (by simp only [pures, ordD_pure, tupN_pure, Bool.and_true]) ?_ rfl
  rw [c_Order_under_way]
  obtain ⟨c3, c4, c5, c6, c7, e⟩ := uw_loop (S := []) (K := K) k hR hc (plS true 0 rows) (fun q h => h) 0 none none none none none
  rw [Nat.zero_add] at e
  have f := of_sends (rows := rows) (K := K) (S := [])
  have wl : (plS true 0 rows).filter (wayB rows c) = wayL rows c := rfl
  rw [wl] at e
  have e : forL (.t (.cons (.n 3) (.cons (.t (.cons (.n 4) (.cons (.n 5) .nil))) .nil))) (fun e S => execs (C k) T0 l_Order_under_way_1 e S) (dWalk .items (kK (plS true 0 rows)) (kV (plS true 0 rows))) [some (ordD rows K), some (tupN c), some (.int 0), none, none, none, none, none] [] = _ := e
  have x2 : exec (C k) T0 (.forD .items (.t (.cons (.n 3) (.cons (.t (.cons (.n 4) (.cons (.n 5) .nil))) .nil))) (.att 0 (.v 0) "_sends") l_Order_under_way_1) [some (ordD rows K), some (tupN c), some (.int 0), none, none, none, none, none] [] = some (.nx [some (ordD rows K), some (tupN c), some (.int ((wayL rows c).length : Nat)), c3, c4, c5, c6, c7] []) := by
    generalize ordD rows K = o at *
    simp only [exec, evalE, List.getElem?_cons_zero, bnd_ok, f, okO_some, bnS_ok]
    exact e
  have x1 : exec (C k) T0 (.asg (.n 2) (.c (.int 0))) [some (ordD rows K), some (tupN c), none, none, none, none, none, none] [] = some (.nx [some (ordD rows K), some (tupN c), some (.int 0), none, none, none, none, none] []) := rfl
  unfold b_Order_under_way
  rw [ex_go x1, ex_go x2]
  simp only [execs, exec, evalE, List.getElem?_cons_succ, List.getElem?_cons_zero, bnS_ok, seqS_rt, outS_rt]
end
end Lk
namespace Lk
open PyProof.Rows L2 Ip
/-! ### the law's count of letters under way -/
def wS (a b : List Int) : Sto := [.lst (a.map .int), .lst (b.map .int)]
theorem s_st : ¬ (PySem.Str.ofString "send" = PySem.Str.ofString "take") := by decide +kernel
theorem s_ts : ¬ (PySem.Str.ofString "take" = PySem.Str.ofString "send") := by decide +kernel
theorem s_ps : ¬ (PySem.Str.ofString "step" = PySem.Str.ofString "send") := by decide +kernel
theorem s_pt : ¬ (PySem.Str.ofString "step" = PySem.Str.ofString "take") := by decide +kernel
theorem lw_ev (k : Nat) (v0 v1 v4 v6 : Option D) : ∀ (r : List Ev) (a b : List Int) (v5 : Option D), a.length + r.length ≤ 1000 → b.length + r.length ≤ 1000 →
    ∃ c5, forL (.n 5) (fun e S => execs (C k) T0 l__law_way_1 e S) (r.map Ev.d) [v0, v1, some (.ref 0), some (.ref 1), v4, v5, v6] (wS a b) = some (.nx [v0, v1, some (.ref 0), some (.ref 1), v4, c5, v6] (wS (a ++ sendsR r) (b ++ takesR r)))
  | [], a, b, v5, _, _ => ⟨v5, by simp [forL, sendsR, takesR]⟩
  | e :: r, a, b, v5, ha, hb => by
    rw [List.length_cons] at ha hb
    have g0 : (wS a b)[0]? = some (.lst (a.map .int)) := rfl
    have g1 : (wS a b)[1]? = some (.lst (b.map .int)) := rfl
    have t0 := tyM_app g0
    have t1 := tyM_app g1
    cases e with
    | step cs =>
      obtain ⟨c5, e2⟩ := lw_ev k v0 v1 v4 v6 r a b (some (Ev.step cs).d) (by omega) (by omega)
      refine ⟨c5, ?_⟩
      have i0 : ∀ U, ixD U (Ev.step cs).d (.int 0) = some (.str "step") := fun U => by rw [Ev.d, ixD_tup, atI_z]
      have c1 : ∀ U, cmpD .eq (.str "step") (.str "send") U = some false := fun U => by rw [cmpD_eq, eqD_str]; simp [s_ps]
      have c2 : ∀ U, cmpD .eq (.str "step") (.str "take") U = some false := fun U => by rw [cmpD_eq, eqD_str]; simp [s_pt]
      have st : execs (C k) T0 l__law_way_1 [v0, v1, some (.ref 0), some (.ref 1), v4, some (Ev.step cs).d, v6] (wS a b) = some (.nx [v0, v1, some (.ref 0), some (.ref 1), v4, some (Ev.step cs).d, v6] (wS a b)) := by
        generalize (Ev.step cs).d = ed at *
        simp only [l__law_way_1, execs, exec, evalT, evalE, List.getElem?_cons_succ, List.getElem?_cons_zero, bnd_ok, Cst.d, i0, okO_some, c1, c2, bnS_ok, seqS_nx]
      rw [List.map_cons]
      simp only [forL, asg_n, List.set_cons_succ, List.set_cons_zero, st]
      exact e2
    | send l cs =>
      obtain ⟨c5, e2⟩ := lw_ev k v0 v1 v4 v6 r (a ++ [l]) b (some (Ev.send l cs).d) (by rw [List.length_append, List.length_singleton]; omega) (by omega)
      refine ⟨c5, ?_⟩
      have ap := meD_app (d := .int l) g0 (by rw [List.length_map, PySem.sizeLine_eq]; omega)
      have ew : (wS a b).set 0 (.lst (a.map .int ++ [.int l])) = wS (a ++ [l]) b := by simp [wS]
      rw [ew] at ap
      have i0 : ∀ U, ixD U (Ev.send l cs).d (.int 0) = some (.str "send") := fun U => by rw [Ev.d, ixD_tup, atI_z]
      have i1 : ∀ U, ixD U (Ev.send l cs).d (.int 1) = some (.int l) := fun U => by rw [Ev.d, ixD_tup, atI_1]
      have c1 : ∀ U, cmpD .eq (.str "send") (.str "send") U = some true := fun U => by rw [cmpD_eq, eqD_str]; simp
      have c2 : ∀ U, cmpD .eq (.str "send") (.str "take") U = some false := fun U => by rw [cmpD_eq, eqD_str]; simp [s_st]
      have st : execs (C k) T0 l__law_way_1 [v0, v1, some (.ref 0), some (.ref 1), v4, some (Ev.send l cs).d, v6] (wS a b) = some (.nx [v0, v1, some (.ref 0), some (.ref 1), v4, some (Ev.send l cs).d, v6] (wS (a ++ [l]) b)) := by
        generalize (Ev.send l cs).d = ed at *
        generalize wS (a ++ [l]) b = W' at *
        generalize wS a b = W at *
        simp only [l__law_way_1, execs, exec, evalT, evalE, evalEs, List.getElem?_cons_succ, List.getElem?_cons_zero, bnd_ok, Cst.d, i0, i1, okO_some, c1, c2, bnS_ok, t0, if_true, ap, seqS_nx]
      rw [List.map_cons]
      simp only [forL, asg_n, List.set_cons_succ, List.set_cons_zero, st]
      rw [e2]
      have s1 : sendsR (.send l cs :: r) = l :: sendsR r := rfl
      have s2 : takesR (.send l cs :: r) = takesR r := rfl
      rw [s1, s2, List.append_assoc]; rfl
    | take l cs =>
      obtain ⟨c5, e2⟩ := lw_ev k v0 v1 v4 v6 r a (b ++ [l]) (some (Ev.take l cs).d) (by omega) (by rw [List.length_append, List.length_singleton]; omega)
      refine ⟨c5, ?_⟩
      have ap := meD_app (d := .int l) g1 (by rw [List.length_map, PySem.sizeLine_eq]; omega)
      have ew : (wS a b).set 1 (.lst (b.map .int ++ [.int l])) = wS a (b ++ [l]) := by simp [wS]
      rw [ew] at ap
      have i0 : ∀ U, ixD U (Ev.take l cs).d (.int 0) = some (.str "take") := fun U => by rw [Ev.d, ixD_tup, atI_z]
      have i1 : ∀ U, ixD U (Ev.take l cs).d (.int 1) = some (.int l) := fun U => by rw [Ev.d, ixD_tup, atI_1]
      have c1 : ∀ U, cmpD .eq (.str "take") (.str "send") U = some false := fun U => by rw [cmpD_eq, eqD_str]; simp [s_ts]
      have c2 : ∀ U, cmpD .eq (.str "take") (.str "take") U = some true := fun U => by rw [cmpD_eq, eqD_str]; simp
      have st : execs (C k) T0 l__law_way_1 [v0, v1, some (.ref 0), some (.ref 1), v4, some (Ev.take l cs).d, v6] (wS a b) = some (.nx [v0, v1, some (.ref 0), some (.ref 1), v4, some (Ev.take l cs).d, v6] (wS a (b ++ [l]))) := by
        generalize (Ev.take l cs).d = ed at *
        generalize wS a (b ++ [l]) = W' at *
        generalize wS a b = W at *
        simp only [l__law_way_1, execs, exec, evalT, evalE, evalEs, List.getElem?_cons_succ, List.getElem?_cons_zero, bnd_ok, Cst.d, i0, i1, okO_some, c1, c2, bnS_ok, t1, if_true, ap, seqS_nx]
      rw [List.map_cons]
      simp only [forL, asg_n, List.set_cons_succ, List.set_cons_zero, st]
      rw [e2]
      have s1 : sendsR (.take l cs :: r) = sendsR r := rfl
      have s2 : takesR (.take l cs :: r) = l :: takesR r := rfl
      rw [s1, s2, List.append_assoc]; rfl
theorem lw_rows (k : Nat) {rows : Rn} (hR : Rnn rows) {c : List Nat} (hc : c.length = rows.length) : ∀ (rs : Rn) (j : Nat), rows.drop j = rs → ∀ (a b : List Int) (v4 v5 v6 : Option D), a.length + 30 * rs.length ≤ 900 → b.length + 30 * rs.length ≤ 900 →
    ∃ c4 c5, forL (.n 4) (fun e S => execs (C k) T0 l__law_way_2 e S) (rg j rs.length) [some (rnD rows), some (tupN c), some (.ref 0), some (.ref 1), v4, v5, v6] (wS a b) =
      some (.nx [some (rnD rows), some (tupN c), some (.ref 0), some (.ref 1), c4, c5, v6] (wS (a ++ letC true c j rs) (b ++ letC false c j rs)))
  | [], j, _, a, b, v4, v5, v6, _, _ => ⟨v4, v5, by simp [rg, forL, letC]⟩
  | r :: rs, j, hj, a, b, v4, v5, v6, ha, hb => by
    rw [List.length_cons] at ha hb
    have hjl : j < rows.length := by
      have l := congrArg List.length hj
      rw [List.length_drop, List.length_cons] at l
      omega
    have hd := List.drop_eq_getElem_cons hjl
    rw [hj] at hd
    have hr : rows.getD j [] = r := by rw [getD_of hjl]; exact (List.cons.inj hd).1.symm
    have h30 : r.length ≤ 30 := by rw [← hr]; exact hR.small.2 j
    have tl : (r.take (c.getD j 0)).length ≤ 30 := by rw [List.length_take]; omega
    obtain ⟨b5, e1⟩ := lw_ev k (some (rnD rows)) (some (tupN c)) (some (.int (j : Int))) v6 (r.take (c.getD j 0)) a b v5 (by omega) (by omega)
    have s1 : (sendsR (r.take (c.getD j 0))).length ≤ 30 := Nat.le_trans (List.length_filterMap_le ..) tl
    have s2 : (takesR (r.take (c.getD j 0))).length ≤ 30 := Nat.le_trans (List.length_filterMap_le ..) tl
    obtain ⟨c4, c5, e2⟩ := lw_rows k hR hc rs (j + 1) (List.cons.inj hd).2.symm (a ++ sendsR (r.take (c.getD j 0))) (b ++ takesR (r.take (c.getD j 0))) (some (.int (j : Int))) b5 v6 (by rw [List.length_append]; omega) (by rw [List.length_append]; omega)
    refine ⟨c4, c5, ?_⟩
    have r1 := fun U => row_at hjl U
    have g := fun U => tupN_get (v := c) (i := j) (by omega) U
    have sl : ∀ U, slD false (rowO rows j) none (some ((c.getD j 0 : Nat) : Int)) U = some (.ok (.tup ((r.take (c.getD j 0)).map Ev.d)) U) := fun U => by
      show some (Ro.ok (D.tup (cutD ((rows.getD j []).map Ev.d) none (some ((c.getD j 0 : Nat) : Int)))) U) = _
      rw [cutD_hi (by omega), Int.toNat_natCast, List.map_take, hr]
    have it : ∀ l : List D, itD (.tup l) = some l := fun l => rfl
    have st : execs (C k) T0 l__law_way_2 [some (rnD rows), some (tupN c), some (.ref 0), some (.ref 1), some (.int (j : Int)), v5, v6] (wS a b) = some (.nx [some (rnD rows), some (tupN c), some (.ref 0), some (.ref 1), some (.int (j : Int)), b5, v6] (wS (a ++ sendsR (r.take (c.getD j 0))) (b ++ takesR (r.take (c.getD j 0))))) := by
      generalize rowO rows j = ro at *
      simp only [l__law_way_2, execs, exec, evalI, evalE, evalO, List.getElem?_cons_succ, List.getElem?_cons_zero, bnd_ok, r1, okO_some, g, sl, it, bnS_ok, e1, seqS_nx]
    rw [List.length_cons, rg]
    rw [show ((j + 1 : Nat) : Int) = (j : Int) + 1 by omega] at e2
    simp only [forL, asg_n, List.set_cons_succ, List.set_cons_zero, st]
    rw [e2, letC, letC, List.append_assoc, List.append_assoc]
    rfl
theorem ixs_len (b : Bool) (c : List Nat) : ∀ (rs : Rn) (p : Nat), (∀ r ∈ rs, r.length ≤ 30) → (letC b c p rs).length ≤ 30 * rs.length
  | [], p, _ => Nat.le_refl _
  | r :: rs, p, h => by
    have ih := ixs_len b c rs (p + 1) fun z hz => h z (List.mem_cons_of_mem _ hz)
    have h0 := h r (List.mem_cons_self ..)
    rw [letC, List.length_append, List.length_cons]
    have : (evK b (r.take (c.getD p 0))).length ≤ 30 := by
      have tl : (r.take (c.getD p 0)).length ≤ 30 := by rw [List.length_take]; omega
      unfold evK
      split
      · exact Nat.le_trans (List.length_filterMap_le ..) tl
      · exact Nat.le_trans (List.length_filterMap_le ..) tl
    omega
theorem law_way_c (k : Nat) {rows : Rn} (hR : Rnn rows) {c : List Nat} (hc : c.length = rows.length) (S : Sto) : callP (C (k + 1)) true i__law_way [rnD rows, tupN c] S = some (.ok (.int ((wayL rows c).length : Nat)) S) := by
  have h6 : rows.length ≤ 6 := hR.sh.1.2
  obtain ⟨c4, c5, e⟩ := lw_rows k hR hc rows 0 rfl [] [] none none none (by simp; omega) (by simp; omega)
  rw [List.nil_append, List.nil_append] at e
  have rl : ∀ r ∈ rows, r.length ≤ 30 := fun r hr => (hR.sh.2 r hr).1
  have l1 := ixs_len true c rows 0 rl
  have hr : rngD 0 (rows.length : Int) = some (rg 0 rows.length) := rngD_len (by omega)
  have ln : ∀ U, biD .len [rnD rows] U = some (.int (rows.length : Nat)) := fun U => by rw [rnD, biD_lenT, List.length_map]
  refine callP_t (S1 := [.dead, .dead]) (by simp only [pures, rn_pure, tupN_pure, Bool.and_true]) ?_ rfl
  rw [c__law_way, way_law]
  generalize letC true c 0 rows = A at *
  generalize letC false c 0 rows = B at *
  have f2 : fzD 2 [some (rnD rows), some (tupN c), some (.ref 0), some (.ref 1), c4, c5, none] (wS A B) = some ([some (rnD rows), some (tupN c), some (.lst (A.map .int)), some (.ref 1), c4, c5, none], [.dead, .lst (B.map .int)]) := by
    show (if pures (A.map D.int) then _ else none) = _
    rw [ints_pure]; rfl
  have f3 : fzD 3 [some (rnD rows), some (tupN c), some (.lst (A.map .int)), some (.ref 1), c4, c5, none] [.dead, .lst (B.map .int)] = some ([some (rnD rows), some (tupN c), some (.lst (A.map .int)), some (.lst (B.map .int)), c4, c5, none], [.dead, .dead]) := by
    show (if pures (B.map D.int) then _ else none) = _
    rw [ints_pure]; rfl
  have it : ∀ l : List D, itD (.lst l) = some l := fun l => rfl
  have lc : evalE (C k) T0 k__law_way_1 [some (rnD rows), some (tupN c), some (.lst (A.map .int)), some (.lst (B.map .int)), c4, c5, none] [.dead, .dead] = some (.ok (.lst ((A.filter fun l => !decide (l ∈ B)).map .int)) [.dead, .dead]) := by
    unfold k__law_way_1 q__law_way_1
    have fl : ((A.map D.int).filter fun d => match d with
      | .int l => !decide (l ∈ B)
      | _ => false).map (fun d => d) = (A.filter fun l => !decide (l ∈ B)).map .int := by
      rw [List.map_id', List.filter_map]; rfl
    rw [lc_so (S := [.dead, .dead]) (xs := A.map .int) (fun d => match d with
      | .int l => !decide (l ∈ B)
      | _ => false) (fun d => d) (by simp only [evalI, evalE, List.getElem?_cons_succ, List.getElem?_cons_zero, bnd_ok, it, okO_some]) (by rw [List.length_map, PySem.sizeLine_eq]; omega) (fun y hy => ?_) (fun y hy _ => ?_), mkL_f, fl]
    · obtain ⟨l, _, rfl⟩ := List.mem_map.mp hy
      have ni : ∀ U, cmpD .notin (.int l) (.lst (B.map .int)) U = some (!decide (l ∈ B)) := fun U => by
        show (inD U (.int l) (.lst (B.map .int))).map not = _
        rw [ints_in]; rfl
      simp only [List.map_cons, List.map_nil, wipeE, List.set_cons_succ, List.set_cons_zero, evalT, evalE, List.getElem?_cons_succ, List.getElem?_cons_zero, bnd_ok, ni, okO_some]
    · unfold e__law_way_1
      simp only [List.map_cons, List.map_nil, wipeE, List.set_cons_succ, List.set_cons_zero, evalE, List.getElem?_cons_succ, List.getElem?_cons_zero]
  have x1 : exec (C k) T0 (.asg (.n 2) (.lst true .nil)) [some (rnD rows), some (tupN c), none, none, none, none, none] [] = some (.nx [some (rnD rows), some (tupN c), some (.ref 0), none, none, none, none] [.lst []]) := by simp
  have x2 : exec (C k) T0 (.asg (.n 3) (.lst true .nil)) [some (rnD rows), some (tupN c), some (.ref 0), none, none, none, none] [.lst []] = some (.nx [some (rnD rows), some (tupN c), some (.ref 0), some (.ref 1), none, none, none] (wS [] [])) := by simp [wS]
  have x3 : exec (C k) T0 (.for (.n 4) (.rng1 (.bi .len (.cons (.v 0) .nil))) l__law_way_2) [some (rnD rows), some (tupN c), some (.ref 0), some (.ref 1), none, none, none] (wS [] []) = some (.nx [some (rnD rows), some (tupN c), some (.ref 0), some (.ref 1), c4, c5, none] (wS A B)) := by
    rw [exec]
    simp only [evalI, evalE, evalEs, List.getElem?_cons_zero, bnd_ok, ln, okO_some, hr, bnS_ok]
    exact e
  unfold b__law_way
  rw [ex_go x1, ex_go x2, ex_go x3]
  simp only [execs, f2, f3, exec, evalE, evalEs, lc, bnd_ok, biD_lenL, List.length_map, okO_some, bnS_ok, seqS_rt, outS_rt]
end Lk
namespace Lk
open PyProof.Rows L2 Ip
/-! method count -/
section
variable {rows : Rn} {K : Clk} {S : Sto} {v2 v3 : Option D}
theorem om_count : mthD S 0 (ordD rows K) "count" = true := of_mth _ (by simp [oNm])
theorem count_ok' (k : Nat) : C (k + 1) i_Order_count [ordD rows K] S = some (.ok (.int (rows.length : Nat)) S) := by
  rw [c_Order_count]
  have f := of_run (rows := rows) (K := K) (S := S)
  have l : ∀ U, biD .len [rnD rows] U = some (.int (rows.length : Nat)) := fun U => by rw [rnD, biD_lenT, List.length_map]
  generalize ordD rows K = o at *
  simp only [b_Order_count, execs, exec, evalE, evalEs, List.getElem?_cons_zero, bnd_ok, f, okO_some, l, bnS_ok, seqS_rt, outS_rt]
theorem count_c (k : Nat) : callP (C (k + 1)) true i_Order_count [ordD rows K] S = some (.ok (.int (rows.length : Nat)) S) := callP_t (by simp only [pures, ordD_pure, Bool.and_true]) (count_ok' k) rfl
end
/-! method empty -/
section
variable {rows : Rn} {K : Clk} {S : Sto} {v2 v3 : Option D}
theorem om_empty : mthD S 0 (ordD rows K) "empty" = true := of_mth _ (by simp [oNm])
theorem empty_ok' (k : Nat) (h6 : rows.length ≤ 6) : C (k + 2) i_Order_empty [ordD rows K] S = some (.ok (tupN (zeroV rows.length)) S) := by
  rw [c_Order_empty]
  have f := om_count (rows := rows) (K := K) (S := S)
  have c := count_c (rows := rows) (K := K) (S := S) k
  have z := fun U => zeros_mul (n := rows.length) (by omega) (.int 0) U
  rw [zeroV_d] at z
  generalize ordD rows K = o at *
  simp only [b_Order_empty, execs, exec, evalE, evalEs, List.getElem?_cons_zero, List.getElem?_cons_succ, bnd_ok, Cst.d, List.length_cons, List.length_nil, (show (0 + 1 ≤ PySem.sizeLine) by rw [PySem.sizeLine_eq]; decide), if_true, f, c, z, bnS_ok, seqS_rt, outS_rt]
theorem empty_c (k : Nat) (h6 : rows.length ≤ 6) : callP (C (k + 2)) true i_Order_empty [ordD rows K] S = some (.ok (tupN (zeroV rows.length)) S) := callP_t (by simp only [pures, ordD_pure, Bool.and_true]) (empty_ok' k h6) (tupN_pure _)
end
/-! method whole -/
section
variable {rows : Rn} {K : Clk} {S : Sto} {v2 v3 : Option D}
theorem om_whole : mthD S 0 (ordD rows K) "whole" = true := of_mth _ (by simp [oNm])
theorem whole_ok' (k : Nat) (h6 : rows.length ≤ 6) : C (k + 1) i_Order_whole [ordD rows K] S = some (.ok (tupN (sizesV rows)) S) := by
  rw [c_Order_whole]
  have f := of_run (rows := rows) (K := K) (S := S)
  have it : itD (rnD rows) = some (rows.map rowD) := rfl
  have lc : evalE (C k) T0 k_Order_whole_1 [some (ordD rows K), none] S = some (.ok (.lst ((sizesV rows).map fun x : Nat => D.int x)) S) := by
    unfold k_Order_whole_1
    refine sizes_lc h6 ?_ fun r => ?_
    · simp only [evalI, evalE, List.getElem?_cons_zero, bnd_ok, f, okO_some, it]
    · unfold e_Order_whole_1
      simp [rowD]
  simp only [b_Order_whole, execs, exec, evalE, evalEs, lc, bnd_ok, biD_tupL, okO_some, bnS_ok, seqS_rt, outS_rt]
  rfl
theorem whole_c (k : Nat) (h6 : rows.length ≤ 6) : callP (C (k + 1)) true i_Order_whole [ordD rows K] S = some (.ok (tupN (sizesV rows)) S) := callP_t (by simp only [pures, ordD_pure, Bool.and_true]) (whole_ok' k h6) (tupN_pure _)
end
/-! method size -/
section
variable {rows : Rn} {K : Clk} {S : Sto} {v2 v3 : Option D}
theorem om_size : mthD S 0 (ordD rows K) "size" = true := of_mth _ (by simp [oNm])
theorem size_ok' (k : Nat) {p : Nat} (hp : p < rows.length) : C (k + 1) i_Order_size [ordD rows K, .int (p : Int)] S = some (.ok (.int (lens rows p : Nat)) S) := by
  rw [c_Order_size]
  have f := of_run (rows := rows) (K := K) (S := S)
  have r := fun U => row_at hp U
  have l := fun U => len_row (rows := rows) (p := p) U
  generalize ordD rows K = o at *
  simp only [b_Order_size, execs, exec, evalE, evalEs, List.getElem?_cons_zero, List.getElem?_cons_succ, bnd_ok, f, okO_some, r, l, bnS_ok, seqS_rt, outS_rt]
theorem size_c (k : Nat) {p : Nat} (hp : p < rows.length) : callP (C (k + 1)) true i_Order_size [ordD rows K, .int (p : Int)] S = some (.ok (.int (lens rows p : Nat)) S) := callP_t (by simp only [pures, ordD_pure, D.pure, Bool.and_true]) (size_ok' k hp) rfl
end
/-! method clock -/
section
variable {rows : Rn} {K : Clk} {S : Sto} {v2 v3 : Option D}
theorem om_clock : mthD S 0 (ordD rows K) "clock" = true := of_mth _ (by simp [oNm])
theorem clock_c (k : Nat) {p i : Nat} (hp : p < rows.length) (hi : i ≤ lens rows p) : callP (C (k + 1)) true i_Order_clock [ordD rows K, .int (p : Int), .int (i : Int)] S = some (.ok (tupN (K p i)) S) := by
  refine callP_t (S1 := []) (by simp only [pures, ordD_pure, D.pure, Bool.and_true]) ?_ (tupN_pure _)
  rw [c_Order_clock]
  have f := of_clocks (rows := rows) (K := K) (S := [])
  have r := fun U => ck_row (K := K) (S := U) hp
  have l := fun U => ck_at (K := K) (S := U) hi
  generalize ordD rows K = o at *
  simp only [b_Order_clock, execs, exec, evalE, evalEs, List.getElem?_cons_zero, List.getElem?_cons_succ, bnd_ok, f, okO_some, r, l, bnS_ok, seqS_rt, outS_rt]
end
/-! method added -/
section
variable {rows : Rn} {K : Clk} {S : Sto} {v2 v3 : Option D}
theorem om_added : mthD S 0 (ordD rows K) "added" = true := of_mth _ (by simp [oNm])
theorem added_ok' (k : Nat) {c : List Nat} {p : Nat} (hp : p < c.length) (hl : c.length ≤ 1000) (o : D) : C (k + 1) i_Order_added [o, tupN c, .int (p : Int)] S = some (.ok (tupN (addV c p)) S) := by
  rw [c_Order_added]
  have e := add_expr (Γ := C k) (env := [some o, some (tupN c), some (.int (p : Int))]) (i := 1) (j := 2) rfl rfl hp hl S
  unfold b_Order_added
  simp only [execs, exec, e, bnS_ok, seqS_rt, outS_rt]
theorem added_c (k : Nat) {c : List Nat} {p : Nat} (hp : p < c.length) (hl : c.length ≤ 1000) : callP (C (k + 1)) true i_Order_added [ordD rows K, tupN c, .int (p : Int)] S = some (.ok (tupN (addV c p)) S) :=
  callP_t (by simp only [pures, ordD_pure, tupN_pure, D.pure, Bool.and_true]) (added_ok' k hp hl _) (tupN_pure _)
end
end Lk
namespace Lk
open PyProof.Rows L2 Ip
/-! method covers -/
section
variable {rows : Rn} {K : Clk} {S : Sto} {v2 v3 : Option D}
theorem covers_loop (k : Nat) (b : List Nat) (v0 : Option D) (S : Sto) : ∀ (a : List Nat) (i : Nat) (acc : List D), i + a.length ≤ b.length →
    lcLoop (fun x S => match asgT (.t (.cons (.n 2) (.cons (.n 3) .nil))) x (wipeE [v0, some (tupN b), none, none] [2, 3]) with
      | some env1 => bnd (evalC (C k) T0 .no env1 S) fun b S2 => match b with
        | true => bnd (evalE (C k) T0 e_covers_1 env1 S2) fun y S3 => some (.ok (some y) S3)
        | false => some (.ok none S2)
      | none => none) (enF i (a.map fun x : Nat => D.int x)) S acc = some (.ok (acc ++ ((List.range a.length).map fun j => decide (b.getD (i + j) 0 ≤ a.getD j 0)).map .bl) S)
  | [], i, acc, _ => by simp [enF, lcLoop]
  | x :: a, i, acc, h => by
    rw [List.length_cons] at h
    have hi : i < b.length := by omega
    have as : asgT (.t (.cons (.n 2) (.cons (.n 3) .nil))) (.tup [.int (i : Int), .int (x : Int)]) (wipeE [v0, some (tupN b), none, none] [2, 3]) = some [v0, some (tupN b), some (.int (i : Int)), some (.int (x : Int))] := rfl
    have tg := fun S => tupN_get hi S
    have ev : evalE (C k) T0 e_covers_1 [v0, some (tupN b), some (.int (i : Int)), some (.int (x : Int))] S = some (.ok (.bl (decide (b.getD i 0 ≤ x))) S) := by
      unfold e_covers_1
      have dc : decide (((b.getD i 0 : Nat) : Int) ≤ (x : Int)) = decide (b.getD i 0 ≤ x) := by rw [decide_eq_decide]; omega
      simp only [evalE, List.getElem?_cons_succ, List.getElem?_cons_zero, bnd_ok, tg, okO_some, cmpD_le, Option.map_some, dc]
    rw [List.map_cons, enF, lcL_step (y := .bl (decide (b.getD i 0 ≤ x))) (S1 := S) (by simp only [as, evalC, bnd_ok, ev])]
    rw [covers_loop k b v0 S a (i + 1) _ (by omega), List.append_assoc]
    have e : [D.bl (decide (b.getD i 0 ≤ x))] ++ ((List.range a.length).map fun j => decide (b.getD (i + 1 + j) 0 ≤ a.getD j 0)).map D.bl = ((List.range (x :: a).length).map fun j => decide (b.getD (i + j) 0 ≤ (x :: a).getD j 0)).map D.bl := by
      rw [List.length_cons, List.range_succ_eq_map, List.map_cons, List.map_cons, List.map_map, List.map_map, List.map_map]
      show D.bl _ :: _ = D.bl _ :: _
      refine congr rfl (List.map_congr_left fun j _ => ?_)
      simp only [Function.comp, List.getD_cons_succ]
      rw [show i + 1 + j = i + (j + 1) by omega]
    rw [e]
theorem covers_ok (k : Nat) {a b : List Nat} (h : a.length = b.length) (hl : a.length ≤ 1000) (S : Sto) : C (k + 1) i_covers [tupN a, tupN b] S = some (.ok (.bl (covB a b)) S) := by
  rw [c_covers]
  have lo := covers_loop k b (some (tupN a)) S a 0 [] (by omega)
  rw [List.nil_append] at lo
  have e : evalE (C k) T0 k_covers_1 [some (tupN a), some (tupN b), none, none] S = some (.ok (.lst (((List.range a.length).map fun j => decide (b.getD (0 + j) 0 ≤ a.getD j 0)).map .bl)) S) := by
    unfold k_covers_1
    rw [evalE]
    simp only [evalI, evalE, List.getElem?_cons_zero, bnd_ok, tupN]
    rw [if_pos (by rw [enF_len, List.length_map, PySem.sizeLine_eq]; omega)]
    simp only [tupN] at lo
    refine (congrArg (fun z => bnd z fun ys S2 => mkL false ys S2) lo).trans ?_
    rfl
  simp only [b_covers, execs, exec, evalE, evalEs, e, bnd_ok, biD_all, okO_some, bnS_ok, seqS_rt, outS_rt]
  congr 3
  rw [List.all_map, covB]
  congr 1
  funext p
  simp only [Function.comp, Nat.zero_add]
  rfl
theorem covers_c (k : Nat) {a b : List Nat} (h : a.length = b.length) (hl : a.length ≤ 1000) (S : Sto) : callP (C (k + 1)) true i_covers [tupN a, tupN b] S = some (.ok (.bl (covB a b)) S) :=
  callP_t (by simp only [pures, tupN_pure, Bool.and_true]) (covers_ok k h hl []) rfl
end
/-! method ups -/
section
variable {rows : Rn} {K : Clk} {S : Sto} {v2 v3 : Option D}
theorem om_ups : mthD S 0 (ordD rows K) "ups" = true := of_mth _ (by simp [oNm])
theorem ups_turn (k : Nat) (h6 : rows.length ≤ 6) (hK : IsClk rows K) {c : List Nat} (hc : c.length = rows.length) {p : Nat} (hp : p < rows.length) (acc : List Nat) (ha : acc.length ≤ 1000) :
    execs (C (k + 1)) T0 l_Order_ups_1 [some (ordD rows K), some (tupN c), some (.ref S.length), some (.int (p : Int))] (S ++ [.lst (intsN acc)]) =
      some (.nx [some (ordD rows K), some (tupN c), some (.ref S.length), some (.int (p : Int))] (S ++ [.lst (intsN (acc ++ if (decide (c.getD p 0 < lens rows p) && covB (addV c p) (K p (c.getD p 0 + 1))) then [p] else []))])) := by
  have f1 := fun U => om_size (rows := rows) (K := K) (S := U)
  have f2 := fun U => om_added (rows := rows) (K := K) (S := U)
  have f3 := fun U => of_clocks (rows := rows) (K := K) (S := U)
  have c1 := fun U => size_c (rows := rows) (K := K) (S := U) k hp
  have c2 := fun U => added_c (rows := rows) (K := K) (S := U) k (c := c) (p := p) (by omega) (by omega)
  have g1 := fun U => tupN_get (v := c) (i := p) (by omega) U
  have r1 := fun U => ck_row (K := K) (S := U) hp
  have g := at_last S (.lst (intsN acc))
  have ty := tyM_app g
  have ap := meD_app (d := .int (p : Int)) g (by unfold intsN; rw [List.length_map, PySem.sizeLine_eq]; omega)
  have e1 : (S ++ [Ob.lst (intsN acc)]).set S.length (.lst (intsN acc ++ [.int (p : Int)])) = S ++ [.lst (intsN (acc ++ [p]))] := by
    rw [set_last]; simp [intsN]
  rw [e1] at ap
  by_cases h : c.getD p 0 < lens rows p
  · have h' : ((c.getD p 0 : Nat) : Int) < ((lens rows p : Nat) : Int) := by omega
    have r2 := fun U => ck_at (K := K) (S := U) (p := p) (i := c.getD p 0 + 1) h
    have ec : ((c.getD p 0 : Nat) : Int) + 1 = ((c.getD p 0 + 1 : Nat) : Int) := by omega
    have cv := fun U => covers_c k (a := addV c p) (b := K p (c.getD p 0 + 1)) (by rw [addV_len, hK.len, hc]) (by rw [addV_len]; omega) U
    cases hb : covB (addV c p) (K p (c.getD p 0 + 1)) with
    | true =>
      rw [decide_eq_true h, Bool.and_self, if_pos rfl]
      rw [hb] at cv
      generalize ordD rows K = o at *
      generalize S ++ [Ob.lst (intsN acc)] = U at *
      generalize S ++ [Ob.lst (intsN (acc ++ [p]))] = V at *
      simp only [l_Order_ups_1, execs, exec, evalT, evalE, evalEs, List.getElem?_cons_succ, List.getElem?_cons_zero, bnd_ok, g1, okO_some, f1, if_true, c1, cmpD_lt, h', decide_true, bnS_ok, f2, c2, f3, r1, Cst.d, binD_add, ec, r2, cv, truD_bl, ty, ap, seqS_nx]
    | false =>
      rw [Bool.and_false, if_neg (by decide), List.append_nil]
      rw [hb] at cv
      generalize ordD rows K = o at *
      generalize S ++ [Ob.lst (intsN acc)] = U at *
      simp only [l_Order_ups_1, execs, exec, evalT, evalE, evalEs, List.getElem?_cons_succ, List.getElem?_cons_zero, bnd_ok, g1, okO_some, f1, if_true, c1, cmpD_lt, h', decide_true, bnS_ok, f2, c2, f3, r1, Cst.d, binD_add, ec, r2, cv, truD_bl, seqS_nx]
  · have h' : ¬ ((c.getD p 0 : Nat) : Int) < ((lens rows p : Nat) : Int) := by omega
    rw [decide_eq_false h, Bool.false_and, if_neg (by decide), List.append_nil]
    generalize ordD rows K = o at *
    generalize S ++ [Ob.lst (intsN acc)] = U at *
    simp only [l_Order_ups_1, execs, exec, evalT, evalE, evalEs, List.getElem?_cons_succ, List.getElem?_cons_zero, bnd_ok, g1, okO_some, f1, if_true, c1, cmpD_lt, h', decide_false, bnS_ok, seqS_nx]
theorem ups_loop (k : Nat) (h6 : rows.length ≤ 6) (hK : IsClk rows K) {c : List Nat} (hc : c.length = rows.length) : ∀ (n j : Nat), j + n = rows.length → ∀ (acc : List Nat) (v3 : Option D), acc.length + n ≤ 1000 →
    ∃ c3, forL (.n 3) (fun e S => execs (C (k + 1)) T0 l_Order_ups_1 e S) (rg j n) [some (ordD rows K), some (tupN c), some (.ref S.length), v3] (S ++ [.lst (intsN acc)]) =
      some (.nx [some (ordD rows K), some (tupN c), some (.ref S.length), c3] (S ++ [.lst (intsN (acc ++ (List.range' j n).filter fun p => decide (c.getD p 0 < lens rows p) && covB (addV c p) (K p (c.getD p 0 + 1))))]))
  | 0, j, hj, acc, v3, ha => ⟨v3, by simp [rg, forL]⟩
  | n + 1, j, hj, acc, v3, ha => by
    have e1 := ups_turn (S := S) k h6 hK hc (p := j) (by omega) acc (by omega)
    obtain ⟨c3, e2⟩ := ups_loop k h6 hK hc n (j + 1) (by omega) (acc ++ if (decide (c.getD j 0 < lens rows j) && covB (addV c j) (K j (c.getD j 0 + 1))) then [j] else []) (some (.int (j : Int))) (by rw [List.length_append]; split <;> simp <;> omega)
    refine ⟨c3, ?_⟩
    rw [rg]
    simp only [forL, asg_n, List.set_cons_succ, List.set_cons_zero, e1]
    rw [show ((j + 1 : Nat) : Int) = (j : Int) + 1 by omega] at e2
    rw [e2, List.append_assoc, List.range'_succ, List.filter_cons]
    congr 6
    split <;> simp
theorem ups_ok (k : Nat) (h6 : rows.length ≤ 6) (hK : IsClk rows K) {c : List Nat} (hc : c.length = rows.length) : C (k + 2) i_Order_ups [ordD rows K, tupN c] S = some (.ok (.ref S.length) (S ++ [.lst (intsN (upsV rows K c))])) := by
  rw [c_Order_ups]
  obtain ⟨c3, e⟩ := ups_loop (S := S) k h6 hK hc rows.length 0 (by omega) [] none (by simp; omega)
  have f := fun U => om_count (rows := rows) (K := K) (S := U)
  have cc := fun U => count_c (rows := rows) (K := K) (S := U) k
  have hr : rngD 0 (rows.length : Int) = some (rg 0 rows.length) := rngD_len (by omega)
  rw [List.nil_append, ← List.range_eq_range'] at e
  have e : forL (.n 3) (fun e S => execs (C (k + 1)) T0 l_Order_ups_1 e S) (rg 0 rows.length) [some (ordD rows K), some (tupN c), some (.ref S.length), none] (S ++ [.lst []]) = some (.nx [some (ordD rows K), some (tupN c), some (.ref S.length), c3] (S ++ [.lst (intsN (upsV rows K c))])) := e
  generalize ordD rows K = o at *
  simp only [b_Order_ups, execs, exec, evalI, evalE, evalEs, List.getElem?_cons_succ, List.getElem?_cons_zero, bnd_ok, bnS_ok, List.length_nil, Nat.zero_le, if_true, mkL_t, asg_n, List.set_cons_succ, List.set_cons_zero, seqS_nx, f, cc, hr, okO_some, e, seqS_rt, outS_rt]
theorem ups_c (k : Nat) (h6 : rows.length ≤ 6) (hK : IsClk rows K) {c : List Nat} (hc : c.length = rows.length) : callP (C (k + 2)) true i_Order_ups [ordD rows K, tupN c] S = some (.ok (.lst (intsN (upsV rows K c))) S) := by
  refine callP_z (by simp only [pures, ordD_pure, tupN_pure, Bool.and_true]) (ups_ok (S := []) k h6 hK hc) (S2 := [.dead]) ?_ (by rw [D.pure, intsN_pure])
  rw [frz]
  have g : (([] : Sto) ++ [Ob.lst (intsN (upsV rows K c))])[([] : Sto).length]? = some (.lst (intsN (upsV rows K c))) := rfl
  simp only [g, mapF_pure 7 _ _ (intsN_pure _)]
  rfl
end
/-! method iscut -/
section
variable {rows : Rn} {K : Clk} {S : Sto} {v2 v3 : Option D}
theorem om_is_cut : mthD S 0 (ordD rows K) "is_cut" = true := of_mth _ (by simp [oNm])
def goodL (rows : Rn) : Nat → List D → Bool
  | _, [] => true
  | i, x :: xs => isInt x 0 (lens rows i) && goodL rows (i + 1) xs
theorem isc_loop (k n : Nat) (v : D) : ∀ (xs : List D) (i : Nat) (v2 v3 : Option D), xs.all (dat n) = true → i + xs.length ≤ rows.length →
    ∃ c2 c3, forL (.t (.cons (.n 2) (.cons (.n 3) .nil))) (fun e S => execs (C (k + 1)) T0 l_Order_is_cut_1 e S) (enF i xs) [some (ordD rows K), some v, v2, v3] S = if goodL rows i xs then some (.nx [some (ordD rows K), some v, c2, c3] S) else some (.rt (.bl false) S)
  | [], i, v2, v3, _, _ => ⟨v2, v3, by simp [enF, forL, goodL]⟩
  | x :: xs, i, v2, v3, hd, hi => by
    rw [List.length_cons] at hi
    rw [List.all_cons, Bool.and_eq_true] at hd
    obtain ⟨c2, c3, ih⟩ := isc_loop k n v xs (i + 1) (some (.int (i : Int))) (some x) hd.2 (by omega)
    have f := om_size (rows := rows) (K := K) (S := S)
    have cs := size_c (rows := rows) (K := K) (S := S) k (p := i) (by omega)
    have ii := is_integer_ok k n x 0 (lens rows i) [] hd.1
    have xp := dat_pure _ x hd.1
    have ii2 : callP (C (k + 1)) true i_is_integer [x, .int 0, .int (lens rows i : Nat)] S = some (.ok (.bl (isInt x 0 (lens rows i))) S) := callP_t (by simp only [pures, xp, D.pure, Bool.and_true]) ii rfl
    have as : asgT (.t (.cons (.n 2) (.cons (.n 3) .nil))) (.tup [.int (i : Int), x]) [some (ordD rows K), some v, v2, v3] = some [some (ordD rows K), some v, some (.int (i : Int)), some x] := rfl
    rw [enF, goodL]
    cases hb : isInt x 0 (lens rows i) with
    | true =>
      refine ⟨c2, c3, ?_⟩
      rw [Bool.true_and, ← ih]
      rw [hb] at ii2
      have st : execs (C (k + 1)) T0 l_Order_is_cut_1 [some (ordD rows K), some v, some (.int (i : Int)), some x] S = some (.nx [some (ordD rows K), some v, some (.int (i : Int)), some x] S) := by
        generalize ordD rows K = o at *
        simp only [l_Order_is_cut_1, execs, exec, evalT, evalE, evalEs, List.getElem?_cons_succ, List.getElem?_cons_zero, bnd_ok, Cst.d, f, if_true, cs, ii2, okO_some, truD_bl, bnS_ok, Bool.not_true, seqS_nx]
      simp only [forL, as, st]
    | false =>
      refine ⟨v2, v3, ?_⟩
      rw [Bool.false_and, if_neg (by decide)]
      rw [hb] at ii2
      have st : execs (C (k + 1)) T0 l_Order_is_cut_1 [some (ordD rows K), some v, some (.int (i : Int)), some x] S = some (.rt (.bl false) S) := by
        generalize ordD rows K = o at *
        simp only [l_Order_is_cut_1, execs, exec, evalT, evalE, evalEs, List.getElem?_cons_succ, List.getElem?_cons_zero, bnd_ok, Cst.d, f, if_true, cs, ii2, okO_some, truD_bl, bnS_ok, Bool.not_false, seqS_rt]
      simp only [forL, as, st]
theorem goodL_vec : ∀ (c : List Nat) (i : Nat), (∀ j, j < c.length → c.getD j 0 ≤ lens rows (i + j)) → goodL rows i (c.map fun x : Nat => D.int x) = true
  | [], _, _ => rfl
  | x :: c, i, h => by
    rw [List.map_cons, goodL, goodL_vec c (i + 1) (fun j hj => by
      have := h (j + 1) (by simpa using hj)
      rw [List.getD_cons_succ] at this
      rw [show i + 1 + j = i + (j + 1) by omega]; exact this)]
    have h0 : x ≤ lens rows i := h 0 (by simp)
    rw [Bool.and_true]
    simp [isInt]
    omega
theorem isc_comp (k : Nat) (h6 : rows.length ≤ 6) (hK : IsClk rows K) {c : List Nat} (hc : c.length = rows.length) (hle : ∀ p, p < rows.length → c.getD p 0 ≤ lens rows p) : ∀ (a : List Nat) (i : Nat), c.drop i = a → ∀ (acc : List D),
    lcLoop (fun x S => match asgT (.t (.cons (.n 2) (.cons (.n 3) .nil))) x (wipeE [some (ordD rows K), some (tupN c), v2, v3] [2, 3]) with
      | some env1 => bnd (evalC (C (k + 1)) T0 .no env1 S) fun b S2 => match b with
        | true => bnd (evalE (C (k + 1)) T0 e_Order_is_cut_1 env1 S2) fun y S3 => some (.ok (some y) S3)
        | false => some (.ok none S2)
      | none => none) (enF i (a.map fun x : Nat => D.int x)) S acc = some (.ok (acc ++ ((List.range' i a.length).map fun p => covB c (K p (c.getD p 0))).map .bl) S)
  | [], i, _, acc => by simp [enF, lcLoop]
  | x :: a, i, h, acc => by
    have hi : i < c.length := by
      have l := congrArg List.length h
      rw [List.length_drop, List.length_cons] at l
      omega
    have hd := List.drop_eq_getElem_cons hi
    rw [h] at hd
    have hx : c.getD i 0 = x := by rw [getD_of hi]; exact (List.cons.inj hd).1.symm
    have as : asgT (.t (.cons (.n 2) (.cons (.n 3) .nil))) (.tup [.int (i : Int), .int (x : Int)]) (wipeE [some (ordD rows K), some (tupN c), v2, v3] [2, 3]) = some [some (ordD rows K), some (tupN c), some (.int (i : Int)), some (.int (x : Int))] := rfl
    have f3 := of_clocks (rows := rows) (K := K) (S := S)
    have r1 := ck_row (K := K) (S := S) (rows := rows) (p := i) (by omega)
    have r2 := ck_at (K := K) (S := S) (rows := rows) (p := i) (i := x) (by rw [← hx]; exact hle i (by omega))
    have cv := covers_c k (a := c) (b := K i x) (by rw [hK.len, hc]) (by omega) S
    have ev : evalE (C (k + 1)) T0 e_Order_is_cut_1 [some (ordD rows K), some (tupN c), some (.int (i : Int)), some (.int (x : Int))] S = some (.ok (.bl (covB c (K i x))) S) := by
      unfold e_Order_is_cut_1
      generalize ordD rows K = o at *
      simp only [evalE, evalEs, List.getElem?_cons_succ, List.getElem?_cons_zero, bnd_ok, f3, okO_some, r1, r2, cv]
    rw [List.map_cons, enF, lcL_step (y := .bl (covB c (K i x))) (S1 := S) (by simp only [as, evalC, bnd_ok, ev])]
    rw [isc_comp k h6 hK hc hle a (i + 1) (List.cons.inj hd).2.symm, List.append_assoc, List.length_cons, List.range'_succ, List.map_cons, List.map_cons, hx]
    rfl
theorem is_cut_vec (k : Nat) (h6 : rows.length ≤ 6) (hK : IsClk rows K) {c : List Nat} (hc : c.length = rows.length) (hle : ∀ p, p < rows.length → c.getD p 0 ≤ lens rows p) : callP (C (k + 2)) true i_Order_is_cut [ordD rows K, tupN c] S = some (.ok (.bl (cutB K c)) S) := by
  refine callP_t (S1 := []) (by simp only [pures, ordD_pure, tupN_pure, Bool.and_true]) ?_ rfl
  rw [c_Order_is_cut]
  have f := fun U => om_count (rows := rows) (K := K) (S := U)
  have cc := fun U => count_c (rows := rows) (K := K) (S := U) k
  have idat : ∀ c : List Nat, (c.map fun x : Nat => D.int x).all (dat 0) = true := by
    intro c
    rw [List.all_eq_true]
    intro d hd
    obtain ⟨x, _, rfl⟩ := List.mem_map.mp hd
    rfl
  obtain ⟨c2, c3, e1⟩ := isc_loop (rows := rows) (K := K) (S := []) k 0 (tupN c) (c.map fun x : Nat => D.int x) 0 none none (idat c) (by rw [List.length_map]; omega)
  rw [goodL_vec c 0 (fun j hj => by rw [Nat.zero_add]; exact hle j (by omega)), if_pos rfl] at e1
  have lo := isc_comp (S := []) (v2 := c2) (v3 := c3) k h6 hK hc hle c 0 rfl []
  rw [List.nil_append, ← List.range_eq_range'] at lo
  have ec : evalE (C (k + 1)) T0 k_Order_is_cut_1 [some (ordD rows K), some (tupN c), c2, c3] [] = some (.ok (.lst (((List.range c.length).map fun p => covB c (K p (c.getD p 0))).map .bl)) []) := by
    unfold k_Order_is_cut_1
    rw [evalE]
    have et : evalI (C (k + 1)) T0 (.enum (.v 1)) [some (ordD rows K), some (tupN c), c2, c3] [] = some (.ok (enF 0 (c.map fun x : Nat => D.int x)) []) := rfl
    rw [et]
    simp only [bnd_ok]
    rw [if_pos (by rw [enF_len, List.length_map, PySem.sizeLine_eq]; omega)]
    refine (congrArg (fun z => bnd z fun ys S2 => mkL false ys S2) lo).trans ?_
    rfl
  have e0 : exec (C (k + 1)) T0 (.ifs (.or (.not (.isi (.v 1) .tuple)) (.cmp .ne (.bi .len (.cons (.v 1) .nil)) (.mcl 0 i_Order_count "count" true (.v 0) .nil))) (.cons (.ret (.c (.bl false))) .nil) .nil) [some (ordD rows K), some (tupN c), none, none] [] = some (.nx [some (ordD rows K), some (tupN c), none, none] []) := by
    have l : ∀ U, biD .len [tupN c] U = some (.int (rows.length : Nat)) := fun U => by rw [tupN, biD_lenT, List.length_map, hc]
    have i : ∀ U, isiD U (tupN c) .tuple = some true := fun U => rfl
    generalize ordD rows K = o at *
    generalize tupN c = tc at *
    have ne : ∀ U, cmpD .ne (.int (rows.length : Nat)) (.int (rows.length : Nat)) U = some false := fun U => by simp
    simp only [exec, evalT, evalE, evalEs, List.getElem?_cons_succ, List.getElem?_cons_zero, bnd_ok, l, i, f, cc, okO_some, Bool.not_true, if_true, ne, bnS_ok, execs]
  have e2 : exec (C (k + 1)) T0 (.for (.t (.cons (.n 2) (.cons (.n 3) .nil))) (.enum (.v 1)) l_Order_is_cut_1) [some (ordD rows K), some (tupN c), none, none] [] = some (.nx [some (ordD rows K), some (tupN c), c2, c3] []) := by
    rw [exec]
    have et : evalI (C (k + 1)) T0 (.enum (.v 1)) [some (ordD rows K), some (tupN c), none, none] [] = some (.ok (enF 0 (c.map fun x : Nat => D.int x)) []) := rfl
    rw [et]
    exact e1
  simp only [b_Order_is_cut, execs, e0, e2, seqS_nx]
  simp only [exec, evalE, evalEs, ec, bnd_ok, biD_all, okO_some, bnS_ok, seqS_rt, outS_rt]
  congr 3
  rw [List.all_map, cutB]
  congr 1
theorem is_cut_no (k n : Nat) (d : D) (hd : dat (n + 1) d = true) (h : ∀ xs, d = .tup xs → xs.length = rows.length → goodL rows 0 xs = false) : callP (C (k + 2)) true i_Order_is_cut [ordD rows K, d] S = some (.ok (.bl false) S) := by
  have dp := dat_pure _ d hd
  refine callP_t (S1 := []) (by simp only [pures, ordD_pure, dp, Bool.and_true]) ?_ rfl
  rw [c_Order_is_cut]
  have f := fun U => om_count (rows := rows) (K := K) (S := U)
  have cc := fun U => count_c (rows := rows) (K := K) (S := U) k
  cases d with
  | tup xs =>
    have l : ∀ U, biD .len [.tup xs] U = some (.int (xs.length : Nat)) := fun U => rfl
    by_cases c : xs.length = rows.length
    · obtain ⟨c2, c3, e1⟩ := isc_loop (rows := rows) (K := K) (S := []) k n (.tup xs) xs 0 none none (dat_tup.mp hd).2 (by omega)
      rw [h xs rfl c, if_neg (by decide)] at e1
      have et : evalI (C (k + 1)) T0 (.enum (.v 1)) [some (ordD rows K), some (.tup xs), none, none] [] = some (.ok (enF 0 xs) []) := rfl
      have e0 : exec (C (k + 1)) T0 (.ifs (.or (.not (.isi (.v 1) .tuple)) (.cmp .ne (.bi .len (.cons (.v 1) .nil)) (.mcl 0 i_Order_count "count" true (.v 0) .nil))) (.cons (.ret (.c (.bl false))) .nil) .nil) [some (ordD rows K), some (.tup xs), none, none] [] = some (.nx [some (ordD rows K), some (.tup xs), none, none] []) := by
        generalize ordD rows K = o at *
        simp [l, f, cc, c]
      have e2 : exec (C (k + 1)) T0 (.for (.t (.cons (.n 2) (.cons (.n 3) .nil))) (.enum (.v 1)) l_Order_is_cut_1) [some (ordD rows K), some (.tup xs), none, none] [] = some (.rt (.bl false) []) := by
        rw [exec, et]; exact e1
      simp only [b_Order_is_cut, execs, e0, e2, seqS_nx, seqS_rt, outS_rt]
    · generalize ordD rows K = o at *
      have c' : ¬ ((xs.length : Int) = (rows.length : Int)) := by omega
      simp [b_Order_is_cut, l, f, cc, c', c]
  | non => simp [b_Order_is_cut]
  | bl b => simp [b_Order_is_cut]
  | int b => simp [b_Order_is_cut]
  | str b => simp [b_Order_is_cut]
  | lst b => simp [b_Order_is_cut]
  | dct t ks vs => cases hd
  | obj c ns vs => cases hd
  | ref m => cases hd
  | scr m => cases hd
end
end Lk
namespace Lk
open PyProof.Rows L2 Ip
/-! ### the list of all cuts -/
section
variable {rows : Rn} {K : Clk}
theorem cuts_in (k : Nat) (h6 : rows.length ≤ 6) {c : List Nat} (hc : c.length = rows.length) (v1 v2 v3 : Option D) (U : Sto) : ∀ (ps : List Nat), (∀ p ∈ ps, p < rows.length) → ∀ (l : List (List Nat)) (v6 : Option D), l.Nodup → l.length + ps.length ≤ 1000000 →
    ∃ l' c6, forL (.n 6) (fun e S => execs (C (k + 1)) T0 l_Order_cuts_1 e S) (intsN ps) [some (ordD rows K), v1, v2, v3, some (.ref U.length), some (tupN c), v6] (U ++ [ktV l]) =
      some (.nx [some (ordD rows K), v1, v2, v3, some (.ref U.length), some (tupN c), c6] (U ++ [ktV l'])) ∧ l'.Nodup ∧ l'.length ≤ l.length + ps.length ∧ ∀ x, x ∈ l' ↔ x ∈ l ∨ ∃ p ∈ ps, addV c p = x
  | [], _, l, v6, hn, hl => ⟨l, v6, rfl, hn, Nat.le_refl _, fun x => by simp⟩
  | p :: ps, hp, l, v6, hn, hl => by
    rw [List.length_cons] at hl
    have il := insV_len (addV c p) l
    obtain ⟨l', c6, e, h1, h2, h3⟩ := cuts_in k h6 hc v1 v2 v3 U ps (fun q hq => hp q (List.mem_cons_of_mem _ hq)) (insV (addV c p) l) (some (.int (p : Int))) (insV_nodup hn) (by omega)
    refine ⟨l', c6, ?_, h1, by rw [List.length_cons]; omega, fun x => ?_⟩
    · have hpl := hp p (List.mem_cons_self ..)
      have f := fun S => om_added (rows := rows) (K := K) (S := S)
      have ad := fun S => added_c (rows := rows) (K := K) (S := S) k (c := c) (p := p) (by omega) (by omega)
      have pq := fun env => putS_ktV (ks := l) (c := addV c p) (env := env) (U := U) (by omega)
      have st : execs (C (k + 1)) T0 l_Order_cuts_1 [some (ordD rows K), v1, v2, v3, some (.ref U.length), some (tupN c), some (.int (p : Int))] (U ++ [ktV l]) = some (.nx [some (ordD rows K), v1, v2, v3, some (.ref U.length), some (tupN c), some (.int (p : Int))] (U ++ [ktV (insV (addV c p) l)])) := by
        generalize ordD rows K = o at *
        simp only [l_Order_cuts_1, execs, exec, evalE, evalEs, List.getElem?_cons_succ, List.getElem?_cons_zero, Cst.d, bnd_ok, bnS_ok, f, if_true, ad]
        show seqS (putS U.length (tupN (addV c p)) (.bl true) [some o, v1, v2, v3, some (.ref U.length), some (tupN c), some (.int (p : Int))] (U ++ [ktV l])) _ = _
        rw [pq]; rfl
      have lc : intsN (p :: ps) = .int (p : Int) :: intsN ps := rfl
      rw [lc]
      simp only [forL, asg_n, List.set_cons_succ, List.set_cons_zero, st]
      exact e
    · rw [h3, insV_mem]
      constructor
      · rintro ((h | rfl) | ⟨q, hq, rfl⟩)
        · exact .inl h
        · exact .inr ⟨p, List.mem_cons_self .., rfl⟩
        · exact .inr ⟨q, List.mem_cons_of_mem _ hq, rfl⟩
      · rintro (h | ⟨q, hq, rfl⟩)
        · exact .inl (.inl h)
        · rcases List.mem_cons.mp hq with rfl | hq
          · exact .inl (.inr rfl)
          · exact .inr ⟨q, hq, rfl⟩
theorem ups_lt {c : List Nat} {p : Nat} (h : p ∈ upsV rows K c) : p < rows.length := List.mem_range.mp (List.mem_filter.mp h).1
theorem ups_len (c : List Nat) : (upsV rows K c).length ≤ rows.length := by
  unfold upsV
  refine Nat.le_trans (List.length_filter_le ..) ?_
  rw [List.length_range]; exact Nat.le_refl _
theorem cuts_out (k : Nat) (h6 : rows.length ≤ 6) (hK : IsClk rows K) (v1 v2 v3 : Option D) (U : Sto) : ∀ (cs : List (List Nat)), (∀ c ∈ cs, c.length = rows.length) → ∀ (l : List (List Nat)) (v5 v6 : Option D), l.Nodup → l.length + 6 * cs.length ≤ 1000000 →
    ∃ l' c5 c6, forL (.n 5) (fun e S => execs (C (k + 2)) T0 l_Order_cuts_2 e S) (cs.map tupN) [some (ordD rows K), v1, v2, v3, some (.ref U.length), v5, v6] (U ++ [ktV l]) =
      some (.nx [some (ordD rows K), v1, v2, v3, some (.ref U.length), c5, c6] (U ++ [ktV l'])) ∧ l'.Nodup ∧ l'.length ≤ l.length + 6 * cs.length ∧ ∀ x, x ∈ l' ↔ x ∈ l ∨ ∃ c p, c ∈ cs ∧ p ∈ upsV rows K c ∧ addV c p = x
  | [], _, l, v5, v6, hn, hl => ⟨l, v5, v6, rfl, hn, Nat.le_refl _, fun x => by simp⟩
  | c :: cs, hc, l, v5, v6, hn, hl => by
    rw [List.length_cons] at hl
    have hcl := hc c (List.mem_cons_self ..)
    have ul := ups_len (rows := rows) (K := K) c
    obtain ⟨l1, b6, e1, n1, m1, i1⟩ := cuts_in (K := K) (k + 1) h6 hcl v1 v2 v3 U (upsV rows K c) (fun p hp => ups_lt hp) l v6 hn (by omega)
    obtain ⟨l2, c5, c6, e2, n2, m2, i2⟩ := cuts_out k h6 hK v1 v2 v3 U cs (fun z hz => hc z (List.mem_cons_of_mem _ hz)) l1 (some (tupN c)) b6 n1 (by omega)
    refine ⟨l2, c5, c6, ?_, n2, by rw [List.length_cons]; omega, fun x => ?_⟩
    · have f := fun S => om_ups (rows := rows) (K := K) (S := S)
      have up := fun S => ups_c (rows := rows) (K := K) (S := S) k h6 hK hcl
      have it : ∀ l : List D, itD (.lst l) = some l := fun l => rfl
      have st : execs (C (k + 2)) T0 l_Order_cuts_2 [some (ordD rows K), v1, v2, v3, some (.ref U.length), some (tupN c), v6] (U ++ [ktV l]) = some (.nx [some (ordD rows K), v1, v2, v3, some (.ref U.length), some (tupN c), b6] (U ++ [ktV l1])) := by
        generalize ordD rows K = o at *
        generalize upsV rows K c = us at *
        simp only [l_Order_cuts_2, execs, exec, evalI, evalE, evalEs, List.getElem?_cons_succ, List.getElem?_cons_zero, bnd_ok, bnS_ok, f, if_true, up, it, okO_some, e1, seqS_nx]
      rw [List.map_cons]
      simp only [forL, asg_n, List.set_cons_succ, List.set_cons_zero, st]
      exact e2
    · rw [i2, i1]
      constructor
      · rintro ((h | ⟨p, hp, rfl⟩) | ⟨d, p, hd, hp, rfl⟩)
        · exact .inl h
        · exact .inr ⟨c, p, List.mem_cons_self .., hp, rfl⟩
        · exact .inr ⟨d, p, List.mem_cons_of_mem _ hd, hp, rfl⟩
      · rintro (h | ⟨d, p, hd, hp, rfl⟩)
        · exact .inl (.inl h)
        · rcases List.mem_cons.mp hd with rfl | hd
          · exact .inl (.inr ⟨p, hp, rfl⟩)
          · exact .inr ⟨d, p, hd, hp, rfl⟩
/-- the cuts of fewer events than s, by size -/
def fnd (rows : Rn) (K : Clk) (s : Nat) : List (List Nat) := (List.range s).flatMap (lev rows K)
theorem fnd_succ (s : Nat) : fnd rows K (s + 1) = fnd rows K s ++ lev rows K s := by
  unfold fnd; rw [List.range_succ, List.flatMap_append]; simp
theorem fnd_len : ∀ s, (fnd rows K s).length = ((cutsOf rows K).filter fun c => decide (c.sum < s)).length
  | 0 => by rw [List.filter_eq_nil_iff.mpr (fun c _ => by simp)]; rfl
  | s + 1 => by
    rw [fnd_succ, List.length_append, fnd_len s]
    unfold lev
    rw [List.length_mergeSort]
    generalize cutsOf rows K = l
    induction l with
    | nil => rfl
    | cons c l ih =>
      simp only [List.filter_cons]
      by_cases h1 : c.sum < s
      · have d1 := decide_eq_true h1
        have d2 : decide (c.sum = s) = false := decide_eq_false (by omega)
        have d3 : decide (c.sum < s + 1) = true := decide_eq_true (by omega)
        simp only [d1, d2, d3, if_true, Bool.false_eq_true, if_false, List.length_cons]
        omega
      · have d1 := decide_eq_false h1
        by_cases h2 : c.sum = s
        · have d2 := decide_eq_true h2
          have d3 : decide (c.sum < s + 1) = true := decide_eq_true (by omega)
          simp only [d1, d2, d3, if_true, Bool.false_eq_true, if_false, List.length_cons]
          omega
        · have d2 := decide_eq_false h2
          have d3 : decide (c.sum < s + 1) = false := decide_eq_false (by omega)
          simp only [d1, d2, d3, Bool.false_eq_true, if_false]
          exact ih
theorem fnd_le (s : Nat) : (fnd rows K s).length ≤ (cutsL rows K).length := by
  rw [fnd_len]
  unfold cutsL
  rw [List.length_mergeSort]
  exact List.length_filter_le ..
theorem lev_le (s : Nat) : (lev rows K s).length ≤ (cutsL rows K).length := by
  have := fnd_le (rows := rows) (K := K) (s + 1)
  rw [fnd_succ, List.length_append] at this
  omega
theorem lev_end : ∃ T, lev rows K T = [] := by
  refine ⟨((cutsOf rows K).map List.sum).sum + 1, ?_⟩
  rw [List.eq_nil_iff_forall_not_mem]
  intro x hx
  obtain ⟨h1, h2⟩ := mem_lev.mp hx
  have hm := mem_cutsOf.mpr h1
  have : ∀ l : List (List Nat), x ∈ l → x.sum ≤ (l.map List.sum).sum := by
    intro l
    induction l with
    | nil => intro h; cases h
    | cons y l ih =>
      intro h
      rw [List.map_cons, List.sum_cons]
      rcases List.mem_cons.mp h with rfl | h
      · omega
      · have := ih h; omega
  have := this _ hm
  omega
end
end Lk
namespace Lk
open PyProof.Rows L2 Ip
/-! ### every cut but the whole one can be added to -/
section
variable {rows : Rn} {K : Clk}
theorem whole_of {c : List Nat} (hc : c ∈ allV (sizesV rows)) (h : ∀ p, lens rows p ≤ c.getD p 0) : c = sizesV rows := by
  obtain ⟨h1, h2⟩ := mem_all.mp hc
  refine List.ext_getElem (by rw [h1, sizes_len]) fun i i1 i2 => ?_
  have a := h i
  have b := h2 i
  rw [getD_of i1] at a b
  have e := sizes_get rows i
  rw [getD_of i2] at e
  omega
theorem ups_ne (hR : Rnn rows) (hK : IsClk rows K) {c : List Nat} (hc : IsCutV rows K c) (hn : c ≠ sizesV rows) : upsV rows K c ≠ [] := fun z => by
  obtain ⟨hl, hr⟩ := (cutV_iff hR hK).mp hc
  obtain ⟨d, hd, hf⟩ := hR.po
  refine hn (whole_of hc.1 fun p => ?_)
  have := hd.le_stuck (d' := fV c) (fun p hp => ?_) p
  · have e := hf p
    unfold lens
    unfold fV at this
    omega
  · have hpr : p < rows.length := by
      obtain ⟨e, he, _⟩ := hp
      exact ev_lt he
    have : IsCutV rows K (addV c p) := (cutV_iff hR hK).mpr ⟨by rw [addV_len]; exact hl, by rw [fV_add (by omega)]; exact .step hr hp⟩
    have := (ups_iff hK hc hpr).mpr this
    rw [z] at this
    cases this
theorem lev_ne (hR : Rnn rows) (hK : IsClk rows K) : ∀ s, s ≤ (sizesV rows).sum → ∃ c, c ∈ lev rows K s
  | 0, _ => by
    rw [lev_zero hR hK]; exact ⟨_, List.mem_cons_self ..⟩
  | s + 1, h => by
    obtain ⟨c, hc⟩ := lev_ne hR hK s (by omega)
    obtain ⟨h1, h2⟩ := mem_lev.mp hc
    have nw : c ≠ sizesV rows := fun z => by rw [z] at h2; omega
    obtain ⟨p, hp⟩ := List.exists_mem_of_ne_nil _ (ups_ne hR hK h1 nw)
    have hpl := List.mem_range.mp (List.mem_filter.mp hp).1
    have hl := (mem_all.mp h1.1).1
    exact ⟨addV c p, mem_lev.mpr ⟨(ups_iff hK h1 hpl).mp hp, by rw [addV_sum (by omega), h2]⟩⟩
theorem fnd_ge (hR : Rnn rows) (hK : IsClk rows K) : ∀ s, s ≤ (sizesV rows).sum + 1 → s ≤ (fnd rows K s).length
  | 0, _ => Nat.zero_le _
  | s + 1, h => by
    have := fnd_ge hR hK s (by omega)
    obtain ⟨c, hc⟩ := lev_ne hR hK s (by omega)
    have := List.length_pos_of_mem hc
    rw [fnd_succ, List.length_append]
    omega
def cuE (rows : Rn) (K : Clk) (most : Int) (m s : Nat) (v4 v5 v6 : Option D) : Ip.En := [some (ordD rows K), some (.int most), some (.ref m), some (.lst ((lev rows K s).map tupN)), v4, v5, v6]
theorem cutsx_loop (k : Nat) (hR : Rnn rows) (hK : IsClk rows K) {most : Nat} (hM : most ≤ 1000) (hw : most ≤ (sizesV rows).sum) (m : Nat) : ∀ (f s : Nat), s + f = most + 1 → ∀ (U : Sto) (v4 v5 v6 : Option D), (fnd rows K s).length ≤ most → (lev rows K s).length ≤ 6 * most + 1 → U[m]? = some (.lst ((fnd rows K s).map tupN)) →
    ∃ e U', lfp (whlStep (fun e S => evalT (C (k + 3)) T0 w_Order_cuts_1 e S) (fun e S => execs (C (k + 3)) T0 l_Order_cuts_3 e S)) (cuE rows K most m s v4 v5 v6, U) = some (.ex 2 e U') := by
  intro f
  induction f with
  | zero =>
    intro s hs U v4 v5 v6 hm _ _
    have := fnd_ge hR hK s (by omega)
    omega
  | succ f ih =>
    intro s hs U v4 v5 v6 hm hv hU
    obtain ⟨c0, hc0⟩ := lev_ne hR hK s (by omega)
    have hl : ¬ lev rows K s = [] := fun z => by rw [z] at hc0; cases hc0
    have h6 : rows.length ≤ 6 := hR.sh.1.2
    have t1 : evalT (C (k + 3)) T0 w_Order_cuts_1 (cuE rows K most m s v4 v5 v6) U = some (.ok true U) := by
      have e := eqD_VL (S := U) (lev rows K s) []
      rw [decide_eq_false hl] at e
      unfold cuE w_Order_cuts_1
      have ne : cmpD .ne (.lst ((lev rows K s).map tupN)) (.lst []) U = some true := by
        show (eqD U (.lst ((lev rows K s).map tupN)) (.lst (([] : List (List Nat)).map tupN))).map not = _
        rw [e]; rfl
      simp only [evalT, evalE, evalEs, List.getElem?_cons_succ, List.getElem?_cons_zero, bnd_ok, List.length_nil, Nat.zero_le, if_true, mkL_f, ne, okO_some]
    -- found.extend(level)
    have g := getL_eq hU
    have sl : (fnd rows K s).length + (lev rows K s).length ≤ PySem.sizeLine := by
      rw [PySem.sizeLine_eq]; omega
    have ex : meD .extend (.ref m) [.lst ((lev rows K s).map tupN)] U = some (.ok .non (U.set m (.lst ((fnd rows K (s + 1)).map tupN)))) := by
      show (match getL U m, lstD U (.lst ((lev rows K s).map tupN)) with
        | some zs, some ys => if zs.length + ys.length ≤ PySem.sizeLine then some (Ro.ok D.non (U.set m (.lst (zs ++ ys)))) else none
        | _, _ => none) = _
      rw [g]
      show (if ((fnd rows K s).map tupN).length + ((lev rows K s).map tupN).length ≤ PySem.sizeLine then some (Ro.ok D.non (U.set m (.lst ((fnd rows K s).map tupN ++ (lev rows K s).map tupN)))) else none) = _
      rw [if_pos (by rw [List.length_map, List.length_map]; exact sl), fnd_succ, List.map_append]
    have ty : tyM .extend (.ref m) U = true := by
      show (getL U m).isSome = true
      rw [g]; rfl
    have hU1 : (U.set m (.lst ((fnd rows K (s + 1)).map tupN)))[m]? = some (.lst ((fnd rows K (s + 1)).map tupN)) := List.getElem?_set_self (List.getElem?_eq_some_iff.mp hU).1
    generalize U.set m (.lst ((fnd rows K (s + 1)).map tupN)) = U1 at ex hU1
    have ln : biD .len [.ref m] U1 = some (.int ((fnd rows K (s + 1)).length : Nat)) := by rw [lenR hU1, List.length_map]
    have x1 : exec (C (k + 3)) T0 (.ex (.me .extend (.v 2) (.cons (.v 3) .nil))) (cuE rows K most m s v4 v5 v6) U = some (.nx (cuE rows K most m s v4 v5 v6) U1) := by
      unfold cuE
      simp only [exec, evalE, evalEs, List.getElem?_cons_succ, List.getElem?_cons_zero, bnd_ok, ty, if_true, ex, bnS_ok]
    by_cases c : ((fnd rows K (s + 1)).length : Int) > (most : Int)
    · have x2 : exec (C (k + 3)) T0 (.ifs (.cmp .gt (.bi .len (.cons (.v 2) .nil)) (.v 1)) (.cons (.raise 2) .nil) .nil) (cuE rows K most m s v4 v5 v6) U1 = some (.ex 2 (cuE rows K most m s v4 v5 v6) U1) := by
        unfold cuE
        have c' : (most : Int) < ((fnd rows K (s + 1)).length : Int) := c
        simp only [exec, evalT, evalE, evalEs, List.getElem?_cons_succ, List.getElem?_cons_zero, bnd_ok, ln, okO_some, cmpD_gt, c', decide_true, bnS_ok, execs, seqS_ex]
      refine ⟨cuE rows K most m s v4 v5 v6, U1, ?_⟩
      rw [lfp_eq]
      simp only [whlStep, t1, l_Order_cuts_3, execs, x1, x2, seqS_nx, seqS_ex]
    · have x2 : exec (C (k + 3)) T0 (.ifs (.cmp .gt (.bi .len (.cons (.v 2) .nil)) (.v 1)) (.cons (.raise 2) .nil) .nil) (cuE rows K most m s v4 v5 v6) U1 = some (.nx (cuE rows K most m s v4 v5 v6) U1) := by
        unfold cuE
        have c' : ¬ (most : Int) < ((fnd rows K (s + 1)).length : Int) := c
        simp only [exec, evalT, evalE, evalEs, List.getElem?_cons_succ, List.getElem?_cons_zero, bnd_ok, ln, okO_some, cmpD_gt, c', decide_false, bnS_ok, execs]
      have lv : (lev rows K s).length ≤ most := by
        have : (fnd rows K (s + 1)).length ≤ most := by omega
        rw [fnd_succ, List.length_append] at this
        omega
      have x3 : exec (C (k + 3)) T0 (.asg (.n 4) (.dct true 1 [] [])) (cuE rows K most m s v4 v5 v6) U1 = some (.nx (cuE rows K most m s (some (.ref U1.length)) v5 v6) (U1 ++ [ktV []])) := rfl
      obtain ⟨l', c5, c6, e4, n4, m4, i4⟩ := cuts_out (k + 1) h6 hK (some (.int (most : Int))) (some (.ref m)) (some (.lst ((lev rows K s).map tupN))) U1 (lev rows K s) (fun c hc => (mem_all.mp (mem_lev.mp hc).1.1).1) [] v5 v6 List.nodup_nil (by simp only [List.length_nil]; omega)
      have x4 : exec (C (k + 3)) T0 (.for (.n 5) (.of (.v 3)) l_Order_cuts_2) (cuE rows K most m s (some (.ref U1.length)) v5 v6) (U1 ++ [ktV []]) = some (.nx (cuE rows K most m s (some (.ref U1.length)) c5 c6) (U1 ++ [ktV l'])) := by
        have it : ∀ l : List D, itD (.lst l) = some l := fun l => rfl
        unfold cuE
        rw [exec]
        simp only [evalI, evalE, List.getElem?_cons_succ, List.getElem?_cons_zero, bnd_ok, it, okO_some, bnS_ok]
        exact e4
      have nl : l'.mergeSort leV = lev rows K (s + 1) := next_lev hR hK n4 (fun x => by rw [i4]; simp)
      have so : bfD .sorted false [.ref U1.length] (U1 ++ [ktV l']) = some (.ok (.lst ((lev rows K (s + 1)).map tupN)) (U1 ++ [ktV l'])) := by
        have g0 : (U1 ++ [ktV l'])[U1.length]? = some (.dct 1 (l'.map tupN) (l'.map fun _ => .bl true)) := at_last U1 _
        have gL : getL (U1 ++ [ktV l']) U1.length = none := by unfold getL; rw [g0]
        have gD : dctD (U1 ++ [ktV l']) (.ref U1.length) = some (1, l'.map tupN, l'.map fun _ => .bl true) := by
          show (match (U1 ++ [ktV l'])[U1.length]? with
            | some (.dct t ks vs) => some (t, ks, vs)
            | _ => none) = _
          rw [g0]
        show (match lstD (U1 ++ [ktV l']) (.ref U1.length) with
          | some ds => match asInts ds with
            | some ns => mkL false ((sortI ns).map .int) (U1 ++ [ktV l'])
            | none => @ite _ (SortOk ds) (Classical.propDecidable _) (mkL false (ds.mergeSort leD) (U1 ++ [ktV l'])) none
          | none => match dctD (U1 ++ [ktV l']) (.ref U1.length) with
            | some (1, ks, _) => @ite _ (SortOk ks) (Classical.propDecidable _) (mkL false (ks.mergeSort leD) (U1 ++ [ktV l'])) none
            | _ => none) = _
        rw [show lstD (U1 ++ [ktV l']) (.ref U1.length) = none from gL, gD]
        simp only
        have h1 : 1 ≤ rows.length := hR.sh.1.1
        rw [if_pos (sortOk_V (fun c hc z => by
          obtain ⟨c0, p, hc0, hp, e⟩ := (i4 c).mp hc |>.resolve_left (by simp)
          have := (mem_all.mp (mem_lev.mp hc0).1.1).1
          have l2 := addV_len c0 p
          rw [e, z] at l2
          simp at l2
          omega) (by simp only [List.length_nil] at m4; omega)), mkL_f, ← List.map_mergeSort (r := leV) (s := leD) (f := tupN) (fun a _ b _ => (leD_V a b).symm), nl]
      have x5 : exec (C (k + 3)) T0 (.asg (.n 3) (.bf .sorted false (.cons (.v 4) .nil))) (cuE rows K most m s (some (.ref U1.length)) c5 c6) (U1 ++ [ktV l']) = some (.nx (cuE rows K most m (s + 1) (some (.ref U1.length)) c5 c6) (U1 ++ [ktV l'])) := by
        unfold cuE
        simp only [exec, evalE, evalEs, List.getElem?_cons_succ, List.getElem?_cons_zero, bnd_ok, so, bnS_ok, asg_n, List.set_cons_succ, List.set_cons_zero]
      obtain ⟨e, U', er⟩ := ih (s + 1) (by omega) (U1 ++ [ktV l']) (some (.ref U1.length)) c5 c6 (by omega) (by
        rw [← nl, List.length_mergeSort]
        simp only [List.length_nil] at m4
        omega) (gt_of hU1 _)
      refine ⟨e, U', ?_⟩
      rw [lfp_eq]
      simp only [whlStep, t1, l_Order_cuts_3, execs, x1, x2, x3, x4, x5, seqS_nx]
      exact er
theorem cutsx_c (k : Nat) (hR : Rnn rows) (hK : IsClk rows K) {most : Nat} (hM : most ≤ 1000) (hw : most ≤ (sizesV rows).sum) (S : Sto) : callP (C (k + 4)) true i_Order_cuts [ordD rows K, .int (most : Int)] S = some (.ex 2 S) := by
  have h6 : rows.length ≤ 6 := hR.sh.1.2
  obtain ⟨e', U', e⟩ := cutsx_loop k hR hK hM hw ([] : Sto).length (most + 1) 0 (by omega) ([] ++ [.lst []]) none none none (Nat.zero_le _) (by rw [lev_zero hR hK]; simp) (at_last [] _)
  have f := fun S => om_empty (rows := rows) (K := K) (S := S)
  have em := fun S => empty_c (rows := rows) (K := K) (S := S) (k + 1) h6
  have x1 : exec (C (k + 3)) T0 (.asg (.n 2) (.lst true .nil)) [some (ordD rows K), some (.int (most : Int)), none, none, none, none, none] [] = some (.nx [some (ordD rows K), some (.int (most : Int)), some (.ref ([] : Sto).length), none, none, none, none] ([] ++ [.lst []])) := by
    simp only [exec, evalE, evalEs, bnd_ok, List.length_nil, Nat.zero_le, if_true, mkL_t, bnS_ok, asg_n, List.set_cons_succ, List.set_cons_zero]
  have x2 : exec (C (k + 3)) T0 (.asg (.n 3) (.lst false (.cons (.mcl 0 i_Order_empty "empty" true (.v 0) .nil) .nil))) [some (ordD rows K), some (.int (most : Int)), some (.ref ([] : Sto).length), none, none, none, none] ([] ++ [.lst []]) = some (.nx (cuE rows K most ([] : Sto).length 0 none none none) ([] ++ [.lst []])) := by
    unfold cuE
    rw [lev_zero hR hK]
    generalize ordD rows K = o at *
    simp only [exec, evalE, evalEs, List.getElem?_cons_zero, bnd_ok, f, em, if_true, List.length_cons, List.length_nil, (show (0 + 1 ≤ PySem.sizeLine) by rw [PySem.sizeLine_eq]; decide), mkL_f, bnS_ok, asg_n, List.set_cons_succ, List.set_cons_zero]
    rfl
  have x3 : exec (C (k + 3)) T0 (.whl w_Order_cuts_1 l_Order_cuts_3) (cuE rows K most ([] : Sto).length 0 none none none) ([] ++ [.lst []]) = some (.ex 2 e' U') := e
  refine callP_tx (S1 := U') (by simp only [pures, ordD_pure, D.pure, Bool.and_true]) ?_
  rw [c_Order_cuts]
  simp only [b_Order_cuts, execs, x1, x2, x3, seqS_nx, seqS_ex, outS_ex]
end
end Lk
namespace Lk
open PyProof.Rows L2 Ip
/-! ### drawn changes -/
theorem abcd_it : itD (.str "abcd") = some [.str ⟨#[97]⟩, .str ⟨#[98]⟩, .str ⟨#[99]⟩, .str ⟨#[100]⟩] := by
  rw [itD_str, show (PySem.Str.ofString "abcd").cps.toList = [97, 98, 99, 100] by decide +kernel]; rfl
theorem abcd_cps : (PySem.Str.ofString "abcd").cps.toList = [97, 98, 99, 100] := by decide +kernel

theorem chs_step (k n : Nat) (s : Bs) (S : Sto) (cs : List Ch) (v : Nat) (hn : n < S.length) (hl : cs.length ≤ 1000) :
    ∃ s' cs', execs (C (k + 1)) T0 l__law_changes_1 [some (.ref n), some (.ref S.length), some (.str (mk [v]))] (bS n s (S ++ [.lst (cs.map chD)])) =
      some (.nx [some (.ref n), some (.ref S.length), some (.str (mk [v]))] (bS n s' (S ++ [.lst (cs'.map chD)]))) ∧ (cs' = cs ∨ ∃ i, cs' = cs ++ [(v, i)] ∧ -1000 ≤ i ∧ i ≤ 1000) := by
  have d1 := draw_ok k n s (S ++ [.lst (cs.map chD)]) 4 (app_lt hn _) (by decide) (by decide)
  by_cases h : dr 4 s = 0
  · have d2 := draw_ok k n (nx 4 s) (S ++ [.lst (cs.map chD)]) 2001 (app_lt hn _) (by decide) (by decide)
    have d3 := draw_ok k n (nx 2001 (nx 4 s)) (S ++ [.lst (cs.map chD)]) 7 (app_lt hn _) (by decide) (by decide)
    have l0 := dr_low (m := 2001) (nx 4 s) (by decide)
    have l1 := dr_top (m := 2001) (nx 4 s) (by decide)
    have e : ∃ i, pk [.int 0, .int 1, .int (-1), .int 2, .int 1000, .int (-1000), .int (dr 2001 (nx 4 s) - 1000)] (dr 7 (nx 2001 (nx 4 s))) = .int i ∧ -1000 ≤ i ∧ i ≤ 1000 :=
      pk_dr (P := fun d => ∃ i, d = D.int i ∧ -1000 ≤ i ∧ i ≤ 1000) (by decide) (by simp) (by
        intro d hd
        simp only [List.mem_cons, List.not_mem_nil, or_false] at hd
        rcases hd with rfl | rfl | rfl | rfl | rfl | rfl | rfl
        all_goals first
          | exact ⟨_, rfl, by decide, by decide⟩
          | exact ⟨_, rfl, by omega, by omega⟩)
    obtain ⟨i, hi, i1, i2⟩ := e
    obtain ⟨s', hs'⟩ : ∃ s', s' = nx 7 (nx 2001 (nx 4 s)) := ⟨_, rfl⟩
    rw [← hs'] at d3
    have g : (bS n s' (S ++ [.lst (cs.map chD)]))[S.length]? = some (.lst (cs.map chD)) := by rw [bS_ne (by omega), at_last]
    have ma := meD_app (d := chD (v, i)) g (by rw [PySem.sizeLine_eq, List.length_map]; omega)
    have e1 : cs.map chD ++ [chD (v, i)] = (cs ++ [(v, i)]).map chD := by simp
    rw [e1, bS_set (show n ≠ S.length by omega), set_last] at ma
    have ma : meD .append (.ref S.length) [.tup [.str (mk [v]), .int i]] (bS n s' (S ++ [.lst (cs.map chD)])) = some (.ok .non (bS n s' (S ++ [.lst ((cs ++ [(v, i)]).map chD)]))) := ma
    refine ⟨s', cs ++ [(v, i)], ?_, .inr ⟨i, rfl, i1, i2⟩⟩
    have g2 : ∀ t : Bs, tyM .append (.ref S.length) (bS n t (S ++ [.lst (cs.map chD)])) = true := fun t => tyM_app (by rw [bS_ne (by omega), at_last])
    generalize (cs ++ [(v, i)]).map chD = zs at ma ⊢
    generalize cs.map chD = ys at *
    simp [l__law_changes_1, d1, h, d2, d3, at_dr, hi, ma, g2]
  · refine ⟨nx 4 s, cs, ?_, .inl rfl⟩
    generalize cs.map chD = ys at *
    simp [l__law_changes_1, d1, h]
theorem chs_loop (k n : Nat) (S : Sto) (hn : n < S.length) : ∀ (vs : List Nat) (s : Bs) (cs : List Ch) (c0 : Option D), vs.Pairwise (· < ·) → (∀ v ∈ vs, 97 ≤ v ∧ v ≤ 100) → (∀ q ∈ cs, chOk q) → (cs.map (·.1)).Pairwise (· < ·) → (∀ q ∈ cs, ∀ v ∈ vs, q.1 < v) → cs.length + vs.length ≤ 4 →
    ∃ s' cs' c1, forL (.n 2) (fun e S => execs (C (k + 1)) T0 l__law_changes_1 e S) (vs.map fun v => .str (mk [v])) [some (.ref n), some (.ref S.length), c0] (bS n s (S ++ [.lst (cs.map chD)])) =
      some (.nx [some (.ref n), some (.ref S.length), c1] (bS n s' (S ++ [.lst (cs'.map chD)]))) ∧ CsOk cs'
  | [], s, cs, c0, _, _, h, hp, _, hl => ⟨s, cs, c0, rfl, h, hp, by simpa using hl⟩
  | v :: vs, s, cs, c0, hv, hr, h, hp, hx, hl => by
    rw [List.pairwise_cons] at hv
    rw [List.length_cons] at hl
    obtain ⟨s1, cs1, e1, hc⟩ := chs_step k n s S cs v hn (by omega)
    have v1 := hr v (List.mem_cons_self ..)
    have next : (∀ q ∈ cs1, chOk q) ∧ (cs1.map (·.1)).Pairwise (· < ·) ∧ (∀ q ∈ cs1, ∀ w ∈ vs, q.1 < w) ∧ cs1.length ≤ cs.length + 1 := by
      rcases hc with rfl | ⟨i, rfl, i1, i2⟩
      · exact ⟨h, hp, fun q hq w hw => hx q hq w (List.mem_cons_of_mem _ hw), by omega⟩
      · refine ⟨fun q hq => ?_, ?_, fun q hq w hw => ?_, by simp⟩
        · rcases List.mem_append.mp hq with hq | hq
          · exact h q hq
          · rw [List.mem_singleton.mp hq]; exact ⟨v1, i1, i2⟩
        · rw [List.map_append, List.pairwise_append]
          refine ⟨hp, by simp, fun a ha b hb => ?_⟩
          obtain ⟨q, hq, rfl⟩ := List.mem_map.mp ha
          simp at hb
          rw [hb]
          exact hx q hq v (List.mem_cons_self ..)
        · rcases List.mem_append.mp hq with hq | hq
          · exact hx q hq w (List.mem_cons_of_mem _ hw)
          · rw [List.mem_singleton.mp hq]; exact hv.1 w hw
    obtain ⟨n1, n2, n3, n4⟩ := next
    obtain ⟨s2, cs2, c2, e2, h2⟩ := chs_loop k n S hn vs s1 cs1 (some (.str (mk [v]))) hv.2 (fun w hw => hr w (List.mem_cons_of_mem _ hw)) n1 n2 n3 (by omega)
    refine ⟨s2, cs2, c2, ?_, h2⟩
    rw [List.map_cons]
    simp only [forL, asg_n, List.set_cons_succ, List.set_cons_zero]
    rw [e1]
    exact e2
theorem chs_ok (k n : Nat) (s : Bs) (S : Sto) (hn : n < S.length) : ∃ cs s' T, C (k + 2) i__law_changes [.ref n] (bS n s S) = some (.ok (csD cs) (bS n s' (S ++ T))) ∧ CsOk cs := by
  rw [c__law_changes]
  obtain ⟨s', cs, c1, e, h⟩ := chs_loop k n S hn [97, 98, 99, 100] s [] none (by decide) (by decide) (fun q h => by cases h) (by simp) (fun q h => by cases h) (by simp)
  simp only [List.map_cons, List.map_nil] at e
  have g : biD .tuple [.ref S.length] (bS n s' (S ++ [.lst (cs.map chD)])) = some (.tup (cs.map chD)) := biD_tupR (by rw [bS_ne (by omega), at_last])
  refine ⟨cs, s', [.lst (cs.map chD)], ?_, h⟩
  unfold csD
  generalize cs.map chD = ys at *
  simp [b__law_changes, abcd_cps, bS_app hn, e, g]
end Lk
namespace Lk
open PyProof.Rows L2 Ip
def tlN : Nat → Stms → Stms
  | 0, s => s
  | n + 1, .cons _ r => tlN n r
  | _ + 1, s => s
def stN : Nat → Stms → Stm
  | 0, .cons s _ => s
  | n + 1, .cons _ r => stN n r
  | _, _ => .pass
/-! ### large runs: the store -/
theorem draw_at (k : Nat) {n : Nat} {S : Sto} {s : Bs} {m : Int} (h : S[n]? = some s.ob) (h0 : 0 < m) (h1 : m < 1073741824) : C (k + 1) i__law_draw [.ref n, .int m] S = some (.ok (.int (dr m s)) (bS n (nx m s) S)) := by
  have hn : n < S.length := (List.getElem?_eq_some_iff.mp h).1
  have := draw_ok k n s S m hn h0 h1
  have e : bS n s S = S := by
    unfold bS
    exact List.ext_getElem? fun i => by
      by_cases c : n = i
      · subst c; rw [List.getElem?_set_self hn]; exact h.symm
      · rw [List.getElem?_set_ne c]
  rw [e] at this
  exact this
theorem chs_at (k : Nat) {n : Nat} {S : Sto} {s : Bs} (h : S[n]? = some s.ob) : ∃ cs s' T, C (k + 2) i__law_changes [.ref n] S = some (.ok (csD cs) (bS n s' (S ++ T))) ∧ CsOk cs := by
  have hn : n < S.length := (List.getElem?_eq_some_iff.mp h).1
  have e : bS n s S = S := by
    unfold bS
    exact List.ext_getElem? fun i => by
      by_cases c : n = i
      · subst c; rw [List.getElem?_set_self hn]; exact h.symm
      · rw [List.getElem?_set_ne c]
  have := chs_ok k n s S hn
  rw [e] at this
  exact this
def lfD (q : Pl) : D := .tup [.int q.1, .int q.2.1, .int q.2.2]
structure LSt (n : Nat) (rd cd : Nat → List D) (lf : List Pl) (S : Sto) : Prop where
  bag : ∃ s : Bs, S[0]? = some s.ob
  row : ∀ i, i < n → S[1 + i]? = some (.lst (rd i))
  clk : ∀ i, i < n → S[n + 1 + i]? = some (.lst (cd i))
  lf : S[2 * n + 1]? = some (.lst (lf.map lfD))
def upF (f : Nat → List D) (p : Nat) (x : List D) : Nat → List D := fun i => if i = p then x else f i
section
variable {n : Nat} {rd cd : Nat → List D} {lf : List Pl} {S : Sto}
theorem LSt.lo (h : LSt n rd cd lf S) : 2 * n + 2 ≤ S.length := (List.getElem?_eq_some_iff.mp h.lf).1
theorem LSt.app (h : LSt n rd cd lf S) (T : Sto) : LSt n rd cd lf (S ++ T) :=
  ⟨h.bag.imp fun s z => gt_of z T, fun i hi => gt_of (h.row i hi) T, fun i hi => gt_of (h.clk i hi) T, gt_of h.lf T⟩
theorem LSt.setBag (h : LSt n rd cd lf S) (s : Bs) : LSt n rd cd lf (bS 0 s S) := by
  have := h.lo
  unfold bS
  exact ⟨⟨s, List.getElem?_set_self (by omega)⟩, fun i hi => by rw [List.getElem?_set_ne (by omega)]; exact h.row i hi, fun i hi => by rw [List.getElem?_set_ne (by omega)]; exact h.clk i hi, by rw [List.getElem?_set_ne (by omega)]; exact h.lf⟩
theorem LSt.setHi (h : LSt n rd cd lf S) {r : Nat} (hr : 2 * n + 2 ≤ r) (o : Ob) : LSt n rd cd lf (S.set r o) :=
  ⟨h.bag.imp fun s z => by rw [List.getElem?_set_ne (by omega)]; exact z, fun i hi => by rw [List.getElem?_set_ne (by omega)]; exact h.row i hi, fun i hi => by rw [List.getElem?_set_ne (by omega)]; exact h.clk i hi, by rw [List.getElem?_set_ne (by omega)]; exact h.lf⟩
theorem LSt.setLf (h : LSt n rd cd lf S) (lf' : List Pl) : LSt n rd cd lf' (S.set (2 * n + 1) (.lst (lf'.map lfD))) :=
  ⟨h.bag.imp fun s z => by rw [List.getElem?_set_ne (by omega)]; exact z, fun i hi => by rw [List.getElem?_set_ne (by omega)]; exact h.row i hi, fun i hi => by rw [List.getElem?_set_ne (by omega)]; exact h.clk i hi, List.getElem?_set_self (List.getElem?_eq_some_iff.mp h.lf).1⟩
theorem LSt.setRow (h : LSt n rd cd lf S) {p : Nat} (hp : p < n) (x : List D) : LSt n (upF rd p x) cd lf (S.set (1 + p) (.lst x)) := by
  have := h.lo
  refine ⟨h.bag.imp fun s z => by rw [List.getElem?_set_ne (by omega)]; exact z, fun i hi => ?_, fun i hi => by rw [List.getElem?_set_ne (by omega)]; exact h.clk i hi, by rw [List.getElem?_set_ne (by omega)]; exact h.lf⟩
  unfold upF
  by_cases c : i = p
  · subst c
    rw [if_pos rfl, List.getElem?_set_self (by omega)]
  · rw [if_neg c, List.getElem?_set_ne (by omega)]; exact h.row i hi
theorem LSt.setClk (h : LSt n rd cd lf S) {p : Nat} (hp : p < n) (x : List D) : LSt n rd (upF cd p x) lf (S.set (n + 1 + p) (.lst x)) := by
  have := h.lo
  refine ⟨h.bag.imp fun s z => by rw [List.getElem?_set_ne (by omega)]; exact z, fun i hi => by rw [List.getElem?_set_ne (by omega)]; exact h.row i hi, fun i hi => ?_, by rw [List.getElem?_set_ne (by omega)]; exact h.lf⟩
  unfold upF
  by_cases c : i = p
  · subst c
    rw [if_pos rfl, List.getElem?_set_self (by omega)]
  · rw [if_neg c, List.getElem?_set_ne (by omega)]; exact h.clk i hi
end
/-- the clocks, with one more -/
def upK (K : Clk) (p m : Nat) (v : List Nat) : Clk := fun q i => if q = p ∧ i = m then v else K q i
theorem upK_ckL {K : Clk} {p m : Nat} {v : List Nat} (q j : Nat) (h : q = p → j ≤ m) : ckL (upK K p m v) q j = ckL K q j := by
  unfold ckL
  refine List.map_congr_left fun i hi => ?_
  have := List.mem_range.mp hi
  unfold upK
  rw [if_neg (fun z => by have := h z.1; omega)]
def rdF (rows : Rn) : Nat → List D := fun i => (rows.getD i []).map Ev.d
def cdF (rows : Rn) (K : Clk) : Nat → List D := fun i => ckL K i (lens rows i + 1)
theorem rdF_add {rows : Rn} {p : Nat} (hp : p < rows.length) (e : Ev) : upF (rdF rows) p ((rows.getD p []).map Ev.d ++ [e.d]) = rdF (addE rows p e) := funext fun i => by
  unfold upF rdF
  rw [getD_add hp]
  split
  · rw [List.map_append]; rfl
  · rfl
theorem cdF_add {rows : Rn} {K : Clk} {p : Nat} (hp : p < rows.length) (e : Ev) (v : List Nat) : upF (cdF rows K) p (ckL K p (lens rows p + 1) ++ [tupN v]) = cdF (addE rows p e) (upK K p (lens rows p + 1) v) := funext fun i => by
  unfold upF cdF
  rw [lens_add hp]
  by_cases c : i = p
  · subst c
    rw [if_pos rfl, bump_same, ckL_succ (upK K i (lens rows i + 1) v), upK_ckL i _ (fun _ => Nat.le_refl _)]
    congr 2
    unfold upK
    rw [if_pos ⟨rfl, rfl⟩]
  · rw [if_neg c, bump_ne c, upK_ckL i _ (fun z => absurd z c)]
/-! letters of large runs -/
def LR (rows : Rn) (j : Nat) : Prop := ∀ l ∈ sends rows, (1 ≤ l ∧ l ≤ (j : Int)) ∨ (999 - (j : Int) < l ∧ l ≤ 999)
section
variable {rows : Rn} {lf : List Pl} {L m M : Nat} {p : Nat} {cs : List Ch}
theorem MP.sendB (h : MP rows lf L m M) (hp : p < rows.length) (hM : lens rows p < M) (hc : CsOk cs) {x : Int} (fresh : x ∉ sends rows) (x1 : 1 ≤ x) (x2 : x ≤ (L : Int)) (hL : L ≤ 999) : MP (addE rows p (.send x cs)) (lf ++ [(x, p, lens rows p + 1)]) L (m + 1) M := by
  have s1 : (sends (addE rows p (.send x cs))).Perm (x :: sends rows) := sends_add (e := .send x cs) hp
  have t1 : (takes (addE rows p (.send x cs))).Perm (takes rows) := takes_add (e := .send x cs) hp
  have flt : ∀ q ∈ lf, q.1 ∈ sends rows := fun q hq => by
    obtain ⟨i, cs', _, h2⟩ := h.fs q hq
    exact mem_sends.mpr ⟨_, _, _, h2⟩
  refine ⟨h.okAdd hp hM ⟨⟨⟨hc.1, hc.2.2⟩, fun l' z => ?_⟩, hc⟩, s1.nodup_iff.mpr (List.nodup_cons.mpr ⟨fresh, h.sn⟩), fun y hy => ?_, fun q hq => ?_, ?_, fun q hq z => ?_, t1.nodup_iff.mpr h.tn, reach_add hp h.re (fun l cs z => by cases z), by have := h.lm; omega, by rw [List.length_append, List.length_singleton]; have := h.fll; omega⟩
  · rcases z with ⟨_, z⟩ | ⟨_, z⟩ <;> cases z
    omega
  · rcases List.mem_cons.mp (s1.mem_iff.mp hy) with rfl | hy
    · exact ⟨x1, x2⟩
    · exact h.rg y hy
  · rcases List.mem_append.mp hq with hq | hq
    · exact h.fsAdd hp q hq
    · rw [List.mem_singleton.mp hq]
      exact ⟨lens rows p, cs, rfl, evAt_new hp⟩
  · rw [List.map_append, List.nodup_append]
    refine ⟨h.fn, by simp, fun a ha b hb e => ?_⟩
    obtain ⟨q, hq, rfl⟩ := List.mem_map.mp ha
    have hb : b = x := List.mem_singleton.mp hb
    rw [hb] at e
    exact fresh (by rw [← e]; exact flt q hq)
  · have z := t1.mem_iff.mp z
    rcases List.mem_append.mp hq with hq | hq
    · exact h.ft q hq z
    · rw [List.mem_singleton.mp hq] at z
      exact fresh (h.tks z)
theorem LR.up (h : LR rows m) {m' : Nat} (hm : m ≤ m') : LR rows m' := fun l hl => by
  rcases h l hl with z | z
  · exact .inl ⟨z.1, by omega⟩
  · exact .inr ⟨by omega, z.2⟩
theorem LR.same (h : LR rows m) (hp : p < rows.length) {e : Ev} (he : sendsR [e] = []) : LR (addE rows p e) (m + 1) := fun l hl => by
  have s1 := sends_add (e := e) hp
  rw [he] at s1
  exact h.up (Nat.le_succ m) l (s1.mem_iff.mp hl)
theorem LR.new (h : LR rows m) (hp : p < rows.length) {x : Int} (hx : x = (m : Int) + 1 ∨ x = 999 - (m : Int)) (hm : m ≤ 400) : LR (addE rows p (.send x cs)) (m + 1) := fun l hl => by
  have s1 : (sends (addE rows p (.send x cs))).Perm (x :: sends rows) := sends_add (e := .send x cs) hp
  rcases List.mem_cons.mp (s1.mem_iff.mp hl) with rfl | hl
  · rcases hx with rfl | rfl
    · exact .inl ⟨by omega, by omega⟩
    · exact .inr ⟨by omega, by omega⟩
  · exact h.up (Nat.le_succ m) l hl
theorem LR.fresh (h : LR rows m) {x : Int} (hx : x = (m : Int) + 1 ∨ x = 999 - (m : Int)) (hm : m ≤ 400) : x ∉ sends rows := fun z => by
  have := h x z
  omega
end
theorem joinC_get (a b : List Nat) (n : Nat) (ha : a.length = n) (hb : b.length = n) : (joinC a b).map (fun x : Nat => D.int x) = (List.range n).map fun i => D.int ((max (a.getD i 0) (b.getD i 0) : Nat) : Int) := by
  refine List.ext_getElem? fun i => ?_
  rw [List.getElem?_map, List.getElem?_map]
  by_cases h : i < n
  · rw [List.getElem?_range h]
    show _ = some (D.int ((max (a.getD i 0) (b.getD i 0) : Nat) : Int))
    rw [getD_of (by omega), getD_of (by omega)]
    unfold joinC
    rw [List.getElem?_zipWith, List.getElem?_eq_getElem (by omega), List.getElem?_eq_getElem (by omega)]
    rfl
  · rw [List.getElem?_eq_none (by rw [joinC_len (by omega)]; omega), List.getElem?_eq_none (by simp; omega)]; rfl
theorem MP.up {rows : Rn} {lf : List Pl} {L m m' M : Nat} (h : MP rows lf L m M) (hm : m ≤ m') : MP rows lf L m' M :=
  ⟨h.ok, h.sn, h.rg, h.fs, h.fn, h.ft, h.tn, h.re, by have := h.lm; omega, by have := h.fll; omega⟩
end Lk
namespace Lk
open PyProof.Rows L2 Ip
/-! ### large runs: a turn -/
def lgE (n M : Nat) (v4 v7 v8 v9 v10 v11 v12 v13 v14 v15 : Option D) : Ip.En :=
  [some (.ref 0), some (.int n), some (.int M), some (.lst (refs 1 n)), v4, some (.lst (refs (n + 1) n)), some (.ref (2 * n + 1)), v7, v8, v9, v10, v11, v12, v13, v14, v15]
section
variable {n : Nat} {rows : Rn} {K : Clk} {lf : List Pl} {S : Sto}
theorem lg_tail (k : Nat) {p : Nat} {e : Ev} (hl : rows.length = n) (h : LSt n (rdF (addE rows p e)) (cdF rows K) lf S) (hn : n ≤ 6) {r : Nat} (hl30 : lens rows p ≤ 30) (hp : p < n) (hr : 2 * n + 2 ≤ r) {v : List Nat} (hv : v.length = n) (hS : S[r]? = some (.lst (v.map fun x : Nat => D.int x))) (M : Nat) (v4 v7 v11 v12 v13 v14 v15 : Option D) :
    ∃ S', execs (C k) T0 (tlN 6 l__law_large_1) (lgE n M v4 v7 (some (.int p)) (some (.ref (1 + p))) (some (.ref r)) v11 v12 v13 v14 v15) S =
      some (.nx (lgE n M v4 v7 (some (.int p)) (some (.ref (1 + p))) (some (.ref r)) v11 v12 v13 v14 (some (.ref (n + 1 + p)))) S') ∧ LSt n (rdF (addE rows p e)) (cdF (addE rows p e) (upK K p (lens rows p + 1) (v.set p (lens rows p + 1)))) lf S' := by
  have hpl : p < rows.length := by omega
  -- clock[process] = len(row)
  have rl : (rdF (addE rows p e) p).length = lens rows p + 1 := by
    unfold rdF
    rw [getD_add hpl, if_pos rfl]; simp [lens]
  have l2 : biD .len [.ref (1 + p)] S = some (.int ((lens rows p + 1 : Nat) : Int)) := by rw [lenR (h.row p hp), rl]
  have g2 := getL_eq hS
  have i2 : ixN (v.map fun x : Nat => D.int x).length (p : Int) = some p := by
    unfold ixN
    rw [List.length_map, if_pos (by omega), if_pos (by omega)]
    rfl
  have sm : (v.map fun x : Nat => D.int x).set p (.int ((lens rows p + 1 : Nat) : Int)) = (v.set p (lens rows p + 1)).map fun x : Nat => D.int x := by rw [List.map_set]
  generalize hw : v.set p (lens rows p + 1) = w at sm
  have h2 := h.setHi hr (.lst (w.map fun x : Nat => D.int x))
  have y2 : (S.set r (.lst (w.map fun x : Nat => D.int x)))[r]? = some (.lst (w.map fun x : Nat => D.int x)) := List.getElem?_set_self (List.getElem?_eq_some_iff.mp hS).1
  generalize hS2 : S.set r (.lst (w.map fun x : Nat => D.int x)) = S2 at h2 y2
  have y3 := h2.clk p hp
  have tb : biD .tuple [.ref r] S2 = some (tupN w) := biD_tupR y2
  have t3 := tyM_app y3
  have cl : (cdF rows K p).length = lens rows p + 1 := by unfold cdF; rw [ckL_len]
  have a3 := meD_app (d := tupN w) y3 (by rw [cl, PySem.sizeLine_eq]; omega)
  have ix : ∀ U, ixD U (.lst (refs (n + 1) n)) (.int (p : Int)) = some (.ref (n + 1 + p)) := fun U => by rw [ixD_lst, refs_at (by omega) (by omega)]; rfl
  refine ⟨_, ?_, (cdF_add (K := K) hpl e w) ▸ h2.setClk hp _⟩
  unfold lgE
  generalize hlv : (v.map fun x : Nat => D.int x) = vd at *
  show execs (C k) T0 (.cons _ (.cons _ (.cons _ .nil))) _ _ = _
  simp only [execs, exec, evalE, evalEs, List.getElem?_cons_succ, List.getElem?_cons_zero, bnd_ok, bnS_ok, seqS_nx, l2, okO_some, g2, i2, sm, hS2, ix, asg_n, List.set_cons_succ, List.set_cons_zero, t3, if_true, tb, a3]
  rfl
theorem lg_join (k : Nat) {rd : Nat → List D} {M : Nat} (hl : rows.length = n) (h : LSt n rd (cdF rows K) lf S) (hn : n ≤ 6) (hK : IsClk rows K) {r q j : Nat} (hq : q < n) (hj : j ≤ lens rows q) {v : List Nat} (hv : v.length = n) (hS : S[r]? = some (.lst (v.map fun x : Nat => D.int x))) (v4 v7 v8 v9 v11 v12 v15 : Option D) :
    evalE (C k) T0 k__law_large_2 (lgE n M v4 v7 v8 v9 (some (.ref r)) v11 v12 (some (.int (q : Int))) (some (.int (j : Int))) v15) S = some (.ok (.ref S.length) (S ++ [.lst ((joinC v (K q j)).map fun x : Nat => D.int x)])) := by
  unfold k__law_large_2
  have hr : rngD 0 (n : Int) = some (rg 0 n) := rngD_len (by omega)
  have kl := hK.len q j
  rw [hl] at kl
  have hi : evalI (C k) T0 (.rng1 (.v 1)) (lgE n M v4 v7 v8 v9 (some (.ref r)) v11 v12 (some (.int (q : Int))) (some (.int (j : Int))) v15) S = some (.ok (rg 0 n) S) := by
    unfold lgE
    simp only [evalI, evalE, List.getElem?_cons_succ, List.getElem?_cons_zero, bnd_ok, hr, okO_some]
  rw [lc_no (fun d => match d with
    | .int i => .int ((max (v.getD i.toNat 0) ((K q j).getD i.toNat 0) : Nat) : Int)
    | _ => .non) hi (by rw [rg_len, PySem.sizeLine_eq]; omega) (fun y hy => ?_)]
  · rw [mkL_t, joinC_get v (K q j) n hv kl, rg_map, List.map_map]
    congr 4
    congr 1
    refine List.map_congr_left fun x _ => ?_
    simp
  · rw [rg_map] at hy
    obtain ⟨x, hx, rfl⟩ := List.mem_map.mp hy
    have hx := List.mem_range.mp hx
    rw [show ((0 : Int) + (x : Int)) = (x : Int) by omega]
    have i1 : ixD S (.ref r) (.int (x : Int)) = some (.int (v.getD x 0 : Nat)) := by
      rw [ixD_ref hS, atI_nn, List.getElem?_map, List.getElem?_eq_getElem (by omega), List.getD_eq_getElem?_getD, List.getElem?_eq_getElem (by omega)]; rfl
    have i2 : ixD S (.lst (refs (n + 1) n)) (.int (q : Int)) = some (.ref (n + 1 + q)) := by rw [ixD_lst, refs_at (by omega) (by omega)]; rfl
    have i3 : ixD S (.ref (n + 1 + q)) (.int (j : Int)) = some (tupN (K q j)) := by
      have := h.clk q hq
      unfold cdF at this
      rw [ixD_ref this, atI_nn, ckL_get (by omega)]
    have i4 := tupN_get (v := K q j) (i := x) (by omega) S
    have hm : (if (((K q j).getD x 0 : Nat) : Int) > ((v.getD x 0 : Nat) : Int) then (((K q j).getD x 0 : Nat) : Int) else ((v.getD x 0 : Nat) : Int)) = ((max (v.getD x 0) ((K q j).getD x 0) : Nat) : Int) := by
      split <;> omega
    unfold e__law_large_2 lgE
    simp only [wipeE, List.map_cons, List.map_nil, List.set_cons_succ, List.set_cons_zero, evalE, evalEs, List.getElem?_cons_succ, List.getElem?_cons_zero, bnd_ok, i1, i2, i3, i4, okO_some, biD_max, hm, Int.toNat_natCast]
end
end Lk
namespace Lk
open PyProof.Rows L2 Ip
theorem two_pick {i : Int} (h0 : 0 ≤ i) (h : i < 2) (a b : Int) : ∃ x, (x = a ∨ x = b) ∧ ∀ U, ixD U (.lst [.int a, .int b]) (.int i) = some (.int x) := by
  have : i = 0 ∨ i = 1 := by omega
  rcases this with rfl | rfl
  · exact ⟨a, .inl rfl, fun U => by rw [ixD_lst]; exact atI_z⟩
  · exact ⟨b, .inr rfl, fun U => by rw [ixD_lst]; exact atI_1⟩
section
variable {n : Nat} {rows : Rn} {K : Clk} {lf : List Pl} {S : Sto}
theorem lg_turn (k : Nat) (hn0 : 0 < n) (hn : n ≤ 6) {j : Nat} (hj : j ≤ 200) (hl : rows.length = n) (h : LSt n (rdF rows) (cdF rows K) lf S) (g : MP rows lf 999 (999 + j) 30) (lr : LR rows j) (hK : IsClk rows K) (M : Nat) (v4 v8 v9 v10 v11 v12 v13 v14 v15 : Option D) :
    ∃ (rows' : Rn) (K' : Clk) (lf' : List Pl) (S' : Sto) (c4 c8 c9 c10 c11 c12 c13 c14 c15 : Option D),
      (execs (C (k + 2)) T0 l__law_large_1 (lgE n M v4 (some (.int (j : Int))) v8 v9 v10 v11 v12 v13 v14 v15) S = some (.nx (lgE n M c4 (some (.int (j : Int))) c8 c9 c10 c11 c12 c13 c14 c15) S') ∨
       execs (C (k + 2)) T0 l__law_large_1 (lgE n M v4 (some (.int (j : Int))) v8 v9 v10 v11 v12 v13 v14 v15) S = some (.ct (lgE n M c4 (some (.int (j : Int))) c8 c9 c10 c11 c12 c13 c14 c15) S')) ∧
      rows'.length = n ∧ LSt n (rdF rows') (cdF rows' K') lf' S' ∧ MP rows' lf' 999 (999 + (j + 1)) 30 ∧ LR rows' (j + 1) ∧ IsClk rows' K' := by
  have fll := g.fll
  -- process
  obtain ⟨s0, hs0⟩ := h.bag
  have d1 := draw_at (k + 1) (m := (n : Int)) hs0 (by omega) (by omega)
  have w0 := dr_low (m := (n : Int)) s0 (by omega)
  have w1 := dr_top (m := (n : Int)) s0 (by omega)
  obtain ⟨p, hp⟩ : ∃ p : Nat, dr (n : Int) s0 = p := ⟨(dr (n : Int) s0).toNat, by omega⟩
  have hpn : p < n := by omega
  have hpl : p < rows.length := by omega
  rw [hp] at d1
  have h0 := h.setBag (nx (n : Int) s0)
  generalize bS 0 (nx (n : Int) s0) S = S0 at d1 h0
  have ixr : ∀ U, ixD U (.lst (refs 1 n)) (.int (p : Int)) = some (.ref (1 + p)) := fun U => by rw [ixD_lst, refs_at (by omega) (by omega)]; rfl
  have ixc : ∀ U, ixD U (.lst (refs (n + 1) n)) (.int (p : Int)) = some (.ref (n + 1 + p)) := fun U => by rw [ixD_lst, refs_at (by omega) (by omega)]; rfl
  have rl0 : (rdF rows p).length = lens rows p := by unfold rdF lens; rw [List.length_map]
  have ln0 : biD .len [.ref (1 + p)] S0 = some (.int (lens rows p : Nat)) := by rw [lenR (h0.row p hpn), rl0]
  unfold l__law_large_1
  rw [ex_go (E := lgE n M v4 (some (.int (j : Int))) (some (.int (p : Int))) v9 v10 v11 v12 v13 v14 v15) (U := S0) (by
    unfold lgE
    simp only [exec, evalE, evalEs, List.getElem?_cons_succ, List.getElem?_cons_zero, bnd_ok, callP_f, d1, bnS_ok, asg_n, List.set_cons_succ, List.set_cons_zero])]
  rw [ex_go (E := lgE n M v4 (some (.int (j : Int))) (some (.int (p : Int))) (some (.ref (1 + p))) v10 v11 v12 v13 v14 v15) (U := S0) (by
    unfold lgE
    simp only [exec, evalE, List.getElem?_cons_succ, List.getElem?_cons_zero, bnd_ok, ixr, okO_some, bnS_ok, asg_n, List.set_cons_succ, List.set_cons_zero])]
  by_cases c1 : (30 : Int) ≤ (lens rows p : Nat)
  · refine ⟨rows, K, lf, S0, v4, some (.int (p : Int)), some (.ref (1 + p)), v10, v11, v12, v13, v14, v15, .inr ?_, hl, h0, g.up (by omega), lr.up (by omega), hK⟩
    unfold lgE
    simp only [execs, exec, evalT, evalE, evalEs, List.getElem?_cons_succ, List.getElem?_cons_zero, bnd_ok, ln0, okO_some, Cst.d, cmpD_ge, c1, decide_true, bnS_ok, seqS_ct]
  have hpM : lens rows p < 30 := by omega
  rw [ex_go (E := lgE n M v4 (some (.int (j : Int))) (some (.int (p : Int))) (some (.ref (1 + p))) v10 v11 v12 v13 v14 v15) (U := S0) (by
    unfold lgE
    simp only [execs, exec, evalT, evalE, evalEs, List.getElem?_cons_succ, List.getElem?_cons_zero, bnd_ok, ln0, okO_some, Cst.d, cmpD_ge, c1, decide_false, bnS_ok])]
  -- the clock
  have kv := hK.len p (lens rows p)
  rw [hl] at kv
  have cl : ixD S0 (.ref (n + 1 + p)) (.int (-1)) = some (tupN (K p (lens rows p))) := by
    have := h0.clk p hpn
    unfold cdF at this
    rw [ixD_ref this, ckL_succ]; exact L2.atI_last _ _
  have ls : ∀ U, bfD .list true [tupN (K p (lens rows p))] U = some (.ok (.ref U.length) (U ++ [.lst ((K p (lens rows p)).map fun x : Nat => D.int x)])) := fun U => rfl
  have ng : ∀ U, evalE (C (k + 2)) T0 (.neg (.c (.int 1))) U S0 = some (.ok (.int (-1)) S0) := fun U => rfl
  rw [ex_go (E := lgE n M v4 (some (.int (j : Int))) (some (.int (p : Int))) (some (.ref (1 + p))) (some (.ref S0.length)) v11 v12 v13 v14 v15) (U := S0 ++ [.lst ((K p (lens rows p)).map fun x : Nat => D.int x)]) (by
    unfold lgE
    simp only [exec, evalE, evalEs, List.getElem?_cons_succ, List.getElem?_cons_zero, bnd_ok, ixc, okO_some, Cst.d, cl, ls, bnS_ok, asg_n, List.set_cons_succ, List.set_cons_zero])]
  have h1 := h0.app [.lst ((K p (lens rows p)).map fun x : Nat => D.int x)]
  have r1 : (S0 ++ [Ob.lst ((K p (lens rows p)).map fun x : Nat => D.int x)])[S0.length]? = some (.lst ((K p (lens rows p)).map fun x : Nat => D.int x)) := at_last S0 _
  have hr := h0.lo
  have sl : (S0 ++ [Ob.lst ((K p (lens rows p)).map fun x : Nat => D.int x)]).length = S0.length + 1 := by simp
  generalize S0 ++ [Ob.lst ((K p (lens rows p)).map fun x : Nat => D.int x)] = S1 at h1 r1 sl ⊢
  generalize S0.length = r at *
  -- the kind
  obtain ⟨s1, hs1⟩ := h1.bag
  have d2 := draw_at (k + 1) (m := 5) hs1 (by omega) (by omega)
  obtain ⟨w, hw⟩ : ∃ w, w = dr 5 s1 := ⟨_, rfl⟩
  rw [← hw] at d2
  have h2 := h1.setBag (nx 5 s1)
  have r2 : (bS 0 (nx 5 s1) S1)[r]? = some (.lst ((K p (lens rows p)).map fun x : Nat => D.int x)) := by rw [bS_ne (by omega)]; exact r1
  have sl2 : (bS 0 (nx 5 s1) S1).length = r + 1 := by rw [bS_len]; exact sl
  generalize bS 0 (nx 5 s1) S1 = S2 at d2 h2 r2 sl2
  rw [ex_go (E := lgE n M v4 (some (.int (j : Int))) (some (.int (p : Int))) (some (.ref (1 + p))) (some (.ref r)) (some (.int w)) v12 v13 v14 v15) (U := S2) (by
    unfold lgE
    simp only [exec, evalE, evalEs, List.getElem?_cons_succ, List.getElem?_cons_zero, bnd_ok, Cst.d, callP_f, d2, bnS_ok, asg_n, List.set_cons_succ, List.set_cons_zero])]
  have ll : biD .len [.ref (2 * n + 1)] S2 = some (.int (lf.length : Nat)) := by rw [lenR h2.lf, List.length_map]
  have rdl : (rdF rows p).length < PySem.sizeLine := by rw [rl0, PySem.sizeLine_eq]; omega
  by_cases c3 : w < 2 ∧ 0 < lf.length
  · -- a take
    obtain ⟨c3, c4⟩ := c3
    have c4' : ((0 : Int) < lf.length) := by omega
    obtain ⟨s2, hs2⟩ := h2.bag
    have d3 := draw_at (k + 1) (m := (lf.length : Int)) hs2 (by omega) (by omega)
    have q0 := dr_low (m := (lf.length : Int)) s2 (by omega)
    have q1 := dr_top (m := (lf.length : Int)) s2 (by omega)
    obtain ⟨q, hq⟩ : ∃ q : Nat, dr (lf.length : Int) s2 = q := ⟨(dr (lf.length : Int) s2).toNat, by omega⟩
    have hql : q < lf.length := by omega
    rw [hq] at d3
    have h3 := h2.setBag (nx (lf.length : Int) s2)
    have r3 : (bS 0 (nx (lf.length : Int) s2) S2)[r]? = some (.lst ((K p (lens rows p)).map fun x : Nat => D.int x)) := by rw [bS_ne (by omega)]; exact r2
    have sl3 : (bS 0 (nx (lf.length : Int) s2) S2).length = r + 1 := by rw [bS_len]; exact sl2
    generalize bS 0 (nx (lf.length : Int) s2) S2 = S3 at d3 h3 r3 sl3
    have tp := tyM_pop h3.lf
    have po := meD_pop (i := (q : Int)) (y := lfD lf[q]) h3.lf (by omega) (by rw [List.length_map]; omega) (by rw [Int.toNat_natCast, List.getElem?_map, List.getElem?_eq_getElem hql]; rfl) (by rw [List.length_map]; omega)
    rw [Int.toNat_natCast, erase_map] at po
    have h4 := h3.setLf (lf.eraseIdx q)
    have r4 : (S3.set (2 * n + 1) (.lst ((lf.eraseIdx q).map lfD)))[r]? = some (.lst ((K p (lens rows p)).map fun x : Nat => D.int x)) := by rw [List.getElem?_set_ne (by omega)]; exact r3
    have sl4 : (S3.set (2 * n + 1) (.lst ((lf.eraseIdx q).map lfD))).length = r + 1 := by rw [List.length_set]; exact sl3
    have tp2 := tyM_pop h2.lf
    generalize S3.set (2 * n + 1) (.lst ((lf.eraseIdx q).map lfD)) = S4 at po h4 r4 sl4
    obtain ⟨i, cs', hi, hs⟩ := g.fs _ (List.getElem_mem hql)
    have taken := fun {cs : List Ch} (hc : CsOk cs) => g.takeA hpl hpM hc (by omega) hql
    generalize hlq : lf[q] = lq at po hi hs taken
    obtain ⟨l, q', j'⟩ := lq
    simp only at hi hs
    subst hi
    have hq' : q' < n := by have := ev_lt hs; omega
    have jc := lg_join (M := M) (k + 2) hl h4 hn hK hq' (show i + 1 ≤ lens rows q' from evAt_lt hs) kv r4 v4 (some (.int (j : Int))) (some (.int (p : Int))) (some (.ref (1 + p))) (some (.int w)) (some (.int l)) v15
    have h5 := h4.app [.lst ((joinC (K p (lens rows p)) (K q' (i + 1))).map fun x : Nat => D.int x)]
    have r5 : (S4 ++ [Ob.lst ((joinC (K p (lens rows p)) (K q' (i + 1))).map fun x : Nat => D.int x)])[S4.length]? = some (.lst ((joinC (K p (lens rows p)) (K q' (i + 1))).map fun x : Nat => D.int x)) := at_last S4 _
    have kj : (joinC (K p (lens rows p)) (K q' (i + 1))).length = n := by rw [joinC_len (by rw [hK.len, hK.len])]; exact kv
    generalize S4 ++ [Ob.lst ((joinC (K p (lens rows p)) (K q' (i + 1))).map fun x : Nat => D.int x)] = S5 at jc h5 r5
    rw [sl4] at jc r5
    obtain ⟨s5, hs5⟩ := h5.bag
    obtain ⟨cs, s6, T, ec, hc⟩ := chs_at k hs5
    have h6 := (h5.app T).setBag s6
    have r6 : (bS 0 s6 (S5 ++ T))[r + 1]? = some (.lst ((joinC (K p (lens rows p)) (K q' (i + 1))).map fun x : Nat => D.int x)) := by rw [bS_ne (by omega)]; exact gt_of r5 T
    generalize bS 0 s6 (S5 ++ T) = S6 at ec h6 r6
    have ty := tyM_app (h5.row p hpn)
    have ap := meD_app (d := (Ev.take l cs).d) (h6.row p hpn) rdl
    have h7 := h6.setRow hpn (rdF rows p ++ [(Ev.take l cs).d])
    rw [show upF (rdF rows) p (rdF rows p ++ [(Ev.take l cs).d]) = rdF (addE rows p (.take l cs)) from rdF_add hpl _] at h7
    have r7 : (S6.set (1 + p) (.lst (rdF rows p ++ [(Ev.take l cs).d])))[r + 1]? = some (.lst ((joinC (K p (lens rows p)) (K q' (i + 1))).map fun x : Nat => D.int x)) := by rw [List.getElem?_set_ne (by omega)]; exact r6
    generalize S6.set (1 + p) (.lst (rdF rows p ++ [(Ev.take l cs).d])) = S7 at ap h7 r7
    rw [ex_go (E := lgE n M v4 (some (.int (j : Int))) (some (.int (p : Int))) (some (.ref (1 + p))) (some (.ref (r + 1))) (some (.int w)) (some (.int l)) (some (.int (q' : Int))) (some (.int ((i + 1 : Nat) : Int))) v15) (U := S7) (by
      have as : asgT (.t (.cons (.n 12) (.cons (.n 13) (.cons (.n 14) .nil)))) (lfD (l, q', i + 1)) (lgE n M v4 (some (.int (j : Int))) (some (.int (p : Int))) (some (.ref (1 + p))) (some (.ref r)) (some (.int w)) v12 v13 v14 v15) =
        some (lgE n M v4 (some (.int (j : Int))) (some (.int (p : Int))) (some (.ref (1 + p))) (some (.ref r)) (some (.int w)) (some (.int l)) (some (.int (q' : Int))) (some (.int ((i + 1 : Nat) : Int))) v15) := rfl
      have ap : meD .append (.ref (1 + p)) [.tup [.str "take", .int l, csD cs]] S6 = _ := ap
      have ty : tyM .append (.ref (1 + p)) S5 = true := ty
      unfold lgE at as jc ⊢
      simp only [execs, exec, evalT, evalE, evalEs, List.getElem?_cons_succ, List.getElem?_cons_zero, bnd_ok, cmpD_lt, cmpD_gt, Cst.d, c3, c4', decide_true, okO_some, bnS_ok, ll, callP_f, d3, tp2, tp, po, if_true, as, seqS_nx, jc, asg_n, List.set_cons_succ, List.set_cons_zero, List.length_cons, List.length_nil, le3, ec, ty, ap])]
    obtain ⟨S', e, hS⟩ := lg_tail (k + 2) hl h7 hn (by omega) hpn (show 2 * n + 2 ≤ r + 1 by omega) kj r7 M v4 (some (.int (j : Int))) (some (.int w)) (some (.int l)) (some (.int (q' : Int))) (some (.int ((i + 1 : Nat) : Int))) v15
    have g' := taken hc
    refine ⟨_, _, _, S', _, _, _, _, _, _, _, _, _, .inl e, by rw [addE_len]; exact hl, hS, g', lr.same hpl rfl, hK.addE hpl g.re g'.lo (fun l' cs2 z => ?_) (by rw [List.length_set, kj, hl]) (fun z => absurd rfl (z l cs)) (fun l' cs2 q2 j2 cs3 z hs2 => ?_)⟩
    · cases z
      exact mem_sends.mpr ⟨_, _, _, hs⟩
    · cases z
      obtain ⟨rfl, rfl⟩ := send_uniq g.lo hs hs2
      rfl
  · by_cases c2 : w < 4
    · -- a send
      obtain ⟨s2, hs2⟩ := h2.bag
      have d3 := draw_at (k + 1) (m := 2) hs2 (by omega) (by omega)
      obtain ⟨x, hx, px⟩ := two_pick (dr_low (m := 2) s2 (by omega)) (dr_top (m := 2) s2 (by omega)) ((j : Int) + 1) (999 - (j : Int))
      generalize dr 2 s2 = z2 at d3 px
      have h3 := h2.setBag (nx 2 s2)
      have r3 : (bS 0 (nx 2 s2) S2)[r]? = some (.lst ((K p (lens rows p)).map fun x : Nat => D.int x)) := by rw [bS_ne (by omega)]; exact r2
      generalize bS 0 (nx 2 s2) S2 = S3 at d3 h3 r3
      obtain ⟨s3, hs3⟩ := h3.bag
      obtain ⟨cs, s4, T, ec, hc⟩ := chs_at k hs3
      have h4 := (h3.app T).setBag s4
      have r4 : (bS 0 s4 (S3 ++ T))[r]? = some (.lst ((K p (lens rows p)).map fun x : Nat => D.int x)) := by rw [bS_ne (by omega)]; exact gt_of r3 T
      generalize bS 0 s4 (S3 ++ T) = S4 at ec h4 r4
      have ty := tyM_app (h2.row p hpn)
      have ap := meD_app (d := (Ev.send x cs).d) (h4.row p hpn) rdl
      have h5 := h4.setRow hpn (rdF rows p ++ [(Ev.send x cs).d])
      have er : upF (rdF rows) p (rdF rows p ++ [(Ev.send x cs).d]) = rdF (addE rows p (.send x cs)) := rdF_add hpl _
      have y5 : (S4.set (1 + p) (.lst (rdF rows p ++ [(Ev.send x cs).d])))[1 + p]? = some (.lst (rdF rows p ++ [(Ev.send x cs).d])) := List.getElem?_set_self (List.getElem?_eq_some_iff.mp (h4.row p hpn)).1
      rw [er] at h5
      have r5 : (S4.set (1 + p) (.lst (rdF rows p ++ [(Ev.send x cs).d])))[r]? = some (.lst ((K p (lens rows p)).map fun x : Nat => D.int x)) := by rw [List.getElem?_set_ne (by omega)]; exact r4
      generalize S4.set (1 + p) (.lst (rdF rows p ++ [(Ev.send x cs).d])) = S5 at ap h5 r5 y5
      have la : ixD S5 (.ref (1 + p)) (.int (-1)) = some (Ev.send x cs).d := by rw [ixD_ref y5]; exact L2.atI_last _ _
      have l1 : ∀ U, ixD U (Ev.send x cs).d (.int 1) = some (.int x) := fun U => rfl
      have ln5 : biD .len [.ref (1 + p)] S5 = some (.int ((lens rows p + 1 : Nat) : Int)) := by rw [lenR y5, List.length_append, rl0]; rfl
      have tf := tyM_app h5.lf
      have af := meD_app (d := lfD (x, p, lens rows p + 1)) h5.lf (by rw [List.length_map, PySem.sizeLine_eq]; omega)
      have em : lf.map lfD ++ [lfD (x, p, lens rows p + 1)] = (lf ++ [(x, p, lens rows p + 1)]).map lfD := by rw [List.map_append]; rfl
      rw [em] at af
      have h6 := h5.setLf (lf ++ [(x, p, lens rows p + 1)])
      have r6 : (S5.set (2 * n + 1) (.lst ((lf ++ [(x, p, lens rows p + 1)]).map lfD)))[r]? = some (.lst ((K p (lens rows p)).map fun x : Nat => D.int x)) := by rw [List.getElem?_set_ne (by omega)]; exact r5
      generalize S5.set (2 * n + 1) (.lst ((lf ++ [(x, p, lens rows p + 1)]).map lfD)) = S6 at af h6 r6
      rw [ex_go (E := lgE n M v4 (some (.int (j : Int))) (some (.int (p : Int))) (some (.ref (1 + p))) (some (.ref r)) (some (.int w)) v12 v13 v14 v15) (U := S6) (by
        have ap : meD .append (.ref (1 + p)) [.tup [.str "send", .int x, csD cs]] S4 = _ := ap
        have af : meD .append (.ref (2 * n + 1)) [.tup [.int x, .int (p : Int), .int ((lens rows p + 1 : Nat) : Int)]] S5 = _ := af
        have aj : ∀ U, binD .add false (.int (j : Int)) (.int 1) U = some (.ok (.int ((j : Int) + 1)) U) := fun U => rfl
        have sj : ∀ U, binD .sub false (.int 999) (.int (j : Int)) U = some (.ok (.int (999 - (j : Int))) U) := fun U => rfl
        generalize (Ev.send x cs).d = ed at la l1
        unfold lgE
        by_cases c5 : w < 2
        · have c6 : ¬ ((0 : Int) < lf.length) := fun z => c3 ⟨c5, by omega⟩
          simp only [execs, exec, evalT, evalE, evalEs, List.getElem?_cons_succ, List.getElem?_cons_zero, bnd_ok, cmpD_lt, cmpD_gt, Cst.d, c2, c5, c6, decide_true, decide_false, okO_some, bnS_ok, ll, seqS_nx, callP_f, aj, sj, List.length_cons, List.length_nil, le2, le3, if_true, mkL_f, d3, px, ec, ty, ap, tf, la, l1, ln5, af]
        · simp only [execs, exec, evalT, evalE, evalEs, List.getElem?_cons_succ, List.getElem?_cons_zero, bnd_ok, cmpD_lt, cmpD_gt, Cst.d, c2, c5, decide_true, decide_false, okO_some, bnS_ok, ll, seqS_nx, callP_f, aj, sj, List.length_cons, List.length_nil, le2, le3, if_true, mkL_f, d3, px, ec, ty, ap, tf, la, l1, ln5, af])]
      obtain ⟨S', e, hS⟩ := lg_tail (k + 2) hl h6 hn (by omega) hpn hr kv r6 M v4 (some (.int (j : Int))) (some (.int w)) v12 v13 v14 v15
      have fr := lr.fresh hx (by omega)
      have g' := g.sendB hpl hpM hc fr (by omega) (by omega) (by omega)
      exact ⟨_, _, _, S', _, _, _, _, _, _, _, _, _, .inl e, by rw [addE_len]; exact hl, hS, g', lr.new hpl hx (by omega), hK.addE hpl g.re g'.lo (fun l cs z => nomatch z) (by rw [List.length_set, kv, hl]) (fun _ => rfl) (fun _ _ _ _ _ z => nomatch z)⟩
    · -- a step
      have c5 : ¬ w < 2 := by omega
      obtain ⟨s2, hs2⟩ := h2.bag
      obtain ⟨cs, s4, T, ec, hc⟩ := chs_at k hs2
      have h4 := (h2.app T).setBag s4
      have r4 : (bS 0 s4 (S2 ++ T))[r]? = some (.lst ((K p (lens rows p)).map fun x : Nat => D.int x)) := by rw [bS_ne (by omega)]; exact gt_of r2 T
      generalize bS 0 s4 (S2 ++ T) = S4 at ec h4 r4
      have ty := tyM_app (h2.row p hpn)
      have ap := meD_app (d := (Ev.step cs).d) (h4.row p hpn) rdl
      have h5 := h4.setRow hpn (rdF rows p ++ [(Ev.step cs).d])
      have er : upF (rdF rows) p (rdF rows p ++ [(Ev.step cs).d]) = rdF (addE rows p (.step cs)) := rdF_add hpl _
      rw [er] at h5
      have r5 : (S4.set (1 + p) (.lst (rdF rows p ++ [(Ev.step cs).d])))[r]? = some (.lst ((K p (lens rows p)).map fun x : Nat => D.int x)) := by rw [List.getElem?_set_ne (by omega)]; exact r4
      generalize S4.set (1 + p) (.lst (rdF rows p ++ [(Ev.step cs).d])) = S5 at ap h5 r5
      rw [ex_go (E := lgE n M v4 (some (.int (j : Int))) (some (.int (p : Int))) (some (.ref (1 + p))) (some (.ref r)) (some (.int w)) v12 v13 v14 v15) (U := S5) (by
        have ap : meD .append (.ref (1 + p)) [.tup [.str "step", csD cs]] S4 = _ := ap
        unfold lgE
        simp only [execs, exec, evalT, evalE, evalEs, List.getElem?_cons_succ, List.getElem?_cons_zero, bnd_ok, cmpD_lt, cmpD_gt, Cst.d, c2, c5, decide_true, decide_false, okO_some, bnS_ok, seqS_nx, callP_f, List.length_cons, List.length_nil, le2, if_true, ec, ty, ap])]
      obtain ⟨S', e, hS⟩ := lg_tail (k + 2) hl h5 hn (by omega) hpn hr kv r5 M v4 (some (.int (j : Int))) (some (.int w)) v12 v13 v14 v15
      have g' := g.stepA hpl hpM hc
      exact ⟨_, _, _, S', _, _, _, _, _, _, _, _, _, .inl e, by rw [addE_len]; exact hl, hS, g', lr.same hpl rfl, hK.addE hpl g.re g'.lo (fun l cs z => nomatch z) (by rw [List.length_set, kv, hl]) (fun _ => rfl) (fun _ _ _ _ _ z => nomatch z)⟩
end
end Lk
namespace Lk
open PyProof.Rows L2 Ip
/-! ### large runs: the whole -/
section
variable {n : Nat}
theorem lg_loop (k : Nat) (hn0 : 0 < n) (hn : n ≤ 6) (M : Nat) : ∀ (m j : Nat) (rows : Rn) (K : Clk) (lf : List Pl) (S : Sto) (v4 v7 v8 v9 v10 v11 v12 v13 v14 v15 : Option D), j + m ≤ 200 → rows.length = n → LSt n (rdF rows) (cdF rows K) lf S → MP rows lf 999 (999 + j) 30 → LR rows j → IsClk rows K →
    ∃ (rows' : Rn) (K' : Clk) (j' : Nat) (lf' : List Pl) (S' : Sto) (c4 c7 c8 c9 c10 c11 c12 c13 c14 c15 : Option D),
      forL (.n 7) (fun e S => execs (C (k + 2)) T0 l__law_large_1 e S) (rg (j : Int) m) (lgE n M v4 v7 v8 v9 v10 v11 v12 v13 v14 v15) S = some (.nx (lgE n M c4 c7 c8 c9 c10 c11 c12 c13 c14 c15) S') ∧
      rows'.length = n ∧ LSt n (rdF rows') (cdF rows' K') lf' S' ∧ MP rows' lf' 999 (999 + j') 30 ∧ IsClk rows' K'
  | 0, j, rows, K, lf, S, v4, v7, v8, v9, v10, v11, v12, v13, v14, v15, hj, hl, h, g, lr, hK => ⟨rows, K, j, lf, S, v4, v7, v8, v9, v10, v11, v12, v13, v14, v15, rfl, hl, h, g, hK⟩
  | m + 1, j, rows, K, lf, S, v4, v7, v8, v9, v10, v11, v12, v13, v14, v15, hj, hl, h, g, lr, hK => by
    obtain ⟨r1, K1, lf1, S1, b4, b8, b9, b10, b11, b12, b13, b14, b15, e, l1, h1, g1, lr1, k1⟩ := lg_turn k hn0 hn (show j ≤ 200 by omega) hl h g lr hK M v4 v8 v9 v10 v11 v12 v13 v14 v15
    obtain ⟨r2, K2, j2, lf2, S2, c4, c7, c8, c9, c10, c11, c12, c13, c14, c15, e2, l2, h2, g2, k2⟩ := lg_loop k hn0 hn M m (j + 1) r1 K1 lf1 S1 b4 (some (.int (j : Int))) b8 b9 b10 b11 b12 b13 b14 b15 (by omega) l1 h1 g1 lr1 k1
    refine ⟨r2, K2, j2, lf2, S2, c4, c7, c8, c9, c10, c11, c12, c13, c14, c15, ?_, l2, h2, g2, k2⟩
    have as : asgT (.n 7) (.int (j : Int)) (lgE n M v4 v7 v8 v9 v10 v11 v12 v13 v14 v15) = some (lgE n M v4 (some (.int (j : Int))) v8 v9 v10 v11 v12 v13 v14 v15) := rfl
    rw [rg]
    rw [show ((j + 1 : Nat) : Int) = (j : Int) + 1 by omega] at e2
    rcases e with e | e
    · simp only [forL, as, e]; exact e2
    · simp only [forL, as, e]; exact e2
end
theorem map_refsB (b j : Nat) (g : Nat → List D) (hg : ∀ p, pures (g p) = true) : ∀ (ps : List Nat) (S : Sto), ps.Nodup → (∀ p ∈ ps, S[b + p]? = some (.lst (g p))) →
    ∃ S', mapF (frz (j + 2)) (ps.map fun p => D.ref (b + p)) S = some (ps.map fun p => .lst (g p), S') ∧ ∀ i, (∀ p ∈ ps, i ≠ b + p) → S'[i]? = S[i]?
  | [], S, _, _ => ⟨S, rfl, fun _ _ => rfl⟩
  | p :: ps, S, nd, h => by
    rw [List.nodup_cons] at nd
    have h1 := h p (List.mem_cons_self ..)
    obtain ⟨S', e, h0⟩ := map_refsB b j g hg ps (S.set (b + p) .dead) nd.2 (fun q hq => by
      have : b + p ≠ b + q := fun z => nd.1 (by
        have : p = q := by omega
        rw [this]; exact hq)
      rw [List.getElem?_set_ne this]
      exact h q (List.mem_cons_of_mem _ hq))
    refine ⟨S', ?_, fun i hi => ?_⟩
    · have e1 : frz (j + 2) (.ref (b + p)) S = some (.lst (g p), S.set (b + p) .dead) := by
        rw [frz]
        simp only [h1, mapF_pure j S (g p) (hg p)]
      rw [List.map_cons, mapF, e1]
      simp only
      rw [e]
      rfl
    · rw [h0 i (fun q hq => hi q (List.mem_cons_of_mem _ hq)), List.getElem?_set_ne (fun z => hi p (List.mem_cons_self ..) z.symm)]
theorem refs_npure {b n : Nat} (h : 0 < n) : pures (refs b n) = false := by
  cases n with
  | zero => omega
  | succ n => unfold refs; rw [List.range_succ_eq_map, List.map_cons, pures]; rfl
theorem frz_refs (b j n : Nat) (hn : 0 < n) (g : Nat → List D) (hg : ∀ p, pures (g p) = true) (S : Sto) (h : ∀ p, p < n → S[b + p]? = some (.lst (g p))) :
    ∃ S', frz (j + 3) (.lst (refs b n)) S = some (.lst ((List.range n).map fun p => .lst (g p)), S') ∧ ∀ i, (∀ p, p < n → i ≠ b + p) → S'[i]? = S[i]? := by
  obtain ⟨S', e, h0⟩ := map_refsB b j g hg (List.range n) S List.nodup_range (fun p hp => h p (List.mem_range.mp hp))
  refine ⟨S', ?_, fun i hi => h0 i fun p hp => hi p (List.mem_range.mp hp)⟩
  rw [frz, refs_npure hn]
  unfold refs
  rw [if_neg (by decide), e]
theorem refs_succ (b n : Nat) : refs b (n + 1) = .ref b :: refs (b + 1) n := by
  unfold refs
  rw [List.range_succ_eq_map, List.map_cons, List.map_map]
  congr 1
  refine List.map_congr_left fun i _ => ?_
  simp only [Function.comp]
  congr 1
  omega
/-- new lists, one after another -/
theorem mk_new (k : Nat) (x : Ex) (env : Ip.En) (o : Ob) (hx : ∀ (j : Int) (S : Sto), evalE (C k) T0 x ((wipeE env [4]).set 4 (some (.int j))) S = some (.ok (.ref S.length) (S ++ [o]))) : ∀ (c : Nat) (j : Int) (S : Sto) (acc : List D),
    lcLoop (fun y S => match asgT (.n 4) y (wipeE env [4]) with
      | some env1 => bnd (evalC (C k) T0 .no env1 S) fun b S2 => match b with
        | true => bnd (evalE (C k) T0 x env1 S2) fun y S3 => some (.ok (some y) S3)
        | false => some (.ok none S2)
      | none => none) (rg j c) S acc = some (.ok (acc ++ refs S.length c) (S ++ List.replicate c o))
  | 0, j, S, acc => by simp [rg, lcLoop, refs]
  | c + 1, j, S, acc => by
    have ih := mk_new k x env o hx c (j + 1) (S ++ [o]) (acc ++ [.ref S.length])
    rw [rg]
    simp only [lcLoop, asg_n, evalC, bnd_ok, hx]
    refine ih.trans ?_
    rw [refs_succ, List.length_append, List.append_assoc, List.append_assoc]
    rfl
theorem large_ok (k : Nat) {n M : Nat} (hn0 : 0 < n) (hn : n ≤ 6) (hM : M ≤ 120) (s : Bs) :
    ∃ rows K S', C (k + 3) i__law_large [.ref 0, .int n, .int M] [s.ob] = some (.ok (.tup [rnD rows, ckD rows K]) S') ∧ rows.length = n ∧ Rnn rows ∧ IsClk rows K := by
  have hr : rngD 0 (n : Int) = some (rg 0 n) := rngD_len (by omega)
  have hrM : rngD 0 (M : Int) = some (rg 0 M) := rngD_len (by omega)
  have zt : ∀ S, binD .mul false (.lst [.int 0]) (.int (n : Int)) S = some (.ok (.lst (List.replicate n (.int 0))) S) := zeros_mulL (by omega) (.int 0)
  have zr : (List.replicate n (D.int 0)) = (List.replicate n (0 : Nat)).map fun x : Nat => D.int x := by rw [List.map_replicate]; rfl
  rw [zr] at zt
  -- rows and clocks
  have n1 := mk_new (k + 2) e__law_large_4 [some (.ref 0), some (.int n), some (.int M), none, none, none, none, none, none, none, none, none, none, none, none, none] (.lst []) (fun j S => by simp [e__law_large_4]) n 0 [s.ob] []
  have n2 := mk_new (k + 2) e__law_large_3 [some (.ref 0), some (.int n), some (.int M), some (.lst (refs 1 n)), none, none, none, none, none, none, none, none, none, none, none, none] (.lst [tupN (List.replicate n 0)]) (fun j S => by
    unfold e__law_large_3
    simp only [wipeE, List.set_cons_succ, List.set_cons_zero, evalE, evalEs, List.getElem?_cons_succ, List.getElem?_cons_zero, bnd_ok, Cst.d, List.length_cons, List.length_nil, (show (0 + 1 ≤ PySem.sizeLine) by rw [PySem.sizeLine_eq]; decide), if_true, mkL_f, zt, biD_tupL, okO_some, mkL_t]
    rfl) n 0 ([s.ob] ++ List.replicate n (.lst [])) []
  have l1 : ([s.ob] : Sto).length = 1 := rfl
  have l2 : ([s.ob] ++ List.replicate n (Ob.lst []) : Sto).length = n + 1 := by rw [List.length_append, List.length_replicate, l1]; omega
  rw [List.nil_append, l1] at n1
  rw [List.nil_append, l2] at n2
  have gr : ∀ i, (List.replicate n ([] : List Ev)).getD i [] = [] := fun i => by
    rw [List.getD_eq_getElem?_getD, List.getElem?_replicate]
    split <;> rfl
  have lz : lens (List.replicate n ([] : List Ev)) = fun _ => 0 := funext fun q => by unfold lens; rw [gr]; rfl
  have inv : LSt n (rdF (List.replicate n [])) (cdF (List.replicate n []) (fun _ _ => List.replicate n 0)) [] ([s.ob] ++ List.replicate n (Ob.lst []) ++ List.replicate n (Ob.lst [tupN (List.replicate n 0)]) ++ [.lst []]) := by
    refine ⟨⟨s, rfl⟩, fun i hi => ?_, fun i hi => ?_, ?_⟩
    · refine gt_of (gt_of ?_ _) _
      rw [List.getElem?_append_right (by rw [l1]; omega), l1, show 1 + i - 1 = i by omega, List.getElem?_replicate, if_pos hi]
      unfold rdF
      rw [gr]; rfl
    · refine gt_of ?_ _
      rw [List.getElem?_append_right (by rw [l2]; omega), l2, show n + 1 + i - (n + 1) = i by omega, List.getElem?_replicate, if_pos hi]
      unfold cdF
      rw [lz]; rfl
    · rw [List.getElem?_append_right (by rw [List.length_append, l2, List.length_replicate]; omega), List.length_append, l2, List.length_replicate, show 2 * n + 1 - (n + 1 + n) = 0 by omega]; rfl
  have s0 : sends (List.replicate n []) = [] := by
    unfold sends
    rw [List.flatMap_eq_nil_iff]
    intro r hr
    rw [List.eq_of_mem_replicate hr]; rfl
  have t0 : takes (List.replicate n []) = [] := by
    unfold takes
    rw [List.flatMap_eq_nil_iff]
    intro r hr
    rw [List.eq_of_mem_replicate hr]; rfl
  have gp : MP (List.replicate n []) [] 999 (999 + 0) 30 := by
    refine ⟨fun r hr => ?_, (by rw [s0]; exact List.nodup_nil), (fun l hl => by rw [s0] at hl; cases hl), (fun l hl => nomatch hl), List.nodup_nil, (fun l hl => nomatch hl), (by rw [t0]; exact List.nodup_nil), ?_, Nat.le_refl _, Nat.zero_le _⟩
    · rw [List.eq_of_mem_replicate hr]
      exact ⟨Nat.zero_le _, fun e he => nomatch he⟩
    · rw [lz]; exact .zero
  have lr : LR (List.replicate n []) 0 := fun l hl => by rw [s0] at hl; cases hl
  have ck : IsClk (List.replicate n []) (fun _ _ => List.replicate n 0) := by
    refine ⟨fun _ _ => by rw [List.length_replicate, List.length_replicate], fun _ => by rw [List.length_replicate], fun p i e hi => ?_, fun p i l cs q j cs' hi => ?_⟩
    · rw [lz] at hi; exact absurd hi (Nat.not_lt_zero _)
    · rw [lz] at hi; exact absurd hi (Nat.not_lt_zero _)
  have lk : ([s.ob] ++ List.replicate n (Ob.lst []) ++ List.replicate n (Ob.lst [tupN (List.replicate n 0)])).length = 2 * n + 1 := by rw [List.length_append, l2, List.length_replicate]; omega
  generalize hV0 : [s.ob] ++ List.replicate n (Ob.lst []) = V0 at n1 n2 inv lk
  generalize V0 ++ List.replicate n (Ob.lst [tupN (List.replicate n 0)]) = V at n2 inv lk
  obtain ⟨rows, K, j', lf, S1, c4, c7, c8, c9, c10, c11, c12, c13, c14, c15, e1, rl, h1, g1, k1⟩ := lg_loop k hn0 hn M M 0 _ _ [] _ none none none none none none none none none none (by omega) List.length_replicate inv gp lr ck
  obtain ⟨S2, f1, o1⟩ := frz_refs 1 6 n hn0 (fun p => (rows.getD p []).map Ev.d) (fun p => evs_pure _) S1 (fun p hp => h1.row p hp)
  obtain ⟨S3, f2, o2⟩ := frz_refs (n + 1) 6 n hn0 (fun p => ckL K p (lens rows p + 1)) (fun p => ckL_pures K p _) S2 (fun p hp => by
    rw [o1 (n + 1 + p) (fun q hq => by omega)]; exact h1.clk p hp)
  have rm : ((List.range n).map fun p => D.lst ((rows.getD p []).map Ev.d)) = rows.map fun r => D.lst (r.map Ev.d) := by
    refine List.ext_getElem? fun i => ?_
    rw [List.getElem?_map, List.getElem?_map]
    by_cases c : i < n
    · rw [List.getElem?_range c, List.getElem?_eq_getElem (by omega)]
      show some (D.lst ((rows.getD i []).map Ev.d)) = some (D.lst ((rows[i]'(by omega)).map Ev.d))
      rw [getD_of (show i < rows.length by omega)]
    · rw [List.getElem?_eq_none (by simp; omega), List.getElem?_eq_none (by omega)]; rfl
  rw [rm] at f1
  have cd : (D.lst ((List.range n).map fun p => .lst (ckL K p (lens rows p + 1)))) = ckD rows K := by unfold ckD; rw [rl]
  rw [cd] at f2
  refine ⟨rows, K, S3, ?_, rl, g1.rnn (by omega) (by omega), k1⟩
  have x1 : exec (C (k + 2)) T0 k__law_large_4 [some (.ref 0), some (.int n), some (.int M), none, none, none, none, none, none, none, none, none, none, none, none, none] [s.ob] =
      some (.nx [some (.ref 0), some (.int n), some (.int M), some (.lst (refs 1 n)), none, none, none, none, none, none, none, none, none, none, none, none] V0) := by
    unfold k__law_large_4
    rw [exec, evalE]
    simp only [evalI, evalE, List.getElem?_cons_succ, List.getElem?_cons_zero, bnd_ok, hr, okO_some]
    rw [if_pos (by rw [PySem.sizeLine_eq, rg_len]; omega)]
    refine (congrArg (fun z => bnS (bnd z fun ys S2 => mkL false ys S2) _ fun d S1 => some (So.nx (List.set [some (.ref 0), some (.int n), some (.int M), none, none, none, none, none, none, none, none, none, none, none, none, none] 3 (some d)) S1)) n1).trans ?_
    rfl
  have x2 : exec (C (k + 2)) T0 (.asg (.n 5) k__law_large_3) [some (.ref 0), some (.int n), some (.int M), some (.lst (refs 1 n)), none, none, none, none, none, none, none, none, none, none, none, none] V0 =
      some (.nx [some (.ref 0), some (.int n), some (.int M), some (.lst (refs 1 n)), none, some (.lst (refs (n + 1) n)), none, none, none, none, none, none, none, none, none, none] V) := by
    unfold k__law_large_3
    rw [exec, evalE]
    simp only [evalI, evalE, List.getElem?_cons_succ, List.getElem?_cons_zero, bnd_ok, hr, okO_some]
    rw [if_pos (by rw [PySem.sizeLine_eq, rg_len]; omega)]
    refine (congrArg (fun z => bnS (bnd z fun ys S2 => mkL false ys S2) _ fun d S1 => match asgT (.n 5) d [some (.ref 0), some (.int n), some (.int M), some (.lst (refs 1 n)), none, none, none, none, none, none, none, none, none, none, none, none] with
      | some env1 => some (So.nx env1 S1)
      | none => none) n2).trans ?_
    rfl
  have x3 : exec (C (k + 2)) T0 (.asg (.n 6) (.lst true .nil)) [some (.ref 0), some (.int n), some (.int M), some (.lst (refs 1 n)), none, some (.lst (refs (n + 1) n)), none, none, none, none, none, none, none, none, none, none] V =
      some (.nx (lgE n M none none none none none none none none none none) (V ++ [.lst []])) := by
    unfold lgE
    rw [← lk]
    simp only [exec, evalE, evalEs, bnd_ok, List.length_nil, Nat.zero_le, if_true, mkL_t, bnS_ok, asg_n, List.set_cons_succ, List.set_cons_zero]
  have x4 : exec (C (k + 2)) T0 (.for (.n 7) (.rng1 (.v 2)) l__law_large_1) (lgE n M none none none none none none none none none none) (V ++ [.lst []]) = some (.nx (lgE n M c4 c7 c8 c9 c10 c11 c12 c13 c14 c15) S1) := by
    rw [exec]
    have g2 : (lgE n M none none none none none none none none none none)[2]? = some (some (.int M)) := rfl
    simp only [evalI, evalE, g2, bnd_ok, hrM, okO_some, bnS_ok]
    exact e1
  have lc : evalE (C (k + 2)) T0 k__law_large_1 [some (.ref 0), some (.int n), some (.int M), some (.lst (rows.map fun r => D.lst (r.map Ev.d))), c4, some (ckD rows K), some (.ref (2 * n + 1)), c7, c8, c9, c10, c11, c12, c13, c14, c15] S3 = some (.ok (.lst (rows.map rowD)) S3) := by
    unfold k__law_large_1
    have it : itD (.lst (rows.map fun r => D.lst (r.map Ev.d))) = some (rows.map fun r => D.lst (r.map Ev.d)) := rfl
    rw [lc_no (S := S3) (xs := rows.map fun r => D.lst (r.map Ev.d)) (fun d => match d with
      | .lst xs => .tup xs
      | _ => .non) (by simp only [evalI, evalE, List.getElem?_cons_succ, List.getElem?_cons_zero, bnd_ok, it, okO_some]) (by rw [List.length_map, PySem.sizeLine_eq]; omega) (fun y hy => ?_)]
    · rw [mkL_f, List.map_map]; rfl
    · obtain ⟨r, _, rfl⟩ := List.mem_map.mp hy
      unfold e__law_large_1
      simp only [wipeE, List.map_cons, List.map_nil, List.set_cons_succ, List.set_cons_zero, evalE, evalEs, List.getElem?_cons_succ, List.getElem?_cons_zero, bnd_ok, biD_tupL, okO_some]
  rw [c__law_large]
  unfold b__law_large
  rw [ex_go x1, ex_go x2, ex_go x3, ex_go x4]
  have g3 : (lgE n M c4 c7 c8 c9 c10 c11 c12 c13 c14 c15)[3]? = some (some (.lst (refs 1 n))) := rfl
  have s3 : ∀ z, (lgE n M c4 c7 c8 c9 c10 c11 c12 c13 c14 c15).set 3 z = [some (.ref 0), some (.int n), some (.int M), z, c4, some (.lst (refs (n + 1) n)), some (.ref (2 * n + 1)), c7, c8, c9, c10, c11, c12, c13, c14, c15] := fun z => rfl
  simp only [execs, g3, f1, s3, List.getElem?_cons_succ, List.getElem?_cons_zero, f2, List.set_cons_succ, List.set_cons_zero, exec, evalE, evalEs, lc, bnd_ok, biD_tupL, okO_some, List.length_cons, List.length_nil, le2, if_true, bnS_ok, seqS_rt, outS_rt]
  rfl
end Lk
namespace Lk
open PyProof.Rows L2 Ip
/-! ### the large law's pure helpers -/
theorem for_keep {g : Tg} {b : Ip.En → Sto → Option So} (P : Ip.En → Sto → Prop) : ∀ (xs : List D), (∀ x ∈ xs, ∀ env S, P env S → ∃ env1 env2 S2, asgT g x env = some env1 ∧ b env1 S = some (.nx env2 S2) ∧ P env2 S2) → ∀ env S, P env S → ∃ env' S', forL g b xs env S = some (.nx env' S') ∧ P env' S'
  | [], _, env, S, h => ⟨env, S, rfl, h⟩
  | x :: xs, hx, env, S, h => by
    obtain ⟨env1, env2, S2, h1, h2, h3⟩ := hx x (List.mem_cons_self ..) env S h
    obtain ⟨env', S', h4, h5⟩ := for_keep P xs (fun y hy => hx y (List.mem_cons_of_mem _ hy)) env2 S2 h3
    refine ⟨env', S', ?_, h5⟩
    simp only [forL, h1, h2]
    exact h4
theorem tupI_ne (s : List Int) (h : s.length ≤ 1000) (S : Sto) : cmpD .ne (tupI s) (tupI s) S = some false := by
  have hd : dat 1 (tupI s) = true := dat_tup.mpr ⟨by rw [List.length_map]; exact h, List.all_eq_true.mpr fun d hd => by
    obtain ⟨x, _, rfl⟩ := List.mem_map.mp hd
    rfl⟩
  obtain ⟨a, e1, e2⟩ := dat_shaped (n := 1) (by decide) hd
  have l0 : a.canLay0 = true := PySem.SeqAt.canLay_of_shaped e2
  show (match pd (res2 S (tupI s)), pd (res2 S (tupI s)) with
    | some a, some b => if PySem.SeqAt.shaped a = true ∧ PySem.SeqAt.shaped b = true then some (PySem.PyData.eqv a b) else none
    | _, _ => none).map not = _
  rw [dat_res2 hd, e1]
  simp only
  rw [if_pos ⟨e2, e2⟩, PySem.SeqAt.eqv_refl a l0]; rfl
section
variable {rows : Rn} {K : Clk} {S : Sto}
theorem om_cuts : mthD S 0 (ordD rows K) "cuts" = true := of_mth _ (by simp [oNm])
theorem om_before : mthD S 0 (ordD rows K) "before" = true := of_mth _ (by simp [oNm])
theorem before_c (k : Nat) {p q e l : Nat} (hp : p < rows.length) (hq : q < rows.length) (hl : l ≤ lens rows q) (hK : IsClk rows K) : callP (C (k + 1)) true i_Order_before [ordD rows K, .int (p : Int), .int (e : Int), .int (q : Int), .int (l : Int)] S = some (.ok (.bl (if p = q then decide (e < l) else decide (e ≤ (K q l).getD p 0))) S) := by
  refine callP_t (S1 := []) (by simp only [pures, ordD_pure, D.pure, Bool.and_true]) ?_ rfl
  rw [c_Order_before]
  by_cases h : p = q
  · subst h
    rw [if_pos rfl]
    have eq : cmpD .eq (.int (p : Int)) (.int (p : Int)) [] = some true := by simp
    have dl : decide ((e : Int) < (l : Int)) = decide (e < l) := decide_eq_decide.mpr (by omega)
    generalize ordD rows K = o at *
    simp only [b_Order_before, execs, exec, evalT, evalE, List.getElem?_cons_succ, List.getElem?_cons_zero, bnd_ok, eq, okO_some, bnS_ok, cmpD_lt, Option.map_some, dl, seqS_rt, outS_rt]
  · rw [if_neg h]
    have eq : cmpD .eq (.int (p : Int)) (.int (q : Int)) [] = some false := by simp; omega
    have f3 := of_clocks (rows := rows) (K := K) (S := [])
    have r1 := ck_row (K := K) (S := []) (rows := rows) hq
    have r2 := ck_at (K := K) (S := []) (rows := rows) (p := q) (i := l) hl
    have g := tupN_get (v := K q l) (i := p) (by rw [hK.len]; exact hp) []
    have dl : decide ((e : Int) ≤ (((K q l).getD p 0 : Nat) : Int)) = decide (e ≤ (K q l).getD p 0) := decide_eq_decide.mpr (by omega)
    generalize ordD rows K = o at *
    simp only [b_Order_before, execs, exec, evalT, evalE, List.getElem?_cons_succ, List.getElem?_cons_zero, bnd_ok, eq, okO_some, bnS_ok, seqS_nx, f3, r1, r2, g, cmpD_ge, Option.map_some, dl, seqS_rt, outS_rt]
theorem lups_turn (k : Nat) (hR : Rnn rows) (hK : IsClk rows K) {c : List Nat} (hc : IsCutV rows K c) {p : Nat} (hp : p < rows.length) (acc : List Nat) (ha : acc.length ≤ 1000) (v6 : Option D) :
    ∃ c6, execs (C (k + 1)) T0 l__law_up_1 [some (rnD rows), some (ckD rows K), some (tupN c), some (.ref 0), some (.int (p : Int)), v6] [.lst (intsN acc)] =
      some (.nx [some (rnD rows), some (ckD rows K), some (tupN c), some (.ref 0), some (.int (p : Int)), c6] [.lst (intsN (acc ++ if (decide (c.getD p 0 < lens rows p) && covB (addV c p) (K p (c.getD p 0 + 1))) then [p] else []))]) := by
  have h6 : rows.length ≤ 6 := hR.sh.1.2
  obtain ⟨hl, hle⟩ := mem_all.mp hc.1
  have ax := fun U => add_expr (Γ := C (k + 1)) (env := [some (rnD rows), some (ckD rows K), some (tupN c), some (.ref 0), some (.int (p : Int)), v6]) (i := 2) (j := 4) (c := c) (p := p) rfl rfl (by omega) (by omega) U
  have g1 := fun U => tupN_get (v := c) (i := p) (by omega) U
  have r1 := fun U => row_at hp U
  have l1 := fun U => len_row (rows := rows) (p := p) U
  have g : ([Ob.lst (intsN acc)] : Sto)[0]? = some (.lst (intsN acc)) := rfl
  have ty := tyM_app g
  have ap := meD_app (d := .int (p : Int)) g (by unfold intsN; rw [List.length_map, PySem.sizeLine_eq]; omega)
  have e1 : ([Ob.lst (intsN acc)] : Sto).set 0 (.lst (intsN acc ++ [.int (p : Int)])) = [.lst (intsN (acc ++ [p]))] := by simp [intsN]
  rw [e1] at ap
  refine ⟨some (tupN (addV c p)), ?_⟩
  unfold l__law_up_1
  rw [ex_go (E := [some (rnD rows), some (ckD rows K), some (tupN c), some (.ref 0), some (.int (p : Int)), some (tupN (addV c p))]) (U := [.lst (intsN acc)]) (by rw [exec, ax]; rfl)]
  by_cases h : c.getD p 0 < lens rows p
  · have h' : ((c.getD p 0 : Nat) : Int) < ((lens rows p : Nat) : Int) := by omega
    have hin : addV c p ∈ allV (sizesV rows) := mem_all.mpr ⟨by rw [addV_len]; exact hl, fun q => by
      have e : (addV c p).getD q 0 = bump (fV c) p q := congrFun (fV_add (by omega)) q
      rw [e]
      by_cases z : q = p
      · subst z; rw [bump_same]; exact h
      · rw [bump_ne z]; exact hle q⟩
    have ic := fun U => law_is_cut_c (S := U) k hK h6 hin
    have same : cutB K (addV c p) = covB (addV c p) (K p (c.getD p 0 + 1)) := by
      rw [Bool.eq_iff_iff]
      have u := ups_iff hK hc hp
      unfold upsV IsCutV at u
      rw [List.mem_filter, Bool.and_eq_true, decide_eq_true_eq, List.mem_range] at u
      constructor
      · intro z; exact (u.mpr ⟨hin, z⟩).2.2
      · intro z; exact (u.mp ⟨hp, h, z⟩).2
    rw [same] at ic
    rw [decide_eq_true h, Bool.true_and]
    cases hb : covB (addV c p) (K p (c.getD p 0 + 1)) with
    | true =>
      rw [hb] at ic
      rw [if_pos rfl]
      simp only [execs, exec, evalT, evalE, evalEs, List.getElem?_cons_succ, List.getElem?_cons_zero, bnd_ok, g1, okO_some, r1, l1, cmpD_lt, h', decide_true, ic, truD_bl, bnS_ok, ty, if_true, ap, seqS_nx]
    | false =>
      rw [hb] at ic
      rw [if_neg (by decide), List.append_nil]
      simp only [execs, exec, evalT, evalE, evalEs, List.getElem?_cons_succ, List.getElem?_cons_zero, bnd_ok, g1, okO_some, r1, l1, cmpD_lt, h', decide_true, ic, truD_bl, bnS_ok, seqS_nx]
  · have h' : ¬ ((c.getD p 0 : Nat) : Int) < ((lens rows p : Nat) : Int) := by omega
    rw [decide_eq_false h, Bool.false_and, if_neg (by decide), List.append_nil]
    simp only [execs, exec, evalT, evalE, evalEs, List.getElem?_cons_succ, List.getElem?_cons_zero, bnd_ok, g1, okO_some, r1, l1, cmpD_lt, h', decide_false, bnS_ok, seqS_nx]
theorem lups_loop (k : Nat) (hR : Rnn rows) (hK : IsClk rows K) {c : List Nat} (hc : IsCutV rows K c) : ∀ (n j : Nat), j + n = rows.length → ∀ (acc : List Nat) (v5 v6 : Option D), acc.length + n ≤ 1000 →
    ∃ c5 c6, forL (.n 4) (fun e S => execs (C (k + 1)) T0 l__law_up_1 e S) (rg j n) [some (rnD rows), some (ckD rows K), some (tupN c), some (.ref 0), v5, v6] [.lst (intsN acc)] =
      some (.nx [some (rnD rows), some (ckD rows K), some (tupN c), some (.ref 0), c5, c6] [.lst (intsN (acc ++ (List.range' j n).filter fun p => decide (c.getD p 0 < lens rows p) && covB (addV c p) (K p (c.getD p 0 + 1))))])
  | 0, j, hj, acc, v5, v6, ha => ⟨v5, v6, by simp [rg, forL]⟩
  | n + 1, j, hj, acc, v5, v6, ha => by
    obtain ⟨b6, e1⟩ := lups_turn k hR hK hc (p := j) (by omega) acc (by omega) v6
    obtain ⟨c5, c6, e2⟩ := lups_loop k hR hK hc n (j + 1) (by omega) (acc ++ if (decide (c.getD j 0 < lens rows j) && covB (addV c j) (K j (c.getD j 0 + 1))) then [j] else []) (some (.int (j : Int))) b6 (by rw [List.length_append]; split <;> simp <;> omega)
    refine ⟨c5, c6, ?_⟩
    rw [rg]
    simp only [forL, asg_n, List.set_cons_succ, List.set_cons_zero, e1]
    rw [show ((j + 1 : Nat) : Int) = (j : Int) + 1 by omega] at e2
    rw [e2, List.append_assoc, List.range'_succ, List.filter_cons]
    congr 6
    split <;> simp
theorem law_up_c (k : Nat) (hR : Rnn rows) (hK : IsClk rows K) {c : List Nat} (hc : IsCutV rows K c) : callP (C (k + 2)) true i__law_up [rnD rows, ckD rows K, tupN c] S = some (.ok (.lst (intsN (upsV rows K c))) S) := by
  obtain ⟨c5, c6, e⟩ := lups_loop k hR hK hc rows.length 0 (by omega) [] none none (by have := hR.sh.1.2; simp; omega)
  have hr : rngD 0 (rows.length : Int) = some (rg 0 rows.length) := rngD_len (by have := hR.sh.1.2; omega)
  have ln : ∀ U, biD .len [rnD rows] U = some (.int (rows.length : Nat)) := fun U => by rw [rnD, biD_lenT, List.length_map]
  rw [List.nil_append, ← List.range_eq_range'] at e
  have e : forL (.n 4) (fun e S => execs (C (k + 1)) T0 l__law_up_1 e S) (rg 0 rows.length) [some (rnD rows), some (ckD rows K), some (tupN c), some (.ref 0), none, none] [.lst []] = some (.nx [some (rnD rows), some (ckD rows K), some (tupN c), some (.ref 0), c5, c6] [.lst (intsN (upsV rows K c))]) := e
  have body : C (k + 2) i__law_up [rnD rows, ckD rows K, tupN c] [] = some (.ok (.ref 0) [.lst (intsN (upsV rows K c))]) := by
    rw [c__law_up]
    simp only [b__law_up, execs, exec, evalI, evalE, evalEs, List.getElem?_cons_succ, List.getElem?_cons_zero, bnd_ok, bnS_ok, List.length_nil, Nat.zero_le, if_true, mkL_t, List.nil_append, asg_n, List.set_cons_succ, List.set_cons_zero, seqS_nx, ln, hr, okO_some, e, seqS_rt, outS_rt]
  refine callP_z (by simp only [pures, rn_pure, ckD_pure, tupN_pure, Bool.and_true]) body (S2 := [.dead]) ?_ (by rw [D.pure, intsN_pure])
  rw [frz]
  have g : ([Ob.lst (intsN (upsV rows K c))] : Sto)[0]? = some (.lst (intsN (upsV rows K c))) := rfl
  simp only [g, mapF_pure 7 _ _ (intsN_pure _)]
  rfl
theorem sub_22 : T0.sub 2 2 = some true := rfl
theorem many_x (k : Nat) (hR : Rnn rows) (hK : IsClk rows K) {most : Nat} (hM : most ≤ 1000) (hw : most ≤ (sizesV rows).sum) : callP (C (k + 5)) true i__law_many [ordD rows K, .int (most : Int)] S = some (.ok (.int (-1)) S) := by
  refine callP_t (S1 := []) (by simp only [pures, ordD_pure, D.pure, Bool.and_true]) ?_ rfl
  rw [c__law_many]
  have f := om_cuts (rows := rows) (K := K) (S := [])
  have cc := cutsx_c k hR hK hM hw []
  have x : execs (C (k + 4)) T0 l__law_many_1 [some (ordD rows K), some (.int (most : Int))] [] = some (.ex 2 [some (ordD rows K), some (.int (most : Int))] []) := by
    generalize ordD rows K = o at *
    simp only [l__law_many_1, execs, exec, evalE, evalEs, List.getElem?_cons_succ, List.getElem?_cons_zero, bnd_ok, bnd_ex, f, if_true, cc, bnS_ex, seqS_ex]
  simp only [b__law_many, execs, exec, x]
  rw [tryR_ex sub_22]
  simp only [nmX_none, hdX, evalE, Cst.d, bnd_ok, okO_some, seqS_rt, outS_rt]
def rrE (rows : Rn) (K : Clk) (v3 v4 v5 : Option D) : Ip.En := [some (ordD rows K), some (rnD rows), some (ckD rows K), v3, v4, v5]
theorem rows_right_c (k : Nat) (hR : Rnn rows) (hK : IsClk rows K) : callP (C (k + 3)) true i__law_rows_right [ordD rows K, rnD rows, ckD rows K] S = some (.ok (.bl true) S) := by
  refine callP_t (S1 := []) (by simp only [pures, ordD_pure, rn_pure, ckD_pure, Bool.and_true]) ?_ rfl
  rw [c__law_rows_right]
  have h6 : rows.length ≤ 6 := hR.sh.1.2
  have h30 : ∀ p, lens rows p ≤ 30 := hR.small.2
  have hr : rngD 0 (rows.length : Int) = some (intsN (List.range rows.length)) := by rw [rngD_len (by omega), rg0]
  have ln : ∀ U, biD .len [rnD rows] U = some (.int (rows.length : Nat)) := fun U => by rw [rnD, biD_lenT, List.length_map]
  obtain ⟨env', S', e, hP⟩ := for_keep (g := .n 3) (b := fun e S => execs (C (k + 2)) T0 l__law_rows_right_2 e S) (fun env U => U = [] ∧ ∃ v3 v4 v5, env = rrE rows K v3 v4 v5) (intsN (List.range rows.length)) (fun x hx env U hP => by
    obtain ⟨rfl, v3, v4, v5, rfl⟩ := hP
    obtain ⟨p, hp, rfl⟩ := List.mem_map.mp hx
    have hp := List.mem_range.mp hp
    have r1 := row_at hp []
    have l1 := len_row (rows := rows) (p := p) []
    have r2 : rngD 0 ((lens rows p : Int) + 1) = some (intsN (List.range (lens rows p + 1))) := by
      have := rngD_len (n := lens rows p + 1) (by have := h30 p; omega)
      have q : rngD 0 ((lens rows p : Int) + 1) = rngD 0 ((lens rows p + 1 : Nat) : Int) := rfl
      rw [q, this, rg0]
    obtain ⟨env', S', e, hP⟩ := for_keep (g := .n 4) (b := fun e S => execs (C (k + 2)) T0 l__law_rows_right_1 e S) (fun env V => V = [] ∧ ∃ v4 v5, env = rrE rows K (some (.int (p : Int))) v4 v5) (intsN (List.range (lens rows p + 1))) (fun x hx env V hP => by
      obtain ⟨rfl, v4, v5, rfl⟩ := hP
      obtain ⟨i, hi, rfl⟩ := List.mem_map.mp hx
      have hi := List.mem_range.mp hi
      refine ⟨_, _, [], rfl, ?_, rfl, some (.int (i : Int)), some (stDct (stAt rows p i)), rfl⟩
      have ls := law_state_c (k + 1) hR (i := i) hp []
      have f := om_state (rows := rows) (K := K) (S := [])
      have f2 := om_clock (rows := rows) (K := K) (S := [])
      have sc := state_c (K := K) (S := []) (k + 1) hp (show i ≤ lens rows p by omega)
      have kc := clock_c (K := K) (S := []) (k + 1) hp (show i ≤ lens rows p by omega)
      have q1 := ck_row (K := K) (S := []) (rows := rows) hp
      have q2 := ck_at (K := K) (S := []) (rows := rows) (p := p) (i := i) (by omega)
      have nk : cmpD .ne (tupN (K p i)) (tupN (K p i)) [] = some false := by
        show (eqD [] _ _).map not = _
        rw [eqD_V, decide_eq_true rfl]; rfl
      have len4 := stAt_len rows p i
      obtain ⟨a, b, c, d, es, ga, gb, gc, gd⟩ := get_st len4 []
      have ne := tupI_ne (stAt rows p i) (by omega) []
      generalize stAt rows p i = s at *
      have td : D.tup [.int a, .int b, .int c, .int d] = tupI s := by rw [es]; rfl
      have le4 : (0 + 1 + 1 + 1 + 1 ≤ PySem.sizeLine) := by rw [PySem.sizeLine_eq]; decide
      unfold rrE
      generalize ordD rows K = o at *
      generalize stDct s = sd at *
      simp only [l__law_rows_right_1, execs, exec, evalT, evalE, evalEs, List.set_cons_succ, List.set_cons_zero, List.getElem?_cons_succ, List.getElem?_cons_zero, bnd_ok, ls, bnS_ok, asg_n, seqS_nx, f, f2, if_true, sc, kc, q1, q2, nk, Cst.d, ga, gb, gc, gd, okO_some, List.length_cons, List.length_nil, le4, td, ne]) (rrE rows K (some (.int (p : Int))) v4 v5) [] ⟨rfl, v4, v5, rfl⟩
    obtain ⟨rfl, c4, c5, rfl⟩ := hP
    refine ⟨_, _, [], rfl, ?_, rfl, some (.int (p : Int)), c4, c5, rfl⟩
    have f := om_size (rows := rows) (K := K) (S := [])
    have cs := size_c (K := K) (S := []) (k + 1) hp
    have ne : cmpD .ne (.int (lens rows p : Nat)) (.int (lens rows p : Nat)) [] = some false := by simp
    unfold rrE at e ⊢
    generalize ordD rows K = o at *
    simp only [l__law_rows_right_2, execs, exec, evalT, evalE, evalEs, evalI, List.set_cons_succ, List.set_cons_zero, List.getElem?_cons_succ, List.getElem?_cons_zero, bnd_ok, f, if_true, cs, ne, r1, okO_some, l1, bnS_ok, seqS_nx, Cst.d, binD_add, r2, e]) (rrE rows K none none none) [] ⟨rfl, none, none, none, rfl⟩
  obtain ⟨rfl, c3, c4, c5, rfl⟩ := hP
  have x1 : exec (C (k + 2)) T0 (.for (.n 3) (.rng1 (.bi .len (.cons (.v 1) .nil))) l__law_rows_right_2) (rrE rows K none none none) [] = some (.nx (rrE rows K c3 c4 c5) []) := by
    have g1 : (rrE rows K none none none)[1]? = some (some (rnD rows)) := rfl
    rw [exec]
    simp only [evalI, evalE, evalEs, g1, bnd_ok, ln, hr, okO_some, bnS_ok]
    exact e
  unfold b__law_rows_right
  show outS (execs _ _ _ (rrE rows K none none none) []) = _
  rw [ex_go x1]
  simp only [execs, exec, evalE, Cst.d, bnS_ok, seqS_rt, outS_rt]
end
end Lk
namespace Lk
open PyProof.Rows L2 Ip
/-! ### the large law's drawing helpers -/
theorem bS_self {b : Nat} {S : Sto} {s : Bs} (h : S[b]? = some s.ob) : bS b s S = S := by
  unfold bS
  refine List.ext_getElem? fun i => ?_
  by_cases c : b = i
  · subst c; rw [List.getElem?_set_self (List.getElem?_eq_some_iff.mp h).1]; exact h.symm
  · rw [List.getElem?_set_ne c]
theorem set_expr {Γ : Gam} {env : Ip.En} {c : List Nat} {p i j m x : Nat} (h1 : env[i]? = some (some (tupN c))) (h2 : env[j]? = some (some (.int (p : Int)))) (h3 : env[m]? = some (some (.int (x : Int)))) (hp : p < c.length) (hl : c.length ≤ 1000) (U : Sto) :
    evalE Γ T0 (.bin .add false (.bin .add false (.sl false (.v i) .no (.so (.v j))) (.tup (.cons (.v m) .nil))) (.sl false (.v i) (.so (.bin .add false (.v j) (.c (.int 1)))) .no)) env U = some (.ok (tupN (c.set p x)) U) := by
  obtain ⟨W, u1, u2⟩ := tup_set (x := x) hp hl U
  simp only [evalE, evalEs, evalO, h1, h2, h3, bnd_ok, tupN, slD_tup, List.length_cons, List.length_nil, (show (0 + 1 ≤ PySem.sizeLine) by rw [PySem.sizeLine_eq]; decide), if_true, Cst.d, binD_add]
  simp only [okO_some, bnd_ok, binD_add, List.length_cons, List.length_nil, (show (0 + 1 ≤ PySem.sizeLine) by rw [PySem.sizeLine_eq]; decide), if_true, u1, u2, tupN]
section
variable {rows : Rn} {K : Clk} {S : Sto}
theorem near_ok (k : Nat) {b : Nat} (hb : b < S.length) (hR : Rnn rows) {c : List Nat} (hc : c ∈ allV (sizesV rows)) (s : Bs) :
    ∃ s' v, C (k + 2) i__law_near [.ref b, rnD rows, tupN c] (bS b s S) = some (.ok (tupN v) (bS b s' S)) ∧ v ∈ allV (sizesV rows) := by
  rw [c__law_near]
  have h6 : rows.length ≤ 6 := hR.sh.1.2
  have h1 : 1 ≤ rows.length := hR.sh.1.1
  obtain ⟨hl, hle⟩ := mem_all.mp hc
  have ln : ∀ U, biD .len [rnD rows] U = some (.int (rows.length : Nat)) := fun U => by rw [rnD, biD_lenT, List.length_map]
  have d1 := draw_ok k b s S (rows.length : Int) hb (by omega) (by omega)
  have w0 := dr_low (m := (rows.length : Int)) s (by omega)
  have w1 := dr_top (m := (rows.length : Int)) s (by omega)
  obtain ⟨p, hp⟩ : ∃ p : Nat, dr (rows.length : Int) s = p := ⟨(dr (rows.length : Int) s).toNat, by omega⟩
  have hpl : p < rows.length := by omega
  rw [hp] at d1
  have d2 := draw_ok k b (nx (rows.length : Int) s) S 7 hb (by omega) (by omega)
  have z0 := dr_low (m := 7) (nx (rows.length : Int) s) (by omega)
  generalize dr 7 (nx (rows.length : Int) s) = z at d2 z0
  generalize nx 7 (nx (rows.length : Int) s) = s2 at d2
  generalize bS b (nx (rows.length : Int) s) S = S1 at d1 d2
  have r1 := fun U => row_at hpl U
  have l1 := fun U => len_row (rows := rows) (p := p) U
  have g1 := fun U => tupN_get (v := c) (i := p) (by omega) U
  have sb : ∀ i U, binD .sub false (.int i) (.int 3) U = some (.ok (.int (i - 3)) U) := fun i U => rfl
  obtain ⟨x, hx, hxl⟩ : ∃ x : Nat, (if (if ((c.getD p 0 : Nat) : Int) + z - 3 < (lens rows p : Nat) then ((c.getD p 0 : Nat) : Int) + z - 3 else (lens rows p : Nat)) > 0 then (if ((c.getD p 0 : Nat) : Int) + z - 3 < (lens rows p : Nat) then ((c.getD p 0 : Nat) : Int) + z - 3 else (lens rows p : Nat)) else 0) = (x : Int) ∧ x ≤ lens rows p := by
    by_cases a1 : ((c.getD p 0 : Nat) : Int) + z - 3 < (lens rows p : Nat)
    · rw [if_pos a1]
      by_cases a2 : ((c.getD p 0 : Nat) : Int) + z - 3 > 0
      · rw [if_pos a2]; exact ⟨(((c.getD p 0 : Nat) : Int) + z - 3).toNat, by omega, by omega⟩
      · rw [if_neg a2]; exact ⟨0, rfl, by omega⟩
    · rw [if_neg a1]
      by_cases a2 : ((lens rows p : Nat) : Int) > 0
      · rw [if_pos a2]; exact ⟨lens rows p, rfl, by omega⟩
      · rw [if_neg a2]; exact ⟨0, rfl, by omega⟩
  refine ⟨s2, c.set p x, ?_, mem_all.mpr ⟨by rw [List.length_set]; exact hl, fun q => ?_⟩⟩
  · unfold b__law_near
    rw [ex_go (E := [some (.ref b), some (rnD rows), some (tupN c), some (.int (p : Int)), none]) (U := S1) (by
      simp only [exec, evalE, evalEs, List.getElem?_cons_succ, List.getElem?_cons_zero, bnd_ok, ln, okO_some, callP_f, d1, bnS_ok, asg_n, List.set_cons_succ, List.set_cons_zero])]
    rw [ex_go (E := [some (.ref b), some (rnD rows), some (tupN c), some (.int (p : Int)), some (.int (x : Int))]) (U := bS b s2 S) (by
      rw [exec]
      simp only [evalE, evalEs, List.getElem?_cons_succ, List.getElem?_cons_zero, bnd_ok, Cst.d, r1, l1, okO_some, g1, callP_f, d2, binD_add, sb, biD_min, biD_max, hx, bnS_ok, asg_n, List.set_cons_succ, List.set_cons_zero])]
    have ax := set_expr (Γ := C (k + 1)) (env := [some (.ref b), some (rnD rows), some (tupN c), some (.int (p : Int)), some (.int (x : Int))]) (i := 2) (j := 3) (m := 4) (c := c) (p := p) (x := x) rfl rfl rfl (by omega) (by omega) (bS b s2 S)
    rw [execs, exec, ax]
    rfl
  · by_cases e : q = p
    · subst e
      rw [List.getD_eq_getElem?_getD, List.getElem?_set_self (by omega)]; exact hxl
    · rw [set_get e]; exact hle q
theorem cut_right_ok (k : Nat) {b : Nat} (hb : b < S.length) (hR : Rnn rows) (hK : IsClk rows K) {c : List Nat} (hc : IsCutV rows K c) (s : Bs) :
    ∃ s', C (k + 3) i__law_cut_right [.ref b, ordD rows K, rnD rows, ckD rows K, tupN c] (bS b s S) = some (.ok (.bl true) (bS b s' S)) := by
  have h6 : rows.length ≤ 6 := hR.sh.1.2
  obtain ⟨hl, hle⟩ := mem_all.mp hc.1
  obtain ⟨s', v, en, hv⟩ := near_ok k hb hR hc.1 s
  obtain ⟨vl, vle⟩ := mem_all.mp hv
  refine ⟨s', ?_⟩
  rw [c__law_cut_right]
  have lu := fun U => law_up_c (S := U) k hR hK hc
  have f1 := fun U => om_is_cut (rows := rows) (K := K) (S := U)
  have ic := fun U => is_cut_vec (S := U) k h6 hK hl (fun p _ => hle p)
  rw [hc.2] at ic
  have f2 := fun U => om_ups (rows := rows) (K := K) (S := U)
  have up := fun U => ups_c (S := U) k h6 hK hl
  have f3 := fun U => om_under_way (rows := rows) (K := K) (S := U)
  have uw := fun U => under_way_c (K := K) (S := U) (k + 1) hR hl
  have lw := fun U => law_way_c (k + 1) hR hl U
  have ic2 := fun U => is_cut_vec (S := U) k h6 hK vl (fun p _ => vle p)
  have li := fun U => law_is_cut_c (S := U) (k + 1) hK h6 hv
  have nt : ∀ U, cmpD .isnot (.bl true) (.bl true) U = some false := fun U => by simp
  have ne : ∀ U, cmpD .ne (.lst (intsN (upsV rows K c))) (.lst (intsN (upsV rows K c))) U = some false := fun U => by
    show (eqD U _ _).map not = _
    rw [eqD_NL, decide_eq_true rfl]; rfl
  have nw : ∀ U, cmpD .ne (.int ((wayL rows c).length : Nat)) (.int ((wayL rows c).length : Nat)) U = some false := fun U => by simp
  have ib : ∀ U, isiD U (.bl (cutB K v)) .bool = some true := fun U => rfl
  have nb : ∀ U, cmpD .ne (.bl (cutB K v)) (.bl (cutB K v)) U = some false := fun U => by simp
  generalize upsV rows K c = us at *
  generalize (wayL rows c).length = wl at *
  generalize cutB K v = cv at *
  unfold b__law_cut_right
  rw [ex_go (E := [some (.ref b), some (ordD rows K), some (rnD rows), some (ckD rows K), some (tupN c), some (.lst (intsN us)), none, none]) (U := bS b s S) (by
    simp only [exec, evalE, evalEs, List.getElem?_cons_succ, List.getElem?_cons_zero, bnd_ok, lu, bnS_ok, asg_n, List.set_cons_succ, List.set_cons_zero])]
  rw [ex_go (E := [some (.ref b), some (ordD rows K), some (rnD rows), some (ckD rows K), some (tupN c), some (.lst (intsN us)), none, none]) (U := bS b s S) (by
    generalize ordD rows K = o at *
    simp only [exec, evalT, evalE, evalEs, List.getElem?_cons_succ, List.getElem?_cons_zero, bnd_ok, Cst.d, f1, f2, f3, if_true, ic, nt, up, ne, uw, lw, nw, okO_some, bnS_ok, execs])]
  rw [ex_go (E := [some (.ref b), some (ordD rows K), some (rnD rows), some (ckD rows K), some (tupN c), some (.lst (intsN us)), some (tupN v), none]) (U := bS b s' S) (by
    simp only [exec, evalE, evalEs, List.getElem?_cons_succ, List.getElem?_cons_zero, bnd_ok, callP_f, en, bnS_ok, asg_n, List.set_cons_succ, List.set_cons_zero])]
  rw [ex_go (E := [some (.ref b), some (ordD rows K), some (rnD rows), some (ckD rows K), some (tupN c), some (.lst (intsN us)), some (tupN v), some (.bl cv)]) (U := bS b s' S) (by
    generalize ordD rows K = o at *
    simp only [exec, evalE, evalEs, List.getElem?_cons_succ, List.getElem?_cons_zero, bnd_ok, f1, if_true, ic2, bnS_ok, asg_n, List.set_cons_succ, List.set_cons_zero])]
  simp only [execs, exec, evalT, evalE, evalEs, List.getElem?_cons_succ, List.getElem?_cons_zero, bnd_ok, ib, okO_some, Bool.not_true, li, nb, Cst.d, bnS_ok, seqS_nx, seqS_rt, outS_rt]
theorem bef_turn (k : Nat) {b : Nat} (hb : b < S.length) (hR : Rnn rows) (hK : IsClk rows K) (s : Bs) (v4 v5 v6 v7 v8 v9 : Option D) :
    ∃ s' c5 c6 c7 c8 c9, execs (C (k + 1)) T0 l__law_before_right_1 [some (.ref b), some (ordD rows K), some (rnD rows), some (ckD rows K), v4, v5, v6, v7, v8, v9] (bS b s S) =
      some (.nx [some (.ref b), some (ordD rows K), some (rnD rows), some (ckD rows K), v4, c5, c6, c7, c8, c9] (bS b s' S)) := by
  have h6 : rows.length ≤ 6 := hR.sh.1.2
  have h1 : 1 ≤ rows.length := hR.sh.1.1
  have ln : ∀ U, biD .len [rnD rows] U = some (.int (rows.length : Nat)) := fun U => by rw [rnD, biD_lenT, List.length_map]
  have d1 := draw_ok k b s S (rows.length : Int) hb (by omega) (by omega)
  have w0 := dr_low (m := (rows.length : Int)) s (by omega)
  have w1 := dr_top (m := (rows.length : Int)) s (by omega)
  obtain ⟨p, hp⟩ : ∃ p : Nat, dr (rows.length : Int) s = p := ⟨(dr (rows.length : Int) s).toNat, by omega⟩
  have hpl : p < rows.length := by omega
  rw [hp] at d1
  generalize nx (rows.length : Int) s = s1 at d1
  have d2 := draw_ok k b s1 S (rows.length : Int) hb (by omega) (by omega)
  have w0 := dr_low (m := (rows.length : Int)) s1 (by omega)
  have w1 := dr_top (m := (rows.length : Int)) s1 (by omega)
  obtain ⟨q, hq⟩ : ∃ q : Nat, dr (rows.length : Int) s1 = q := ⟨(dr (rows.length : Int) s1).toNat, by omega⟩
  have hql : q < rows.length := by omega
  rw [hq] at d2
  generalize nx (rows.length : Int) s1 = s2 at d2
  have r1 := fun U => row_at hpl U
  have l1 := fun U => len_row (rows := rows) (p := p) U
  have r2 := fun U => row_at hql U
  have l2 := fun U => len_row (rows := rows) (p := q) U
  unfold l__law_before_right_1
  rw [ex_go (E := [some (.ref b), some (ordD rows K), some (rnD rows), some (ckD rows K), v4, some (.int (p : Int)), v6, v7, v8, v9]) (U := bS b s1 S) (by
    simp only [exec, evalE, evalEs, List.getElem?_cons_succ, List.getElem?_cons_zero, bnd_ok, ln, okO_some, callP_f, d1, bnS_ok, asg_n, List.set_cons_succ, List.set_cons_zero])]
  rw [ex_go (E := [some (.ref b), some (ordD rows K), some (rnD rows), some (ckD rows K), v4, some (.int (p : Int)), some (.int (q : Int)), v7, v8, v9]) (U := bS b s2 S) (by
    simp only [exec, evalE, evalEs, List.getElem?_cons_succ, List.getElem?_cons_zero, bnd_ok, ln, okO_some, callP_f, d2, bnS_ok, asg_n, List.set_cons_succ, List.set_cons_zero])]
  by_cases cp : 0 < lens rows p
  · by_cases cq : 0 < lens rows q
    · have cp' : (0 : Int) < (lens rows p : Nat) := by omega
      have cq' : (0 : Int) < (lens rows q : Nat) := by omega
      have d3 := draw_ok k b s2 S (lens rows p : Nat) hb (by omega) (by have := hR.small.2 p; unfold lens; omega)
      have w0 := dr_low (m := (lens rows p : Nat)) s2 (by omega)
      have w1 := dr_top (m := (lens rows p : Nat)) s2 (by omega)
      obtain ⟨e, he⟩ : ∃ e : Nat, 1 + dr (lens rows p : Nat) s2 = e := ⟨(1 + dr (lens rows p : Nat) s2).toNat, by omega⟩
      have a1 : ∀ U, binD .add false (.int 1) (.int (dr (lens rows p : Nat) s2)) U = some (.ok (.int (e : Int)) U) := fun U => by rw [binD_add, he]
      generalize nx (lens rows p : Nat) s2 = s3 at d3
      have d4 := draw_ok k b s3 S (lens rows q : Nat) hb (by omega) (by have := hR.small.2 q; unfold lens; omega)
      have w2 := dr_low (m := (lens rows q : Nat)) s3 (by omega)
      have w3 := dr_top (m := (lens rows q : Nat)) s3 (by omega)
      obtain ⟨l, hl⟩ : ∃ l : Nat, 1 + dr (lens rows q : Nat) s3 = l := ⟨(1 + dr (lens rows q : Nat) s3).toNat, by omega⟩
      have a2 : ∀ U, binD .add false (.int 1) (.int (dr (lens rows q : Nat) s3)) U = some (.ok (.int (l : Int)) U) := fun U => by rw [binD_add, hl]
      generalize nx (lens rows q : Nat) s3 = s4 at d4
      have hll : l ≤ lens rows q := by omega
      have f := fun U => om_before (rows := rows) (K := K) (S := U)
      have bc := fun U => before_c (S := U) k (e := e) hpl hql hll hK
      have q1 := fun U => ck_row (K := K) (S := U) (rows := rows) hql
      have q2 := fun U => ck_at (K := K) (S := U) (rows := rows) (p := q) (i := l) hll
      have g := fun U => tupN_get (v := K q l) (i := p) (by rw [hK.len]; exact hpl) U
      have dl : decide ((e : Int) ≤ (((K q l).getD p 0 : Nat) : Int)) = decide (e ≤ (K q l).getD p 0) := decide_eq_decide.mpr (by omega)
      have ne : ∀ U, cmpD .ne (.tup [.int (p : Int), .int (e : Int)]) (.tup [.int (q : Int), .int (l : Int)]) U = some (!decide ([p, e] = [q, l])) := fun U => by
        show (eqD U (tupN [p, e]) (tupN [q, l])).map not = _
        rw [eqD_V]; rfl
      have same : (decide (e ≤ (K q l).getD p 0) && !decide ([p, e] = [q, l])) = (if p = q then decide (e < l) else decide (e ≤ (K q l).getD p 0)) := by
        by_cases h : p = q
        · subst h
          rw [if_pos rfl, clk_own hR hK hpl l hll, Bool.eq_iff_iff]
          simp
          omega
        · rw [if_neg h]
          have : ¬ ([p, e] = [q, l]) := fun z => h (List.cons.inj z).1
          rw [decide_eq_false this, Bool.not_false, Bool.and_true]
      rw [← same] at bc
      have av : evalE (C (k + 1)) T0 (.and (.cmp .ge (.ix (.ix (.ix (.v 3) (.v 6)) (.v 8)) (.v 5)) (.v 7)) (.cmp .ne (.tup (.cons (.v 5) (.cons (.v 7) .nil))) (.tup (.cons (.v 6) (.cons (.v 8) .nil))))) [some (.ref b), some (ordD rows K), some (rnD rows), some (ckD rows K), v4, some (.int (p : Int)), some (.int (q : Int)), some (.int (e : Int)), some (.int (l : Int)), v9] (bS b s4 S) = some (.ok (.bl (decide (e ≤ (K q l).getD p 0) && !decide ([p, e] = [q, l]))) (bS b s4 S)) := by
        cases hb : decide (e ≤ (K q l).getD p 0) with
        | true =>
          rw [hb] at dl
          simp only [evalE, evalEs, List.getElem?_cons_succ, List.getElem?_cons_zero, bnd_ok, q1, q2, g, okO_some, cmpD_ge, dl, Option.map_some, List.length_cons, List.length_nil, le2, if_true, ne, Bool.true_and]
        | false =>
          rw [hb] at dl
          simp only [evalE, evalEs, List.getElem?_cons_succ, List.getElem?_cons_zero, bnd_ok, q1, q2, g, okO_some, cmpD_ge, dl, Option.map_some, Bool.false_and]
      generalize (decide (e ≤ (K q l).getD p 0) && !decide ([p, e] = [q, l])) = bb at *
      have nb : ∀ U, cmpD .ne (.bl bb) (.bl bb) U = some false := fun U => by simp
      refine ⟨s4, some (.int (p : Int)), some (.int (q : Int)), some (.int (e : Int)), some (.int (l : Int)), some (.bl bb), ?_⟩
      have y1 : exec (C (k + 1)) T0 (.asg (.n 7) (.bin .add false (.c (.int 1)) (.call i__law_draw false (.cons (.v 0) (.cons (.bi .len (.cons (.ix (.v 2) (.v 5)) .nil)) .nil))))) [some (.ref b), some (ordD rows K), some (rnD rows), some (ckD rows K), v4, some (.int (p : Int)), some (.int (q : Int)), v7, v8, v9] (bS b s2 S) = some (.nx [some (.ref b), some (ordD rows K), some (rnD rows), some (ckD rows K), v4, some (.int (p : Int)), some (.int (q : Int)), some (.int (e : Int)), v8, v9] (bS b s3 S)) := by
        simp only [exec, evalE, evalEs, List.getElem?_cons_succ, List.getElem?_cons_zero, bnd_ok, Cst.d, r1, l1, okO_some, callP_f, d3, a1, bnS_ok, asg_n, List.set_cons_succ, List.set_cons_zero]
      have y2 : exec (C (k + 1)) T0 (.asg (.n 8) (.bin .add false (.c (.int 1)) (.call i__law_draw false (.cons (.v 0) (.cons (.bi .len (.cons (.ix (.v 2) (.v 6)) .nil)) .nil))))) [some (.ref b), some (ordD rows K), some (rnD rows), some (ckD rows K), v4, some (.int (p : Int)), some (.int (q : Int)), some (.int (e : Int)), v8, v9] (bS b s3 S) = some (.nx [some (.ref b), some (ordD rows K), some (rnD rows), some (ckD rows K), v4, some (.int (p : Int)), some (.int (q : Int)), some (.int (e : Int)), some (.int (l : Int)), v9] (bS b s4 S)) := by
        simp only [exec, evalE, evalEs, List.getElem?_cons_succ, List.getElem?_cons_zero, bnd_ok, Cst.d, r2, l2, okO_some, callP_f, d4, a2, bnS_ok, asg_n, List.set_cons_succ, List.set_cons_zero]
      have y3 : exec (C (k + 1)) T0 (.asg (.n 9) (.and (.cmp .ge (.ix (.ix (.ix (.v 3) (.v 6)) (.v 8)) (.v 5)) (.v 7)) (.cmp .ne (.tup (.cons (.v 5) (.cons (.v 7) .nil))) (.tup (.cons (.v 6) (.cons (.v 8) .nil)))))) [some (.ref b), some (ordD rows K), some (rnD rows), some (ckD rows K), v4, some (.int (p : Int)), some (.int (q : Int)), some (.int (e : Int)), some (.int (l : Int)), v9] (bS b s4 S) = some (.nx [some (.ref b), some (ordD rows K), some (rnD rows), some (ckD rows K), v4, some (.int (p : Int)), some (.int (q : Int)), some (.int (e : Int)), some (.int (l : Int)), some (.bl bb)] (bS b s4 S)) := by
        rw [exec, av]; rfl
      have y4 : exec (C (k + 1)) T0 (.ifs (.cmp .ne (.mcl 0 i_Order_before "before" true (.v 1) (.cons (.v 5) (.cons (.v 7) (.cons (.v 6) (.cons (.v 8) .nil))))) (.v 9)) (.cons (.ret (.c (.bl false))) .nil) .nil) [some (.ref b), some (ordD rows K), some (rnD rows), some (ckD rows K), v4, some (.int (p : Int)), some (.int (q : Int)), some (.int (e : Int)), some (.int (l : Int)), some (.bl bb)] (bS b s4 S) = some (.nx [some (.ref b), some (ordD rows K), some (rnD rows), some (ckD rows K), v4, some (.int (p : Int)), some (.int (q : Int)), some (.int (e : Int)), some (.int (l : Int)), some (.bl bb)] (bS b s4 S)) := by
        generalize ordD rows K = o at *
        simp only [exec, evalT, evalE, evalEs, List.getElem?_cons_succ, List.getElem?_cons_zero, bnd_ok, f, if_true, bc, nb, okO_some, bnS_ok, execs]
      have xc : evalT (C (k + 1)) T0 (.and (.cmp .gt (.bi .len (.cons (.ix (.v 2) (.v 5)) .nil)) (.c (.int 0))) (.cmp .gt (.bi .len (.cons (.ix (.v 2) (.v 6)) .nil)) (.c (.int 0)))) [some (.ref b), some (ordD rows K), some (rnD rows), some (ckD rows K), v4, some (.int (p : Int)), some (.int (q : Int)), v7, v8, v9] (bS b s2 S) = some (.ok true (bS b s2 S)) := by
        simp only [evalT, evalE, evalEs, List.getElem?_cons_succ, List.getElem?_cons_zero, bnd_ok, Cst.d, r1, l1, r2, l2, okO_some, cmpD_gt, cp', cq', decide_true]
      rw [execs, exec, xc]
      simp only [bnS_ok]
      rw [ex_go y1, ex_go y2, ex_go y3, ex_go y4]
      simp only [execs, seqS_nx]
    · have cp' : (0 : Int) < (lens rows p : Nat) := by omega
      have cq' : ¬ (0 : Int) < (lens rows q : Nat) := by omega
      refine ⟨s2, some (.int (p : Int)), some (.int (q : Int)), v7, v8, v9, ?_⟩
      simp only [execs, exec, evalT, evalE, evalEs, List.getElem?_cons_succ, List.getElem?_cons_zero, bnd_ok, Cst.d, r1, l1, r2, l2, okO_some, cmpD_gt, cp', cq', decide_true, decide_false, bnS_ok, seqS_nx]
  · have cp' : ¬ (0 : Int) < (lens rows p : Nat) := by omega
    refine ⟨s2, some (.int (p : Int)), some (.int (q : Int)), v7, v8, v9, ?_⟩
    simp only [execs, exec, evalT, evalE, evalEs, List.getElem?_cons_succ, List.getElem?_cons_zero, bnd_ok, Cst.d, r1, l1, r2, l2, okO_some, cmpD_gt, cp', decide_false, bnS_ok, seqS_nx]
theorem before_right_ok (k : Nat) {b : Nat} (hb : b < S.length) (hR : Rnn rows) (hK : IsClk rows K) (s : Bs) :
    ∃ s', C (k + 2) i__law_before_right [.ref b, ordD rows K, rnD rows, ckD rows K] (bS b s S) = some (.ok (.bl true) (bS b s' S)) := by
  rw [c__law_before_right]
  obtain ⟨env', S', e, hP⟩ := for_keep (g := .n 4) (b := fun e S => execs (C (k + 1)) T0 l__law_before_right_1 e S) (fun env U => ∃ s' v4 v5 v6 v7 v8 v9, U = bS b s' S ∧ env = [some (.ref b), some (ordD rows K), some (rnD rows), some (ckD rows K), v4, v5, v6, v7, v8, v9]) (rg 0 12) (fun x _ env U hP => by
    obtain ⟨s', v4, v5, v6, v7, v8, v9, rfl, rfl⟩ := hP
    obtain ⟨s2, c5, c6, c7, c8, c9, e⟩ := bef_turn k hb hR hK s' (some x) v5 v6 v7 v8 v9
    exact ⟨_, _, _, rfl, e, s2, some x, c5, c6, c7, c8, c9, rfl, rfl⟩) [some (.ref b), some (ordD rows K), some (rnD rows), some (ckD rows K), none, none, none, none, none, none] (bS b s S) ⟨s, none, none, none, none, none, none, rfl, rfl⟩
  obtain ⟨s', c4, c5, c6, c7, c8, c9, rfl, rfl⟩ := hP
  refine ⟨s', ?_⟩
  have hr : rngD 0 (12 : Int) = some (rg 0 12) := rngD_len (n := 12) (by decide)
  unfold b__law_before_right
  rw [ex_go (E := [some (.ref b), some (ordD rows K), some (rnD rows), some (ckD rows K), c4, c5, c6, c7, c8, c9]) (U := bS b s' S) (by
    rw [exec]
    simp only [evalI, evalE, bnd_ok, Cst.d, hr, okO_some, bnS_ok]
    exact e)]
  simp only [execs, exec, evalE, Cst.d, bnS_ok, seqS_rt, outS_rt]
end
end Lk
namespace Lk
open PyProof.Rows L2 Ip
/-! ### the law k12 -/
theorem all_sum : ∀ {ss c : List Nat}, c ∈ allV ss → c.sum ≤ ss.sum
  | [], c, h => by
    rw [allV, List.mem_singleton] at h
    rw [h]; exact Nat.le_refl _
  | s :: ss, c, h => by
    rw [allV, List.mem_flatMap] at h
    obtain ⟨t, ht, hc⟩ := h
    obtain ⟨x, hx, rfl⟩ := List.mem_map.mp hc
    have hx := List.mem_range.mp hx
    have := all_sum ht
    rw [List.sum_cons, List.sum_cons]; omega
theorem sum_N (l : List Nat) (S : Sto) : biD .sum [.lst (l.map fun x : Nat => D.int x)] S = some (.int (l.sum : Nat)) := by
  have e : (l.map fun x : Nat => D.int x) = (l.map fun x : Nat => (x : Int)).map .int := by rw [List.map_map]; rfl
  rw [e, biD_sum]
  congr 2
  induction l with
  | nil => rfl
  | cons x l ih =>
    rw [List.map_cons, List.sum_cons, List.sum_cons, ih (by rw [List.map_map]; rfl)]; omega
theorem ix_pick {us : List Nat} {i : Int} (h0 : 0 ≤ i) (h : i < us.length) : ∃ p ∈ us, ∀ U, ixD U (.lst (intsN us)) (.int i) = some (.int (p : Int)) := by
  obtain ⟨j, rfl⟩ : ∃ j : Nat, i = (j : Int) := ⟨i.toNat, by omega⟩
  have hj : j < us.length := by omega
  refine ⟨us[j], List.getElem_mem hj, fun U => ?_⟩
  rw [ixD_lst, atI_nn]
  unfold intsN
  rw [List.getElem?_map, List.getElem?_eq_getElem hj]; rfl
def l12E (ns : List Int) (rows : Rn) (K : Clk) (sz : Nat) (v7 v8 v9 v10 v11 : Option D) : Ip.En := [some (.scr ns), some (.ref 0), some (rnD rows), some (ckD rows K), some (ordD rows K), some (.int sz), none, v7, v8, v9, v10, v11]
section
variable {rows : Rn} {K : Clk} {S : Sto} {ns : List Int}
theorem ups_end (hR : Rnn rows) (hK : IsClk rows K) {c : List Nat} (hc : IsCutV rows K c) (hs : c.sum = (sizesV rows).sum) : upsV rows K c = [] := by
  refine List.eq_nil_iff_forall_not_mem.mpr fun p hp => ?_
  have hpl := List.mem_range.mp (List.mem_filter.mp hp).1
  have hl := (mem_all.mp hc.1).1
  have := all_sum ((ups_iff hK hc hpl).mp hp).1
  rw [addV_sum (by omega)] at this
  omega
theorem whole_end (hR : Rnn rows) (hK : IsClk rows K) {c : List Nat} (hc : IsCutV rows K c) (hs : c.sum = (sizesV rows).sum) : c = sizesV rows := by
  refine Classical.byContradiction fun h => ?_
  exact ups_ne hR hK hc h (ups_end hR hK hc hs)
theorem l12_turn (k : Nat) {b : Nat} (hb : b < S.length) (hR : Rnn rows) (hK : IsClk rows K) (kk t : Nat) {c : List Nat} (hc : IsCutV rows K c) (s : Bs) (v11 : Option D) :
    ∃ s' c' c11, execs (C (k + 6)) T0 l_law_1 (l12E ns rows K (sizesV rows).sum (some (.int (kk : Int))) (some (.ref b)) (some (tupN c)) (some (.int (t : Int))) v11) (bS b s S) =
      some (.nx (l12E ns rows K (sizesV rows).sum (some (.int (kk : Int))) (some (.ref b)) (some (tupN c')) (some (.int (t : Int))) c11) (bS b s' S)) ∧ IsCutV rows K c' ∧ c'.sum = (if c.sum < (sizesV rows).sum then c.sum + 1 else c.sum) := by
  have h6 : rows.length ≤ 6 := hR.sh.1.2
  obtain ⟨hl, hle⟩ := mem_all.mp hc.1
  have cs := all_sum hc.1
  have m1 : ∀ U, binD .mod false (.int (t : Int)) (.int 8) U = some (.ok (.int ((t : Int) % 8)) U) := fun U => binD_mod (by decide)
  have m2 : ∀ U, binD .mod false (.int (kk : Int)) (.int 8) U = some (.ok (.int ((kk : Int) % 8)) U) := fun U => binD_mod (by decide)
  obtain ⟨s1, e1⟩ : ∃ s1, exec (C (k + 6)) T0 (.ifs (.and (.cmp .eq (.bin .mod false (.v 10) (.c (.int 8))) (.bin .mod false (.v 7) (.c (.int 8)))) (.not (.call i__law_cut_right false (.cons (.v 8) (.cons (.v 4) (.cons (.v 2) (.cons (.v 3) (.cons (.v 9) .nil)))))))) (.cons (.ret (.c (.bl false))) .nil) .nil) (l12E ns rows K (sizesV rows).sum (some (.int (kk : Int))) (some (.ref b)) (some (tupN c)) (some (.int (t : Int))) v11) (bS b s S) =
      some (.nx (l12E ns rows K (sizesV rows).sum (some (.int (kk : Int))) (some (.ref b)) (some (tupN c)) (some (.int (t : Int))) v11) (bS b s1 S)) := by
    by_cases h : (t : Int) % 8 = (kk : Int) % 8
    · obtain ⟨s1, cr⟩ := cut_right_ok (k + 3) hb hR hK hc s
      refine ⟨s1, ?_⟩
      have e : cmpD .eq (.int ((t : Int) % 8)) (.int ((kk : Int) % 8)) (bS b s S) = some true := by rw [cmpD_eq, eqD_int, decide_eq_true h]
      unfold l12E
      generalize ordD rows K = o at *
      simp only [exec, evalT, evalE, evalEs, List.getElem?_cons_succ, List.getElem?_cons_zero, bnd_ok, Cst.d, m1, m2, e, okO_some, callP_f, cr, truD_bl, Bool.not_true, bnS_ok, execs]
    · refine ⟨s, ?_⟩
      have e : cmpD .eq (.int ((t : Int) % 8)) (.int ((kk : Int) % 8)) (bS b s S) = some false := by rw [cmpD_eq, eqD_int, decide_eq_false h]
      unfold l12E
      simp only [exec, evalT, evalE, evalEs, List.getElem?_cons_succ, List.getElem?_cons_zero, bnd_ok, Cst.d, m1, m2, e, okO_some, bnS_ok, execs]
  have lu := fun U => law_up_c (S := U) (k + 4) hR hK hc
  have e2 : exec (C (k + 6)) T0 (.asg (.n 11) (.call i__law_up true (.cons (.v 2) (.cons (.v 3) (.cons (.v 9) .nil))))) (l12E ns rows K (sizesV rows).sum (some (.int (kk : Int))) (some (.ref b)) (some (tupN c)) (some (.int (t : Int))) v11) (bS b s1 S) =
      some (.nx (l12E ns rows K (sizesV rows).sum (some (.int (kk : Int))) (some (.ref b)) (some (tupN c)) (some (.int (t : Int))) (some (.lst (intsN (upsV rows K c))))) (bS b s1 S)) := by
    unfold l12E
    simp only [exec, evalE, evalEs, List.getElem?_cons_succ, List.getElem?_cons_zero, bnd_ok, lu, bnS_ok, asg_n, List.set_cons_succ, List.set_cons_zero]
  have lnu : ∀ U, biD .len [.lst (intsN (upsV rows K c))] U = some (.int ((upsV rows K c).length : Nat)) := fun U => by rw [biD_lenL]; unfold intsN; rw [List.length_map]
  by_cases h : c.sum < (sizesV rows).sum
  · rw [if_pos h]
    have ne := ups_ne hR hK hc (fun z => by rw [z] at h; omega)
    have pos : 0 < (upsV rows K c).length := List.length_pos_iff.mpr ne
    have ul := ups_len (rows := rows) (K := K) c
    have d1 := draw_ok (k + 5) b s1 S ((upsV rows K c).length : Nat) hb (by omega) (by omega)
    obtain ⟨p, hp, ip⟩ := ix_pick (us := upsV rows K c) (dr_low (m := ((upsV rows K c).length : Nat)) s1 (by omega)) (dr_top (m := ((upsV rows K c).length : Nat)) s1 (by omega))
    generalize dr ((upsV rows K c).length : Nat) s1 = z at d1 ip
    generalize nx ((upsV rows K c).length : Nat) s1 = s2 at d1
    have hpl := List.mem_range.mp (List.mem_filter.mp hp).1
    have f := fun U => om_added (rows := rows) (K := K) (S := U)
    have ad := fun U => added_c (rows := rows) (K := K) (S := U) (k + 5) (c := c) (p := p) (by omega) (by omega)
    refine ⟨s2, addV c p, some (.lst (intsN (upsV rows K c))), ?_, (ups_iff hK hc hpl).mp hp, addV_sum (by omega)⟩
    have pos' : (0 : Int) < ((upsV rows K c).length : Nat) := by omega
    unfold l_law_1
    rw [ex_go e1, ex_go e2]
    unfold l12E
    generalize ordD rows K = o at *
    generalize upsV rows K c = us at *
    simp only [execs, exec, evalT, evalE, evalEs, List.getElem?_cons_succ, List.getElem?_cons_zero, bnd_ok, Cst.d, lnu, okO_some, cmpD_gt, pos', decide_true, bnS_ok, f, if_true, callP_f, d1, ip, ad, asg_n, List.set_cons_succ, List.set_cons_zero, seqS_nx]
  · rw [if_neg h]
    have z := ups_end hR hK hc (by omega)
    refine ⟨s1, c, some (.lst (intsN (upsV rows K c))), ?_, hc, rfl⟩
    have pos' : ¬ (0 : Int) < ((upsV rows K c).length : Nat) := by rw [z]; decide
    unfold l_law_1
    rw [ex_go e1, ex_go e2]
    unfold l12E
    generalize ordD rows K = o at *
    generalize upsV rows K c = us at *
    simp only [execs, exec, evalT, evalE, evalEs, List.getElem?_cons_succ, List.getElem?_cons_zero, bnd_ok, Cst.d, lnu, okO_some, cmpD_gt, pos', decide_false, bnS_ok, seqS_nx]
theorem l12_turns (k : Nat) {b : Nat} (hb : b < S.length) (hR : Rnn rows) (hK : IsClk rows K) (kk : Nat) : ∀ (m t : Nat), t + m = (sizesV rows).sum + 1 → ∀ (c : List Nat), IsCutV rows K c → c.sum = min t (sizesV rows).sum → ∀ (s : Bs) (v10 v11 : Option D),
    ∃ s' c10 c11, forL (.n 10) (fun e S => execs (C (k + 6)) T0 l_law_1 e S) (rg (t : Int) m) (l12E ns rows K (sizesV rows).sum (some (.int (kk : Int))) (some (.ref b)) (some (tupN c)) v10 v11) (bS b s S) =
      some (.nx (l12E ns rows K (sizesV rows).sum (some (.int (kk : Int))) (some (.ref b)) (some (tupN (sizesV rows))) c10 c11) (bS b s' S))
  | 0, t, ht, c, hc, hs, s, v10, v11 => by
    rw [whole_end hR hK hc (by omega)]
    exact ⟨s, v10, v11, rfl⟩
  | m + 1, t, ht, c, hc, hs, s, v10, v11 => by
    obtain ⟨s1, c1, c11, e1, h1, h2⟩ := l12_turn (ns := ns) k hb hR hK kk t hc s v11
    obtain ⟨s2, d10, d11, e2⟩ := l12_turns k hb hR hK kk m (t + 1) (by omega) c1 h1 (by rw [h2]; split <;> omega) s1 (some (.int (t : Int))) c11
    refine ⟨s2, d10, d11, ?_⟩
    have as : asgT (.n 10) (.int (t : Int)) (l12E ns rows K (sizesV rows).sum (some (.int (kk : Int))) (some (.ref b)) (some (tupN c)) v10 v11) = some (l12E ns rows K (sizesV rows).sum (some (.int (kk : Int))) (some (.ref b)) (some (tupN c)) (some (.int (t : Int))) v11) := rfl
    rw [rg]
    rw [show ((t + 1 : Nat) : Int) = (t : Int) + 1 by omega] at e2
    simp only [forL, as, e1]
    exact e2
theorem l12_cell (k : Nat) (hR : Rnn rows) (hK : IsClk rows K) (hz : (sizesV rows).sum ≤ 1000) (kk : Nat) (S : Sto) (v8 v9 v10 v11 : Option D) :
    ∃ S' c8 c9 c10 c11, execs (C (k + 6)) T0 l_law_2 (l12E ns rows K (sizesV rows).sum (some (.int (kk : Int))) v8 v9 v10 v11) S = some (.nx (l12E ns rows K (sizesV rows).sum (some (.int (kk : Int))) c8 c9 c10 c11) S') := by
  have h6 : rows.length ≤ 6 := hR.sh.1.2
  obtain ⟨s0, eb⟩ := bag_ok (k + 5) ns kk S
  have hb : S.length < (S ++ [Ob.lst []]).length := by simp
  generalize S.length = b at eb hb
  generalize S ++ [Ob.lst []] = S1 at eb hb
  have f := fun U => om_empty (rows := rows) (K := K) (S := U)
  have em := fun U => empty_c (rows := rows) (K := K) (S := U) (k + 4) h6
  have zc : IsCutV rows K (zeroV rows.length) := (mem_lev.mp (by rw [lev_zero hR hK]; exact List.mem_cons_self ..) : _ ∧ (zeroV rows.length).sum = 0).1
  have zs : (zeroV rows.length).sum = 0 := by simp [zeroV]
  obtain ⟨s1, c10, c11, e1⟩ := l12_turns (S := S1) (ns := ns) k hb hR hK kk ((sizesV rows).sum + 1) 0 (by omega) (zeroV rows.length) zc (by rw [zs]; omega) s0 v10 v11
  have f2 := fun U => om_whole (rows := rows) (K := K) (S := U)
  have wh := fun U => whole_c (rows := rows) (K := K) (S := U) (k + 5) h6
  have nw : ∀ U, cmpD .ne (tupN (sizesV rows)) (tupN (sizesV rows)) U = some false := fun U => by
    show (eqD U _ _).map not = _
    rw [eqD_V, decide_eq_true rfl]; rfl
  obtain ⟨s2, br⟩ := before_right_ok (k + 4) hb hR hK s1
  have r2 : rngD 0 (((sizesV rows).sum : Nat) + 1 : Int) = some (rg 0 ((sizesV rows).sum + 1)) := by
    have := rngD_len (n := (sizesV rows).sum + 1) (by omega)
    have q : rngD 0 (((sizesV rows).sum : Nat) + 1 : Int) = rngD 0 (((sizesV rows).sum + 1 : Nat) : Int) := rfl
    rw [q, this]
  refine ⟨bS b s2 S1, some (.ref b), some (tupN (sizesV rows)), c10, c11, ?_⟩
  unfold l_law_2
  rw [ex_go (E := l12E ns rows K (sizesV rows).sum (some (.int (kk : Int))) (some (.ref b)) v9 v10 v11) (U := bS b s0 S1) (by
    unfold l12E
    simp only [exec, evalE, evalEs, List.getElem?_cons_succ, List.getElem?_cons_zero, bnd_ok, callP_f, eb, bnS_ok, asg_n, List.set_cons_succ, List.set_cons_zero])]
  rw [ex_go (E := l12E ns rows K (sizesV rows).sum (some (.int (kk : Int))) (some (.ref b)) (some (tupN (zeroV rows.length))) v10 v11) (U := bS b s0 S1) (by
    unfold l12E
    generalize ordD rows K = o at *
    simp only [exec, evalE, evalEs, List.getElem?_cons_succ, List.getElem?_cons_zero, bnd_ok, f, if_true, em, bnS_ok, asg_n, List.set_cons_succ, List.set_cons_zero])]
  rw [ex_go (E := l12E ns rows K (sizesV rows).sum (some (.int (kk : Int))) (some (.ref b)) (some (tupN (sizesV rows))) c10 c11) (U := bS b s1 S1) (by
    have g5 : ∀ v9 v10 v11, (l12E ns rows K (sizesV rows).sum (some (.int (kk : Int))) (some (.ref b)) v9 v10 v11)[5]? = some (some (.int ((sizesV rows).sum : Nat))) := fun _ _ _ => rfl
    rw [exec]
    simp only [evalI, evalE, g5, bnd_ok, Cst.d, binD_add, r2, okO_some, bnS_ok]
    exact e1)]
  rw [ex_go (E := l12E ns rows K (sizesV rows).sum (some (.int (kk : Int))) (some (.ref b)) (some (tupN (sizesV rows))) c10 c11) (U := bS b s2 S1) (by
    unfold l12E
    generalize ordD rows K = o at *
    simp only [exec, evalT, evalE, evalEs, List.getElem?_cons_succ, List.getElem?_cons_zero, bnd_ok, f2, if_true, wh, nw, okO_some, callP_f, br, truD_bl, Bool.not_true, bnS_ok, execs])]
  rw [execs]
theorem law_ok (k : Nat) (ns : List Int) (hl : ns.length ≤ 63) : ∃ S', C (k + 7) i_law [.scr ns] [] = some (.ok (.bl true) S') := by
  rw [c_law]
  obtain ⟨s, eb⟩ := bag_ok (k + 5) ns 0 []
  have b0 : ∀ t : Bs, bS ([] : Sto).length t ([] ++ [.lst []]) = [t.ob] := fun t => rfl
  rw [b0] at eb
  have x1 : exec (C (k + 6)) T0 (.asg (.n 1) (.call i__law_bag false (.cons (.v 0) (.cons (.c (.int 0)) .nil)))) [some (.scr ns), none, none, none, none, none, none, none, none, none, none, none] [] =
      some (.nx [some (.scr ns), some (.ref 0), none, none, none, none, none, none, none, none, none, none] [s.ob]) := by
    have eb : C (k + 6) i__law_bag [.scr ns, .int 0] [] = some (.ok (.ref 0) [s.ob]) := eb
    simp only [exec, evalE, evalEs, List.getElem?_cons_zero, bnd_ok, Cst.d, callP_f, eb, bnS_ok, asg_n, List.set_cons_succ, List.set_cons_zero]
  have d1 := draw_at (k + 5) (n := 0) (S := [s.ob]) (s := s) (m := 6) rfl (by decide) (by decide)
  have b1 : ∀ t u : Bs, bS 0 t [u.ob] = [t.ob] := fun t u => rfl
  rw [b1] at d1
  have w0 := dr_low (m := 6) s (by decide)
  have w1 := dr_top (m := 6) s (by decide)
  obtain ⟨n, hn⟩ : ∃ n : Nat, 1 + dr 6 s = n := ⟨(1 + dr 6 s).toNat, by omega⟩
  have a1 : ∀ U, binD .add false (.int 1) (.int (dr 6 s)) U = some (.ok (.int (n : Int)) U) := fun U => by rw [binD_add, hn]
  generalize nx 6 s = s1 at d1
  have d2 := draw_at (k + 5) (n := 0) (S := [s1.ob]) (s := s1) (m := 121) rfl (by decide) (by decide)
  rw [b1] at d2
  have w2 := dr_low (m := 121) s1 (by decide)
  have w3 := dr_top (m := 121) s1 (by decide)
  obtain ⟨M, hM⟩ : ∃ M : Nat, dr 121 s1 = M := ⟨(dr 121 s1).toNat, by omega⟩
  rw [hM] at d2
  generalize nx 121 s1 = s2 at d2
  obtain ⟨rows, K, S3, lg, rl, hR, hK⟩ := large_ok (k + 3) (n := n) (M := M) (by omega) (by omega) (by omega) s2
  have h6 : rows.length ≤ 6 := hR.sh.1.2
  have x2 : exec (C (k + 6)) T0 (.asg (.t (.cons (.n 2) (.cons (.n 3) .nil))) (.call i__law_large false (.cons (.v 1) (.cons (.bin .add false (.c (.int 1)) (.call i__law_draw false (.cons (.v 1) (.cons (.c (.int 6)) .nil)))) (.cons (.call i__law_draw false (.cons (.v 1) (.cons (.c (.int 121)) .nil))) .nil))))) [some (.scr ns), some (.ref 0), none, none, none, none, none, none, none, none, none, none] [s.ob] =
      some (.nx [some (.scr ns), some (.ref 0), some (rnD rows), some (ckD rows K), none, none, none, none, none, none, none, none] S3) := by
    have as : asgT (.t (.cons (.n 2) (.cons (.n 3) .nil))) (.tup [rnD rows, ckD rows K]) [some (.scr ns), some (.ref 0), none, none, none, none, none, none, none, none, none, none] = some [some (.scr ns), some (.ref 0), some (rnD rows), some (ckD rows K), none, none, none, none, none, none, none, none] := rfl
    simp only [exec, evalE, evalEs, List.getElem?_cons_succ, List.getElem?_cons_zero, bnd_ok, Cst.d, callP_f, d1, a1, d2, lg, bnS_ok, as]
  have od := fun U => order_ok k 0 (by decide) (rn_dat hR.sh) hR hK U
  have x3 : exec (C (k + 6)) T0 (.asg (.n 4) (.mk 0 i_Order___init__ false (.cons (.v 2) .nil))) [some (.scr ns), some (.ref 0), some (rnD rows), some (ckD rows K), none, none, none, none, none, none, none, none] S3 =
      some (.nx [some (.scr ns), some (.ref 0), some (rnD rows), some (ckD rows K), some (ordD rows K), none, none, none, none, none, none, none] S3) := by
    simp only [exec, evalE, evalEs, List.getElem?_cons_succ, List.getElem?_cons_zero, bnd_ok, od, bnS_ok, asg_n, List.set_cons_succ, List.set_cons_zero]
  have it : itD (rnD rows) = some (rows.map rowD) := rfl
  have lc2 : evalE (C (k + 6)) T0 k_law_2 [some (.scr ns), some (.ref 0), some (rnD rows), some (ckD rows K), some (ordD rows K), none, none, none, none, none, none, none] S3 = some (.ok (.lst ((sizesV rows).map fun x : Nat => D.int x)) S3) := by
    unfold k_law_2
    refine sizes_lc h6 ?_ fun r => ?_
    · simp only [evalI, evalE, List.getElem?_cons_succ, List.getElem?_cons_zero, bnd_ok, it, okO_some]
    · unfold e_law_2
      simp [rowD]
  have x4 : exec (C (k + 6)) T0 (.asg (.n 5) (.bi .sum (.cons k_law_2 .nil))) [some (.scr ns), some (.ref 0), some (rnD rows), some (ckD rows K), some (ordD rows K), none, none, none, none, none, none, none] S3 =
      some (.nx (l12E ns rows K (sizesV rows).sum none none none none none) S3) := by
    unfold l12E
    simp only [exec, evalE, evalEs, lc2, bnd_ok, sum_N, okO_some, bnS_ok, asg_n, List.set_cons_succ, List.set_cons_zero]
  have lc1 : evalE (C (k + 6)) T0 k_law_1 (l12E ns rows K (sizesV rows).sum none none none none none) S3 = some (.ok (.lst ((sizesV rows).map fun x : Nat => D.int x)) S3) := by
    unfold k_law_1
    refine sizes_lc h6 ?_ fun r => ?_
    · unfold l12E
      simp only [evalI, evalE, List.getElem?_cons_succ, List.getElem?_cons_zero, bnd_ok, it, okO_some]
    · unfold e_law_1 l12E
      simp [rowD]
  have f1 := fun U => om_count (rows := rows) (K := K) (S := U)
  have cc := fun U => count_c (rows := rows) (K := K) (S := U) (k + 5)
  have f2 := fun U => om_whole (rows := rows) (K := K) (S := U)
  have wh := fun U => whole_c (rows := rows) (K := K) (S := U) (k + 5) h6
  have ln : ∀ U, biD .len [rnD rows] U = some (.int (rows.length : Nat)) := fun U => by rw [rnD, biD_lenT, List.length_map]
  have nc : ∀ U, cmpD .ne (.int (rows.length : Nat)) (.int (rows.length : Nat)) U = some false := fun U => by simp
  have nw : ∀ U, cmpD .ne (tupN (sizesV rows)) (tupN (sizesV rows)) U = some false := fun U => by
    show (eqD U _ _).map not = _
    rw [eqD_V, decide_eq_true rfl]; rfl
  have tt : ∀ U, biD .tuple [.lst ((sizesV rows).map fun x : Nat => D.int x)] U = some (tupN (sizesV rows)) := fun U => rfl
  have x5 : exec (C (k + 6)) T0 (.ifs (.or (.cmp .ne (.mcl 0 i_Order_count "count" true (.v 4) .nil) (.bi .len (.cons (.v 2) .nil))) (.cmp .ne (.mcl 0 i_Order_whole "whole" true (.v 4) .nil) (.bi .tuple (.cons k_law_1 .nil)))) (.cons (.ret (.c (.bl false))) .nil) .nil) (l12E ns rows K (sizesV rows).sum none none none none none) S3 = some (.nx (l12E ns rows K (sizesV rows).sum none none none none none) S3) := by
    unfold l12E at lc1 ⊢
    generalize ordD rows K = o at *
    simp only [exec, evalT, evalE, evalEs, List.getElem?_cons_succ, List.getElem?_cons_zero, bnd_ok, f1, f2, if_true, cc, wh, ln, nc, lc1, tt, nw, okO_some, bnS_ok, execs]
  have hz : (sizesV rows).sum ≤ 1000 := by
    have key : ∀ l : List Nat, (∀ x ∈ l, x ≤ 30) → l.sum ≤ 30 * l.length := by
      intro l
      induction l with
      | nil => intro _; exact Nat.le_refl _
      | cons x l ih =>
        intro h
        have h1 := h x (List.mem_cons_self ..)
        have h2 := ih fun y hy => h y (List.mem_cons_of_mem _ hy)
        rw [List.sum_cons, List.length_cons]; omega
    have := key (sizesV rows) fun x hx => by
      obtain ⟨p, hp, e⟩ := List.getElem_of_mem hx
      have q := sizes_get rows p
      rw [getD_of hp, e] at q
      rw [q]; exact hR.small.2 p
    rw [sizes_len] at this
    omega
  have rr := fun U => rows_right_c (S := U) (k + 3) hR hK
  have mx := fun U => many_x (S := U) (k + 1) hR hK hz (Nat.le_refl _)
  have m0 := fun U => many_x (S := U) (k + 1) (most := 0) hR hK (by decide) (Nat.zero_le _)
  have n1 : ∀ U, cmpD .ne (.int (-1)) (.int (-1)) U = some false := fun U => by simp
  have q1 : ∀ U, cmpD .eq (.int (-1)) (.int (-1)) U = some true := fun U => by simp
  have x6 : exec (C (k + 6)) T0 (.ifs (.or (.not (.call i__law_rows_right true (.cons (.v 4) (.cons (.v 2) (.cons (.v 3) .nil))))) (.cmp .ne (.call i__law_many true (.cons (.v 4) (.cons (.v 5) .nil))) (.neg (.c (.int 1))))) (.cons (.ret (.c (.bl false))) .nil) .nil) (l12E ns rows K (sizesV rows).sum none none none none none) S3 = some (.nx (l12E ns rows K (sizesV rows).sum none none none none none) S3) := by
    unfold l12E
    generalize ordD rows K = o at *
    simp only [exec, evalT, evalE, evalEs, List.getElem?_cons_succ, List.getElem?_cons_zero, bnd_ok, Cst.d, rr, truD_bl, Bool.not_true, mx, n1, okO_some, bnS_ok, execs]
  -- the cells
  obtain ⟨m, hm, hm5⟩ : ∃ m : Nat, (if (if ((ns.length : Nat) : Int) < 5 then ((ns.length : Nat) : Int) else 5) > 1 then (if ((ns.length : Nat) : Int) < 5 then ((ns.length : Nat) : Int) else 5) else 1) = (m : Int) ∧ m ≤ 5 := by
    by_cases a1 : ((ns.length : Nat) : Int) < 5
    · rw [if_pos a1]
      by_cases a2 : ((ns.length : Nat) : Int) > 1
      · rw [if_pos a2]; exact ⟨ns.length, rfl, by omega⟩
      · rw [if_neg a2]; exact ⟨1, rfl, by omega⟩
    · rw [if_neg a1]; exact ⟨5, rfl, by omega⟩
  have hr : rngD 0 (m : Int) = some (intsN (List.range m)) := by rw [rngD_len (by omega), rg0]
  obtain ⟨env', S', e, hP⟩ := for_keep (g := .n 7) (b := fun e S => execs (C (k + 6)) T0 l_law_2 e S) (fun env U => ∃ v7 v8 v9 v10 v11, env = l12E ns rows K (sizesV rows).sum v7 v8 v9 v10 v11) (intsN (List.range m)) (fun x hx env U hP => by
    obtain ⟨v7, v8, v9, v10, v11, rfl⟩ := hP
    obtain ⟨j, _, rfl⟩ := List.mem_map.mp hx
    obtain ⟨S', c8, c9, c10, c11, e⟩ := l12_cell (ns := ns) k hR hK hz j U v8 v9 v10 v11
    exact ⟨_, _, S', rfl, e, some (.int (j : Int)), c8, c9, c10, c11, rfl⟩) (l12E ns rows K (sizesV rows).sum none none none none none) S3 ⟨none, none, none, none, none, rfl⟩
  obtain ⟨c7, c8, c9, c10, c11, rfl⟩ := hP
  have x7 : exec (C (k + 6)) T0 (.for (.n 7) (.rng1 (.bi .max (.cons (.c (.int 1)) (.cons (.bi .min (.cons (.c (.int 5)) (.cons (.bi .len (.cons (.v 0) .nil)) .nil))) .nil)))) l_law_2) (l12E ns rows K (sizesV rows).sum none none none none none) S3 = some (.nx (l12E ns rows K (sizesV rows).sum c7 c8 c9 c10 c11) S') := by
    have g0 : (l12E ns rows K (sizesV rows).sum none none none none none)[0]? = some (some (.scr ns)) := rfl
    rw [exec]
    simp only [evalI, evalE, evalEs, g0, bnd_ok, Cst.d, biD_lenC, okO_some, biD_min, biD_max, hm, hr, bnS_ok]
    exact e
  refine ⟨S', ?_⟩
  unfold b_law
  rw [ex_go x1, ex_go x2, ex_go x3, ex_go x4, ex_go x5, ex_go x6, ex_go x7]
  unfold l12E
  have m0 : ∀ U, callP (C (k + 6)) true i__law_many [ordD rows K, .int 0] U = some (.ok (.int (-1)) U) := m0
  generalize ordD rows K = o at *
  simp only [execs, exec, evalE, evalEs, List.getElem?_cons_succ, List.getElem?_cons_zero, bnd_ok, Cst.d, m0, q1, Option.map_some, okO_some, bnS_ok, seqS_rt, outS_rt]
end
end Lk
theorem PySem.Challenge.cw_cutpapers_k12_large_runs_holds : PySem.Challenge.rw_cutpapers_k12_large_runs.Holds := by
  exact Lk.holds_of (k := 7) (by decide) fun ns hl _ => Lk.law_ok 0 ns hl
