import PyProof.Rows.All
import Wide.All
import OpenK.AllK
import Wide.FinOn
import HandS.ForMost
import HandS.Exc
import HandS.TryOnly
import HandS.ExcOwn
import HandS.WordsExc
import HandS.TupAny
import HandS.ExcIs
import HandS.StrMore
import HandS.Replace
import HandS.SortInts
import HandS.Conv
import KE.SortData
import HandS.SetKeys
import HandS.Style
import PyProof.SetRoads
import PyProof.Rows.SetFrom
import HandS.TupMul
import HandS.TupLe
import HandS.Deep
import HandS.IsInst
import HandS.More
import HandS.Iter
import KE.GoesMore
import PyProof.EnumMake
import HandS.CallSlots
import HandS.HeadEnd
import HandS.HeadHook1
import HandS.HeadHook2
import HandS.EndBits
import HandS.Head0
import HandS.Head1
import HandS.Head2
import KE.KStateDown
import PySem.Challenge.RW_cutpapers_k51_whole_any_order
set_option Elab.async false
set_option linter.all false
set_option maxRecDepth 100000
set_option maxHeartbeats 0
/-! ## Values without addresses, a store of what may change, and how both lie in the heap -/
namespace Ip
open PySem PySem.Spec PyProof.Rows L2

/-- a value; scr: the script (read, never written); lst, dct, obj: things that are never changed any more; ref: a thing of the store -/
inductive D where
  | non | bl (b : Bool) | int (i : Int) | str (x : Str)
  | tup (xs : List D) | lst (xs : List D) | scr (ns : List Int)
  | dct (t : Nat) (ks vs : List D)
  | obj (c : Nat) (ns : List Str) (vs : List D)
  | ref (n : Nat) | fn (i : Nat)
inductive Ob where
  | lst (xs : List D) | dct (t : Nat) (ks vs : List D) | ins (c : Nat) (ns : List Str) (vs : List D) | lck (t : Nat) (ks vs : List D) | dead
abbrev Sto := List Ob
abbrev En := List (Option D)
inductive Ro (α : Type) where
  | ok (a : α) (S : Sto) | ex (c : Nat) (S : Sto)
/-- addresses of the own classes, of the own exceptions' classes -/
structure Am where
  cls : Nat → Addr
  exc : Nat → Addr
  fn : Nat → Addr
abbrev Mu := Nat → Option Addr

def kD : Key → D
  | .inl i => .int i
  | .inr x => .str x

mutual
inductive RD (K : PySem.W.Frag) (M : Am) (G : Hp) (μ : Mu) : D → V → Prop
  | non : RD K M G μ .non .non
  | bl (b : Bool) : RD K M G μ (.bl b) (.bl b)
  | int (i : Int) : RD K M G μ (.int i) (.int i)
  | str (x : Str) : RD K M G μ (.str x) (.str x)
  | tup {a : Addr} {xs : List D} {ys : List V} : G a = some (.tup ys) → RDs K M G μ xs ys → RD K M G μ (.tup xs) (.ref a)
  | lst {a : Addr} {xs : List D} {ys : List V} : G a = some (.lst ys) → RDs K M G μ xs ys → RD K M G μ (.lst xs) (.ref a)
  | scr {a : Addr} {ns : List Int} : SqL K G a (ns.map V.int) → RD K M G μ (.scr ns) (.ref a)
  | dK {a : Addr} {kk : List Key} {ks vs : List D} {ys : List V} : ks = kk.map kD → kk.length = ys.length → RDs K M G μ vs ys → G a = some (.dK (kk.zip ys)) → RD K M G μ (.dct 0 ks vs) (.ref a)
  | dT {a : Addr} {kk : List (List Key)} {ks vs : List D} {ys : List V} : ks = kk.map (fun k => .tup (k.map kD)) → kk.length = ys.length → RDs K M G μ vs ys → G a = some (.dT (kk.zip ys)) → RD K M G μ (.dct 1 ks vs) (.ref a)
  | obj {a dx : Addr} {c : Nat} {ns : List Str} {vs : List D} {ys : List V} : ns.length = ys.length → RDs K M G μ vs ys → G a = some (.ins (M.cls c) dx (ns.zip ys)) → RD K M G μ (.obj c ns vs) (.ref a)
  | ref {n : Nat} {a : Addr} : μ n = some a → RD K M G μ (.ref n) (.ref a)
  | fn (i : Nat) : RD K M G μ (.fn i) (.ref (M.fn i))
inductive RDs (K : PySem.W.Frag) (M : Am) (G : Hp) (μ : Mu) : List D → List V → Prop
  | nil : RDs K M G μ [] []
  | cons {d : D} {ds : List D} {v : V} {vs : List V} : RD K M G μ d v → RDs K M G μ ds vs → RDs K M G μ (d :: ds) (v :: vs)
end

/-- what grows: the things that stand still (not where the frame Φ lies), the store's places -/
structure Gr (Φ G : Hp) (μ : Mu) (G' : Hp) (μ' : Mu) : Prop where
  g : ∀ a u, G a = some u → G' a = some u
  n : ∀ a, Φ a ≠ none → G' a ≠ none → G a ≠ none
  m : ∀ n a, μ n = some a → μ' n = some a
theorem Gr.refl {Φ G : Hp} {μ : Mu} : Gr Φ G μ G μ := ⟨fun _ _ h => h, fun _ _ h => h, fun _ _ h => h⟩
theorem Gr.trans {Φ G G1 G2 : Hp} {μ μ1 μ2 : Mu} (a : Gr Φ G μ G1 μ1) (b : Gr Φ G1 μ1 G2 μ2) : Gr Φ G μ G2 μ2 :=
  ⟨fun x u h => b.g x u (a.g x u h), fun x h1 h2 => a.n x h1 (b.n x h1 h2), fun n x h => b.m n x (a.m n x h)⟩

theorem SqL.grow {K : PySem.W.Frag} {G G' : Hp} {a : Addr} {xs : List V} (h : SqL K G a xs) (g : ∀ a u, G a = some u → G' a = some u) : SqL K G' a xs := by
  rcases h with h | h
  · rcases h with h | ⟨o, h⟩
    · exact .inl (.inl (g _ _ h))
    · exact .inl (.inr ⟨o, g _ _ h⟩)
  · exact .inr h
section
variable {K : PySem.W.Frag} {M : Am} {G G' : Hp} {μ μ' : Mu}
mutual
theorem RD.grow (g : ∀ a u, G a = some u → G' a = some u) (m : ∀ n a, μ n = some a → μ' n = some a) : ∀ (d : D) (v : V), RD K M G μ d v → RD K M G' μ' d v
  | .non, _, .non => .non
  | .bl b, _, .bl _ => .bl b
  | .int i, _, .int _ => .int i
  | .str x, _, .str _ => .str x
  | .tup xs, _, .tup h r => .tup (g _ _ h) (RDs.grow g m xs _ r)
  | .lst xs, _, .lst h r => .lst (g _ _ h) (RDs.grow g m xs _ r)
  | .scr ns, _, .scr h => .scr (SqL.grow h g)
  | .dct _ ks vs, _, .dK e l r h => .dK e l (RDs.grow g m vs _ r) (g _ _ h)
  | .dct _ ks vs, _, .dT e l r h => .dT e l (RDs.grow g m vs _ r) (g _ _ h)
  | .obj c ns vs, _, .obj l r h => .obj l (RDs.grow g m vs _ r) (g _ _ h)
  | .ref n, _, .ref h => .ref (m _ _ h)
  | .fn i, _, .fn _ => .fn i
theorem RDs.grow (g : ∀ a u, G a = some u → G' a = some u) (m : ∀ n a, μ n = some a → μ' n = some a) : ∀ (ds : List D) (vs : List V), RDs K M G μ ds vs → RDs K M G' μ' ds vs
  | [], _, .nil => .nil
  | d :: ds, _, .cons h r => .cons (RD.grow g m d _ h) (RDs.grow g m ds _ r)
end
theorem RDs.length : ∀ {ds : List D} {vs : List V}, RDs K M G μ ds vs → ds.length = vs.length
  | _, _, .nil => rfl
  | _, _, .cons _ r => by rw [List.length_cons, List.length_cons, RDs.length r]
theorem RDs.get : ∀ {ds : List D} {vs : List V} {i : Nat} {d : D}, RDs K M G μ ds vs → ds[i]? = some d → ∃ v, vs[i]? = some v ∧ RD K M G μ d v
  | _, _, _, _, .nil, e => by simp at e
  | _, _, 0, _, .cons h _, e => by simp at e; subst e; exact ⟨_, rfl, h⟩
  | _, _, i + 1, d, .cons _ r, e => by
    obtain ⟨v, h1, h2⟩ := RDs.get (i := i) (d := d) r (by simpa using e)
    exact ⟨v, by simpa using h1, h2⟩
theorem RDs.getV : ∀ {ds : List D} {vs : List V} {i : Nat} {v : V}, RDs K M G μ ds vs → vs[i]? = some v → ∃ d, ds[i]? = some d ∧ RD K M G μ d v
  | _, _, _, _, .nil, e => by simp at e
  | _, _, 0, _, .cons h _, e => by simp at e; subst e; exact ⟨_, rfl, h⟩
  | _, _, i + 1, d, .cons _ r, e => by
    obtain ⟨v, h1, h2⟩ := RDs.getV (i := i) r (by simpa using e)
    exact ⟨v, by simpa using h1, h2⟩
theorem RDs.append : ∀ {ds es : List D} {vs us : List V}, RDs K M G μ ds vs → RDs K M G μ es us → RDs K M G μ (ds ++ es) (vs ++ us)
  | _, _, _, _, .nil, s => s
  | _, _, _, _, .cons h r, s => .cons h (RDs.append r s)
theorem RDs.set {d : D} {v : V} (h : RD K M G μ d v) : ∀ {ds : List D} {vs : List V} (i : Nat), RDs K M G μ ds vs → RDs K M G μ (ds.set i d) (vs.set i v)
  | _, _, _, .nil => .nil
  | _, _, 0, .cons _ r => .cons h r
  | _, _, i + 1, .cons q r => .cons q (RDs.set h i r)
theorem RDs.take : ∀ {ds : List D} {vs : List V} (n : Nat), RDs K M G μ ds vs → RDs K M G μ (ds.take n) (vs.take n)
  | _, _, 0, _ => .nil
  | _, _, _ + 1, .nil => .nil
  | _, _, n + 1, .cons h r => .cons h (RDs.take n r)
theorem RDs.drop : ∀ {ds : List D} {vs : List V} (n : Nat), RDs K M G μ ds vs → RDs K M G μ (ds.drop n) (vs.drop n)
  | _, _, 0, r => r
  | _, _, _ + 1, .nil => .nil
  | _, _, n + 1, .cons _ r => RDs.drop n r
theorem RDs.eraseIdx : ∀ {ds : List D} {vs : List V} (n : Nat), RDs K M G μ ds vs → RDs K M G μ (ds.eraseIdx n) (vs.eraseIdx n)
  | _, _, _, .nil => .nil
  | _, _, 0, .cons _ r => r
  | _, _, n + 1, .cons h r => .cons h (RDs.eraseIdx n r)
theorem RDs.dropLast : ∀ {ds : List D} {vs : List V}, RDs K M G μ ds vs → RDs K M G μ ds.dropLast vs.dropLast := fun {ds vs} r => by
  rw [List.dropLast_eq_take, List.dropLast_eq_take, r.length]
  exact r.take _
theorem RDs.reverse : ∀ {ds : List D} {vs : List V}, RDs K M G μ ds vs → RDs K M G μ ds.reverse vs.reverse
  | _, _, .nil => .nil
  | _, _, .cons h r => by
    rw [List.reverse_cons, List.reverse_cons]
    exact (RDs.reverse r).append (.cons h .nil)
theorem RDs.replicate {ds : List D} {vs : List V} (r : RDs K M G μ ds vs) : ∀ n : Nat, RDs K M G μ (List.replicate n ds).flatten (List.replicate n vs).flatten
  | 0 => .nil
  | n + 1 => by
    rw [List.replicate_succ, List.replicate_succ, List.flatten_cons, List.flatten_cons]
    exact r.append (RDs.replicate r n)
theorem RDs.ints : ∀ ns : List Int, RDs K M G μ (ns.map D.int) (ns.map V.int)
  | [] => .nil
  | n :: ns => .cons (.int n) (RDs.ints ns)
theorem RDs.of_ints : ∀ {ns : List Int} {vs : List V}, RDs K M G μ (ns.map D.int) vs → vs = ns.map V.int
  | [], _, .nil => rfl
  | n :: ns, _, .cons h r => by cases h; rw [List.map_cons, RDs.of_ints r]
theorem RDs.of_strs : ∀ {ns : List Str} {vs : List V}, RDs K M G μ (ns.map D.str) vs → vs = ns.map V.str
  | [], _, .nil => rfl
  | n :: ns, _, .cons h r => by cases h; rw [List.map_cons, RDs.of_strs r]
theorem RDs.of_bls : ∀ {ns : List Bool} {vs : List V}, RDs K M G μ (ns.map D.bl) vs → vs = ns.map V.bl
  | [], _, .nil => rfl
  | n :: ns, _, .cons h r => by cases h; rw [List.map_cons, RDs.of_bls r]
end

/-! ### the store in the heap -/
/-- what stands still may be locked, if it is a dict -/
def Lk (H : Hp) (a : Addr) (u : HO) : Prop := H a = some u ∨ ((∃ k, u = .dK k) ∨ ∃ k, u = .dT k) ∧ ∃ o, H a = some (.frz o u)
def OR (K : PySem.W.Frag) (M : Am) (G : Hp) (μ : Mu) (H : Hp) : Ob → Addr → Prop
  | .lst xs, a => ∃ ys, H a = some (.lst ys) ∧ RDs K M G μ xs ys
  | .dct t ks vs, a => (t = 0 ∧ ∃ (kk : List Key) (ys : List V), ks = kk.map kD ∧ kk.length = ys.length ∧ RDs K M G μ vs ys ∧ H a = some (.dK (kk.zip ys))) ∨
      t = 1 ∧ ∃ (kk : List (List Key)) (ys : List V), ks = kk.map (fun k => .tup (k.map kD)) ∧ kk.length = ys.length ∧ RDs K M G μ vs ys ∧ H a = some (.dT (kk.zip ys))
  | .ins c ns vs, a => ∃ dx ys, ns.length = ys.length ∧ RDs K M G μ vs ys ∧ H a = some (.ins (M.cls c) dx (ns.zip ys))
  | .lck t ks vs, a => (t = 0 ∧ ∃ (kk : List Key) (ys : List V), ks = kk.map kD ∧ kk.length = ys.length ∧ RDs K M G μ vs ys ∧ ∃ o, H a = some (.frz o (.dK (kk.zip ys)))) ∨
      t = 1 ∧ ∃ (kk : List (List Key)) (ys : List V), ks = kk.map (fun k => .tup (k.map kD)) ∧ kk.length = ys.length ∧ RDs K M G μ vs ys ∧ ∃ o, H a = some (.frz o (.dT (kk.zip ys)))
  | .dead, _ => True
structure Rel (K : PySem.W.Frag) (M : Am) (G Φ : Hp) (μ : Mu) (S : Sto) (H : Hp) : Prop where
  g : ∀ a u, G a = some u → Lk H a u
  f : ∀ a o, Φ a = some o → H a = some o
  s : ∀ n ob, S[n]? = some ob → ∃ a, μ n = some a ∧ OR K M G μ H ob a
  gm : ∀ n a ob, S[n]? = some ob → ob ≠ .dead → μ n = some a → G a = none ∧ ((∀ t ks vs, ob ≠ .lck t ks vs) → Φ a = none)
  inj : ∀ m n a, μ m = some a → μ n = some a → m = n
  ub : ∀ n a, μ n = some a → n < S.length
  th : ∀ n a, μ n = some a → H a ≠ none
  fm : ∀ n a, μ n = some a → G a = none → Φ a = none ∨ ∃ q u, Φ a = some (.frz q u)
  ft : ∀ a xs, Φ a ≠ some (.tup xs)
  fg : ∀ a o, Φ a = some o → G a ≠ none → ∃ q u, o = .frz q u
  dg : ∀ n a, S[n]? = some .dead → μ n = some a → G a ≠ none
def OpR1 (K : PySem.W.Frag) (M : Am) (G : Hp) (μ : Mu) : Option D → Option V → Prop
  | some d, some v => RD K M G μ d v
  | some _, none => False
  | none, _ => True
structure EnR (K : PySem.W.Frag) (M : Am) (G : Hp) (μ : Mu) (env : En) (σ : L2.St) : Prop where
  len : env.length = σ.length
  at_ : ∀ (i : Nat) (d : D), env[i]? = some (some d) → ∃ v, σ[i]? = some (some v) ∧ RD K M G μ d v
section
variable {K : PySem.W.Frag} {M : Am} {G G' Φ : Hp} {μ μ' : Mu} {env : En} {σ : L2.St}
theorem EnR.grow (e : EnR K M G μ env σ) (g : Gr Φ G μ G' μ') : EnR K M G' μ' env σ :=
  ⟨e.len, fun i d h => by obtain ⟨v, h1, h2⟩ := e.at_ i d h; exact ⟨v, h1, RD.grow g.g g.m _ _ h2⟩⟩
theorem EnR.set {i : Nat} {d : D} {v : V} (e : EnR K M G μ env σ) (h : RD K M G μ d v) : EnR K M G μ (env.set i (some d)) (σ.set i (some v)) := by
  refine ⟨by rw [List.length_set, List.length_set, e.len], fun j d' hj => ?_⟩
  by_cases hij : i = j
  · subst hij
    by_cases hl : i < env.length
    · rw [List.getElem?_set_self hl] at hj
      cases hj
      exact ⟨v, List.getElem?_set_self (e.len ▸ hl), h⟩
    · rw [List.getElem?_eq_none (by simpa using hl)] at hj
      cases hj
  · rw [List.getElem?_set_ne hij] at hj
    rw [List.getElem?_set_ne hij]
    exact e.at_ j d' hj
theorem EnR.unset {i : Nat} (e : EnR K M G μ env σ) : EnR K M G μ (env.set i none) (σ.set i none) := by
  refine ⟨by rw [List.length_set, List.length_set, e.len], fun j d' hj => ?_⟩
  by_cases hij : i = j
  · subst hij
    by_cases hl : i < env.length
    · rw [List.getElem?_set_self hl] at hj
      cases hj
    · rw [List.getElem?_eq_none (by simpa using hl)] at hj
      cases hj
  · rw [List.getElem?_set_ne hij] at hj
    rw [List.getElem?_set_ne hij]
    exact e.at_ j d' hj
theorem EnR.forget {i : Nat} (e : EnR K M G μ env σ) : EnR K M G μ (env.set i none) σ := by
  refine ⟨by rw [List.length_set, e.len], fun j d' hj => ?_⟩
  by_cases hij : i = j
  · subst hij
    by_cases hl : i < env.length
    · rw [List.getElem?_set_self hl] at hj
      cases hj
    · rw [List.getElem?_eq_none (by simpa using hl)] at hj
      cases hj
  · rw [List.getElem?_set_ne hij] at hj
    exact e.at_ j d' hj
end

/-! ### what changes -/
section
variable {K : PySem.W.Frag} {M : Am} {G G' Φ : Hp} {μ μ' : Mu} {S : Sto} {H H' : Hp}
theorem Lk.upd {a p : Addr} {u o : HO} (h : Lk H a u) (hp : a ≠ p) : Lk (upd H p o) a u := by
  rcases h with h | ⟨q, ob, h⟩
  · exact .inl (by rw [upd_ne hp]; exact h)
  · exact .inr ⟨q, ob, by rw [upd_ne hp]; exact h⟩
theorem Lk.some_ {a : Addr} {u : HO} (h : Lk H a u) : H a ≠ none := by
  rcases h with h | ⟨_, o, h⟩ <;> rw [h] <;> exact fun z => nomatch z
theorem Lk.tup {a : Addr} {xs : List V} (h : Lk H a (.tup xs)) : H a = some (.tup xs) := by
  rcases h with h | ⟨h | h, _⟩
  · exact h
  · obtain ⟨_, h⟩ := h; cases h
  · obtain ⟨_, h⟩ := h; cases h
theorem Lk.lst {a : Addr} {xs : List V} (h : Lk H a (.lst xs)) : H a = some (.lst xs) := by
  rcases h with h | ⟨h | h, _⟩
  · exact h
  · obtain ⟨_, h⟩ := h; cases h
  · obtain ⟨_, h⟩ := h; cases h
theorem Lk.ins {a C dx : Addr} {fs : List (Str × V)} (h : Lk H a (.ins C dx fs)) : H a = some (.ins C dx fs) := by
  rcases h with h | ⟨h | h, _⟩
  · exact h
  · obtain ⟨_, h⟩ := h; cases h
  · obtain ⟨_, h⟩ := h; cases h
theorem Lk.frz {a : Addr} {o : Obj} {u : HO} (h : Lk H a (.frz o u)) : H a = some (.frz o u) := by
  rcases h with h | ⟨h | h, _⟩
  · exact h
  · obtain ⟨_, h⟩ := h; cases h
  · obtain ⟨_, h⟩ := h; cases h
theorem Lk.rd {a : Addr} {u : HO} (h : Lk H a u) : Rd H a u := by
  rcases h with h | ⟨_, o, h⟩
  · exact .inl h
  · exact .inr ⟨o, h⟩
theorem OR.grow {ob : Ob} {a : Addr} (h : OR K M G μ H ob a) (g : ∀ a u, G a = some u → G' a = some u) (m : ∀ n a, μ n = some a → μ' n = some a) : OR K M G' μ' H ob a := by
  cases ob with
  | lst xs => obtain ⟨ys, h1, h2⟩ := h; exact ⟨ys, h1, RDs.grow g m _ _ h2⟩
  | dct t ks vs =>
    rcases h with ⟨t0, kk, ys, e, l, r, h⟩ | ⟨t0, kk, ys, e, l, r, h⟩
    · exact .inl ⟨t0, kk, ys, e, l, RDs.grow g m _ _ r, h⟩
    · exact .inr ⟨t0, kk, ys, e, l, RDs.grow g m _ _ r, h⟩
  | ins c ns vs => obtain ⟨dx, ys, l, r, h⟩ := h; exact ⟨dx, ys, l, RDs.grow g m _ _ r, h⟩
  | lck t ks vs =>
    rcases h with ⟨t0, kk, ys, e, l, r, h⟩ | ⟨t0, kk, ys, e, l, r, h⟩
    · exact .inl ⟨t0, kk, ys, e, l, RDs.grow g m _ _ r, h⟩
    · exact .inr ⟨t0, kk, ys, e, l, RDs.grow g m _ _ r, h⟩
  | dead => trivial
theorem OR.heap {ob : Ob} {a : Addr} (h : OR K M G μ H ob a) (e : H' a = H a) : OR K M G μ H' ob a := by
  cases ob with
  | lst xs => obtain ⟨ys, h1, h2⟩ := h; exact ⟨ys, e.trans h1, h2⟩
  | dct t ks vs =>
    rcases h with ⟨t0, kk, ys, e1, l, r, h⟩ | ⟨t0, kk, ys, e1, l, r, h⟩
    · exact .inl ⟨t0, kk, ys, e1, l, r, e.trans h⟩
    · exact .inr ⟨t0, kk, ys, e1, l, r, e.trans h⟩
  | ins c ns vs => obtain ⟨dx, ys, l, r, h⟩ := h; exact ⟨dx, ys, l, r, e.trans h⟩
  | lck t ks vs =>
    rcases h with ⟨t0, kk, ys, e1, l, r, o, h⟩ | ⟨t0, kk, ys, e1, l, r, o, h⟩
    · exact .inl ⟨t0, kk, ys, e1, l, r, o, e.trans h⟩
    · exact .inr ⟨t0, kk, ys, e1, l, r, o, e.trans h⟩
  | dead => trivial
theorem OR.there {ob : Ob} {a : Addr} (h : OR K M G μ H ob a) (hd : ob ≠ .dead) : H a ≠ none := by
  cases ob with
  | lst xs => obtain ⟨ys, h1, h2⟩ := h; rw [h1]; exact fun z => nomatch z
  | dct t ks vs =>
    rcases h with ⟨_, kk, ys, e1, l, r, h⟩ | ⟨_, kk, ys, e1, l, r, h⟩ <;> rw [h] <;> exact fun z => nomatch z
  | ins c ns vs => obtain ⟨dx, ys, l, r, h⟩ := h; rw [h]; exact fun z => nomatch z
  | lck t ks vs =>
    rcases h with ⟨_, kk, ys, e1, l, r, o, h⟩ | ⟨_, kk, ys, e1, l, r, o, h⟩ <;> rw [h] <;> exact fun z => nomatch z
  | dead => exact absurd rfl hd
theorem Rel.gnew {p : Addr} (r : Rel K M G Φ μ S H) (hp : H p = none) : G p = none := by
  cases e : G p with
  | none => rfl
  | some u => exact absurd hp (r.g p u e).some_
theorem Rel.fnew {p : Addr} (r : Rel K M G Φ μ S H) (hp : H p = none) : Φ p = none := by
  cases e : Φ p with
  | none => rfl
  | some u => rw [r.f p u e] at hp; cases hp
/-- a new thing at p that stands still -/
theorem Rel.still {p : Addr} {u : HO} (r : Rel K M G Φ μ S H) (hp : H p = none) : Rel K M (upd G p u) Φ μ S (upd H p u) ∧ Gr Φ G μ (upd G p u) μ := by
  have hg := r.gnew hp
  have hf := r.fnew hp
  have gg : ∀ a w, G a = some w → upd G p u a = some w := fun a w e => by
    rw [upd_ne (fun z => by rw [z, hg] at e; cases e)]; exact e
  refine ⟨⟨fun a w e => ?_, fun a o e => ?_, fun n ob e => ?_, fun n a ob e hd em => ?_, r.inj, r.ub, fun n a em => ?_, fun n a em hg' => r.fm n a em (by
    by_cases ha : a = p
    · subst ha; exact hg
    · rw [upd_ne ha] at hg'; exact hg'), r.ft, fun a o e hg' => r.fg a o e (by
    by_cases ha : a = p
    · subst ha; rw [hf] at e; cases e
    · rw [upd_ne ha] at hg'; exact hg'), fun n a e em => by
    by_cases ha : a = p
    · subst ha; rw [upd_same]; exact fun z => nomatch z
    · rw [upd_ne ha]; exact r.dg n a e em⟩, gg, fun a h1 h2 => ?_, fun _ _ h => h⟩
  · by_cases ha : a = p
    · subst ha; rw [upd_same] at e; cases e; exact .inl upd_same
    · rw [upd_ne ha] at e; exact (r.g a w e).upd ha
  · rw [upd_ne (fun z => by rw [z, hf] at e; cases e)]; exact r.f a o e
  · obtain ⟨a, em, h⟩ := r.s n ob e
    refine ⟨a, em, ?_⟩
    by_cases hd : ob = .dead
    · subst hd; trivial
    · have ha : a ≠ p := fun z => h.there hd (by rw [z]; exact hp)
      exact (h.grow gg (fun _ _ h => h)).heap (upd_ne ha)
  · obtain ⟨h1, h2⟩ := r.gm n a ob e hd em
    obtain ⟨a', em', h⟩ := r.s n ob e
    rw [em] at em'; cases em'
    have ha : a ≠ p := fun z => h.there hd (by rw [z]; exact hp)
    exact ⟨by rw [upd_ne ha]; exact h1, h2⟩
  · rw [upd_ne (fun z => r.th n a em (by rw [z]; exact hp))]; exact r.th n a em
  · by_cases ha : a = p
    · subst ha; exact absurd hf h1
    · rw [upd_ne ha] at h2; exact h2
def muAdd (μ : Mu) (n : Nat) (p : Addr) : Mu := fun m => if m = n then some p else μ m
/-- a new thing at p that may change: the store's next -/
theorem Rel.fresh {p : Addr} {u : HO} {ob : Ob} (r : Rel K M G Φ μ S H) (hp : H p = none) (ho : OR K M G (muAdd μ S.length p) (upd H p u) ob p) (hnd : ob ≠ .dead := by exact fun z => nomatch z) : Rel K M G Φ (muAdd μ S.length p) (S ++ [ob]) (upd H p u) ∧ Gr Φ G μ G (muAdd μ S.length p) := by
  have hg := r.gnew hp
  have hf := r.fnew hp
  have hm : ∀ n, μ n ≠ some p := fun n e => r.th n p e hp
  have mm : ∀ n a, μ n = some a → muAdd μ S.length p n = some a := fun n a e => by
    unfold muAdd
    rw [if_neg (fun z => by have := r.ub n a e; omega)]
    exact e
  have mn : muAdd μ S.length p S.length = some p := by unfold muAdd; rw [if_pos rfl]
  have mo : ∀ n, n ≠ S.length → muAdd μ S.length p n = μ n := fun n h => by unfold muAdd; rw [if_neg h]
  refine ⟨⟨fun a w e => (r.g a w e).upd (fun z => by rw [z, hg] at e; cases e), fun a o e => ?_, fun n o e => ?_, fun n a o e hd em => ?_, fun m n a h1 h2 => ?_, fun n a e => ?_, fun n a e => ?_, fun n a e hg' => ?_, r.ft, r.fg, fun n a e em => by
    by_cases hn : n = S.length
    · subst hn
      rw [List.getElem?_append_right (Nat.le_refl _), Nat.sub_self] at e
      exact absurd (Option.some.inj e) hnd
    · have hl : n < S.length := by
        have := (List.getElem?_eq_some_iff.mp e).1
        rw [List.length_append, List.length_singleton] at this
        omega
      rw [List.getElem?_append_left hl] at e
      rw [mo n hn] at em
      exact r.dg n a e em⟩, fun _ _ h => h, fun _ _ h => h, mm⟩
  · rw [upd_ne (fun z => by rw [z, hf] at e; cases e)]; exact r.f a o e
  · by_cases hn : n = S.length
    · subst hn
      rw [List.getElem?_append_right (Nat.le_refl _), Nat.sub_self] at e
      cases e
      exact ⟨p, mn, ho⟩
    · have hl : n < S.length := by
        have := (List.getElem?_eq_some_iff.mp e).1
        rw [List.length_append, List.length_singleton] at this
        omega
      rw [List.getElem?_append_left hl] at e
      obtain ⟨a, em, h⟩ := r.s n o e
      refine ⟨a, mm _ _ em, ?_⟩
      have ha : a ≠ p := fun z => hm n (by rw [em, z])
      exact (h.grow (fun _ _ h => h) mm).heap (upd_ne ha)
  · by_cases hn : n = S.length
    · subst hn
      rw [mn] at em; cases em
      exact ⟨hg, fun _ => hf⟩
    · have hl : n < S.length := by
        have := (List.getElem?_eq_some_iff.mp e).1
        rw [List.length_append, List.length_singleton] at this
        omega
      rw [List.getElem?_append_left hl] at e
      rw [mo n hn] at em
      exact r.gm n a o e hd em
  · by_cases h : m = S.length <;> by_cases h' : n = S.length
    · rw [h, h']
    · rw [h, mn] at h1; rw [mo n h'] at h2; cases h1; exact absurd h2 (hm n)
    · rw [h', mn] at h2; rw [mo m h] at h1; cases h2; exact absurd h1 (hm m)
    · rw [mo m h] at h1; rw [mo n h'] at h2; exact r.inj m n a h1 h2
  · rw [List.length_append, List.length_singleton]
    by_cases hn : n = S.length
    · omega
    · rw [mo n hn] at e; have := r.ub n a e; omega
  · by_cases hn : n = S.length
    · rw [hn, mn] at e; cases e; rw [upd_same]; exact fun z => nomatch z
    · rw [mo n hn] at e
      rw [upd_ne (fun z => hm n (by rw [e, z]))]; exact r.th n a e
  · by_cases hn : n = S.length
    · rw [hn, mn] at e; cases e; exact .inl hf
    · rw [mo n hn] at e; exact r.fm n a e hg'
/-- a thing of the store is written -/
theorem Rel.write0 {n : Nat} {a : Addr} {ob ob' : Ob} {u : HO} (r : Rel K M G Φ μ S H) (hs : S[n]? = some ob) (hg : G a = none) (hf : Φ a = none) (hn : μ n = some a) (ho : OR K M G μ (upd H a u) ob' a) (hnd : ob' ≠ .dead := by exact fun z => nomatch z) : Rel K M G Φ μ (S.set n ob') (upd H a u) := by
  have hl : n < S.length := (List.getElem?_eq_some_iff.mp hs).1
  refine ⟨fun b w e => (r.g b w e).upd (fun z => by rw [z, hg] at e; cases e), fun b o e => ?_, fun m o e => ?_, fun m b o e hd' em => ?_, r.inj, fun m b e => ?_, fun m b e => ?_, r.fm, r.ft, r.fg, fun m b e em => by
    by_cases hm : n = m
    · subst hm
      rw [List.getElem?_set_self hl] at e
      exact absurd (Option.some.inj e) hnd
    · rw [List.getElem?_set_ne hm] at e
      exact r.dg m b e em⟩
  · rw [upd_ne (fun z => by rw [z, hf] at e; cases e)]; exact r.f b o e
  · by_cases hm : n = m
    · subst hm
      rw [List.getElem?_set_self hl] at e; cases e
      exact ⟨a, hn, ho⟩
    · rw [List.getElem?_set_ne hm] at e
      obtain ⟨b, em, h⟩ := r.s m o e
      have hb : b ≠ a := fun z => hm (r.inj n m a hn (by rw [em, z]))
      exact ⟨b, em, h.heap (upd_ne hb)⟩
  · by_cases hm : n = m
    · subst hm
      rw [hn] at em; cases em; exact ⟨hg, fun _ => hf⟩
    · rw [List.getElem?_set_ne hm] at e
      exact r.gm m b o e hd' em
  · rw [List.length_set]; exact r.ub m b e
  · by_cases hb : b = a
    · subst hb; rw [upd_same]; exact fun z => nomatch z
    · rw [upd_ne hb]; exact r.th m b e
theorem Rel.write {n : Nat} {a : Addr} {ob ob' : Ob} {u : HO} (r : Rel K M G Φ μ S H) (hs : S[n]? = some ob) (hd : ob ≠ .dead) (hn : μ n = some a) (ho : OR K M G μ (upd H a u) ob' a) (hnd : ob' ≠ .dead := by exact fun z => nomatch z) (hl : ∀ t ks vs, ob ≠ .lck t ks vs := by exact fun _ _ _ z => nomatch z) : Rel K M G Φ μ (S.set n ob') (upd H a u) :=
  r.write0 hs (r.gm n a ob hs hd hn).1 ((r.gm n a ob hs hd hn).2 hl) hn ho hnd
/-- a new thing at p that is another's -/
theorem Rel.frame {p : Addr} {u : HO} (r : Rel K M G Φ μ S H) (hp : H p = none) (hu : ∀ xs, u ≠ .tup xs := by intro xs z; cases z) : Rel K M G (L2.upd Φ p u) μ S (L2.upd H p u) := by
  have hg := r.gnew hp
  have hm : ∀ n, μ n ≠ some p := fun n e => r.th n p e hp
  refine ⟨fun a w e => (r.g a w e).upd (fun z => by rw [z, hg] at e; cases e), fun a o e => ?_, fun n ob e => ?_, fun n a ob e hd em => ?_, r.inj, r.ub, fun n a e => ?_, fun n a e hg' => ?_, fun a xs e => by
    by_cases ha : a = p
    · subst ha; rw [upd_same] at e; exact hu xs (Option.some.inj e)
    · rw [upd_ne ha] at e; exact r.ft a xs e, fun a o e hg' => by
    by_cases ha : a = p
    · subst ha; exact absurd hg hg'
    · rw [upd_ne ha] at e; exact r.fg a o e hg', r.dg⟩
  · by_cases ha : a = p
    · subst ha; rw [upd_same] at e ⊢; exact e
    · rw [upd_ne ha] at e ⊢; exact r.f a o e
  · obtain ⟨a, em, h⟩ := r.s n ob e
    exact ⟨a, em, h.heap (upd_ne (fun z => hm n (by rw [em, z])))⟩
  · obtain ⟨h1, h2⟩ := r.gm n a ob e hd em
    exact ⟨h1, fun z => by rw [upd_ne (fun z => hm n (by rw [em, z]))]; exact h2 z⟩
  · rw [upd_ne (fun z => hm n (by rw [e, z]))]; exact r.th n a e
  · rw [upd_ne (fun z => hm n (by rw [e, z]))]; exact r.fm n a e hg'
/-- another's thing is written -/
theorem Rel.reframe {p : Addr} {u u' : HO} (r : Rel K M G (L2.upd Φ p u) μ S H) (hg : G p = none) (hz : ∀ q w, u ≠ .frz q w := by intro q w z; cases z) (hu : ∀ xs, u' ≠ .tup xs := by intro xs z; cases z) : Rel K M G (L2.upd Φ p u') μ S (L2.upd H p u') := by
  have hm : ∀ n, μ n ≠ some p := fun n e => by
    have := r.fm n p e hg
    rw [upd_same] at this
    rcases this with h | ⟨q, w, h⟩
    · cases h
    · exact hz q w (Option.some.inj h)
  refine ⟨fun a w e => (r.g a w e).upd (fun z => by rw [z, hg] at e; cases e), fun a o e => ?_, fun n ob e => ?_, fun n a ob e hd em => ?_, r.inj, r.ub, fun n a e => ?_, fun n a e hg' => ?_, fun a xs e => by
    by_cases ha : a = p
    · subst ha; rw [upd_same] at e; exact hu xs (Option.some.inj e)
    · rw [upd_ne ha] at e; exact r.ft a xs (by rw [upd_ne ha]; exact e), fun a o e hg' => by
    by_cases ha : a = p
    · subst ha; exact absurd hg hg'
    · rw [upd_ne ha] at e; exact r.fg a o (by rw [upd_ne ha]; exact e) hg', r.dg⟩
  · by_cases ha : a = p
    · subst ha; rw [upd_same] at e ⊢; exact e
    · rw [upd_ne ha] at e ⊢; exact r.f a o (by rw [upd_ne ha]; exact e)
  · obtain ⟨a, em, h⟩ := r.s n ob e
    exact ⟨a, em, h.heap (upd_ne (fun z => hm n (by rw [em, z])))⟩
  · obtain ⟨h1, h2⟩ := r.gm n a ob e hd em
    have ha : a ≠ p := fun z => hm n (by rw [em, z])
    exact ⟨h1, fun z => by have h2 := h2 z; rw [upd_ne ha] at h2 ⊢; exact h2⟩
  · rw [upd_ne (fun z => hm n (by rw [e, z]))]; exact r.th n a e
  · have ha : a ≠ p := fun z => hm n (by rw [e, z])
    have := r.fm n a e hg'
    rw [upd_ne ha] at this ⊢; exact this
/-- another's thing is from now on one that stands still -/
theorem Rel.toStill {p : Addr} {u : HO} (r : Rel K M G (L2.upd Φ p u) μ S H) (hg : G p = none) (hf : Φ p = none) (hz : ∀ q w, u ≠ .frz q w := by intro q w z; cases z) : Rel K M (L2.upd G p u) Φ μ S H ∧ Gr Φ G μ (L2.upd G p u) μ := by
  have hm : ∀ n, μ n ≠ some p := fun n e => by
    have := r.fm n p e hg
    rw [upd_same] at this
    rcases this with h | ⟨q, w, h⟩
    · cases h
    · exact hz q w (Option.some.inj h)
  have gg : ∀ a w, G a = some w → L2.upd G p u a = some w := fun a w e => by
    rw [upd_ne (fun z => by rw [z, hg] at e; cases e)]; exact e
  refine ⟨⟨fun a w e => ?_, fun a o e => ?_, fun n ob e => ?_, fun n a ob e hd em => ?_, r.inj, r.ub, r.th, fun n a e hg' => ?_, fun a xs e => by
    by_cases ha : a = p
    · subst ha; rw [hf] at e; cases e
    · exact r.ft a xs (by rw [upd_ne ha]; exact e), fun a o e hg' => by
    by_cases ha : a = p
    · subst ha; rw [hf] at e; cases e
    · rw [upd_ne ha] at hg'; exact r.fg a o (by rw [upd_ne ha]; exact e) hg', fun n a e em => by
    by_cases ha : a = p
    · subst ha; rw [upd_same]; exact fun z => nomatch z
    · rw [upd_ne ha]; exact r.dg n a e em⟩, gg, fun a h1 h2 => ?_, fun _ _ h => h⟩
  · by_cases ha : a = p
    · subst ha; rw [upd_same] at e; cases e; exact .inl (r.f _ _ upd_same)
    · rw [upd_ne ha] at e; exact r.g a w e
  · by_cases ha : a = p
    · subst ha; rw [hf] at e; cases e
    · exact r.f a o (by rw [upd_ne ha]; exact e)
  · obtain ⟨a, em, h⟩ := r.s n ob e
    exact ⟨a, em, h.grow gg (fun _ _ h => h)⟩
  · obtain ⟨h1, h2⟩ := r.gm n a ob e hd em
    have ha : a ≠ p := fun z => hm n (by rw [em, z])
    exact ⟨by rw [upd_ne ha]; exact h1, fun z => by have h2 := h2 z; rw [upd_ne ha] at h2; exact h2⟩
  · have ha : a ≠ p := fun z => hm n (by rw [e, z])
    rw [upd_ne ha] at hg'
    have := r.fm n a e hg'
    rw [upd_ne ha] at this; exact this
  · by_cases ha : a = p
    · subst ha; exact absurd hf h1
    · rw [upd_ne ha] at h2; exact h2
/-- .. or the store's next -/
theorem Rel.toStore {p : Addr} {u : HO} {ob : Ob} (r : Rel K M G (L2.upd Φ p u) μ S H) (hg : G p = none) (hf : Φ p = none)  (ho : OR K M G (muAdd μ S.length p) H ob p) (hnd : ob ≠ .dead := by exact fun z => nomatch z) (hz : ∀ q w, u ≠ .frz q w := by intro q w z; cases z) : Rel K M G Φ (muAdd μ S.length p) (S ++ [ob]) H ∧ Gr Φ G μ G (muAdd μ S.length p) := by
  have hm : ∀ n, μ n ≠ some p := fun n e => by
    have := r.fm n p e hg
    rw [upd_same] at this
    rcases this with h | ⟨q, w, h⟩
    · cases h
    · exact hz q w (Option.some.inj h)
  have mm : ∀ n a, μ n = some a → muAdd μ S.length p n = some a := fun n a e => by
    unfold muAdd
    rw [if_neg (fun z => by have := r.ub n a e; omega)]
    exact e
  have mn : muAdd μ S.length p S.length = some p := by unfold muAdd; rw [if_pos rfl]
  have mo : ∀ n, n ≠ S.length → muAdd μ S.length p n = μ n := fun n h => by unfold muAdd; rw [if_neg h]
  have fo : ∀ a, a ≠ p → L2.upd Φ p u a = none → Φ a = none := fun a h e => by rw [upd_ne h] at e; exact e
  refine ⟨⟨r.g, fun a o e => ?_, fun n o e => ?_, fun n a o e hd em => ?_, fun m n a h1 h2 => ?_, fun n a e => ?_, fun n a e => ?_, fun n a e hg' => ?_, fun a xs e => by
    by_cases ha : a = p
    · subst ha; rw [hf] at e; cases e
    · exact r.ft a xs (by rw [upd_ne ha]; exact e), fun a o e hg' => by
    by_cases ha : a = p
    · subst ha; rw [hf] at e; cases e
    · exact r.fg a o (by rw [upd_ne ha]; exact e) hg', fun n a e em => by
    by_cases hn : n = S.length
    · subst hn
      rw [List.getElem?_append_right (Nat.le_refl _), Nat.sub_self] at e
      exact absurd (Option.some.inj e) hnd
    · have hl : n < S.length := by
        have := (List.getElem?_eq_some_iff.mp e).1
        rw [List.length_append, List.length_singleton] at this
        omega
      rw [List.getElem?_append_left hl] at e
      rw [mo n hn] at em
      exact r.dg n a e em⟩, fun _ _ h => h, fun _ _ h => h, mm⟩
  · by_cases ha : a = p
    · subst ha; rw [hf] at e; cases e
    · exact r.f a o (by rw [upd_ne ha]; exact e)
  · by_cases hn : n = S.length
    · subst hn
      rw [List.getElem?_append_right (Nat.le_refl _), Nat.sub_self] at e
      cases e
      exact ⟨p, mn, ho⟩
    · have hl : n < S.length := by
        have := (List.getElem?_eq_some_iff.mp e).1
        rw [List.length_append, List.length_singleton] at this
        omega
      rw [List.getElem?_append_left hl] at e
      obtain ⟨a, em, h⟩ := r.s n o e
      exact ⟨a, mm _ _ em, h.grow (fun _ _ h => h) mm⟩
  · by_cases hn : n = S.length
    · subst hn
      rw [mn] at em; cases em
      exact ⟨hg, fun _ => hf⟩
    · have hl : n < S.length := by
        have := (List.getElem?_eq_some_iff.mp e).1
        rw [List.length_append, List.length_singleton] at this
        omega
      rw [List.getElem?_append_left hl] at e
      rw [mo n hn] at em
      obtain ⟨h1, h2⟩ := r.gm n a o e hd em
      exact ⟨h1, fun z => fo a (fun z => hm n (by rw [em, z])) (h2 z)⟩
  · by_cases h : m = S.length <;> by_cases h' : n = S.length
    · rw [h, h']
    · rw [h, mn] at h1; rw [mo n h'] at h2; cases h1; exact absurd h2 (hm n)
    · rw [h', mn] at h2; rw [mo m h] at h1; cases h2; exact absurd h1 (hm m)
    · rw [mo m h] at h1; rw [mo n h'] at h2; exact r.inj m n a h1 h2
  · rw [List.length_append, List.length_singleton]
    by_cases hn : n = S.length
    · omega
    · rw [mo n hn] at e; have := r.ub n a e; omega
  · by_cases hn : n = S.length
    · rw [hn, mn] at e; cases e; rw [r.f _ _ upd_same]; exact fun z => nomatch z
    · rw [mo n hn] at e; exact r.th n a e
  · by_cases hn : n = S.length
    · rw [hn, mn] at e; cases e; exact .inl hf
    · rw [mo n hn] at e
      have ha : a ≠ p := fun z => hm n (by rw [e, z])
      rcases r.fm n a e hg' with h | ⟨q, w, h⟩
      · exact .inl (fo a ha h)
      · rw [upd_ne ha] at h; exact .inr ⟨q, w, h⟩
theorem Gr.of_upd {p : Addr} {u : HO} (g : Gr (L2.upd Φ p u) G μ G' μ') : Gr Φ G μ G' μ' := by
  refine ⟨g.g, fun a h1 h2 => ?_, g.m⟩
  by_cases ha : a = p
  · subst ha; exact g.n a (by rw [upd_same]; exact fun z => nomatch z) h2
  · exact g.n a (by rw [upd_ne ha]; exact h1) h2
theorem Gr.gnone {p : Addr} {u : HO} (g : Gr (L2.upd Φ p u) G μ G' μ') (h : G p = none) : G' p = none := by
  cases e : G' p with
  | none => rfl
  | some w => exact absurd h (g.n p (by rw [upd_same]; exact fun z => nomatch z) (by rw [e]; exact fun z => nomatch z))
/-- where nothing but untracked places changed -/
theorem Rel.look {n : Nat} {ob : Ob} (r : Rel K M G Φ μ S H) (hs : S[n]? = some ob) {a : Addr} (hn : μ n = some a) : OR K M G μ H ob a := by
  obtain ⟨b, e, h⟩ := r.s n ob hs
  rw [hn] at e; cases e; exact h
theorem gnone_of {a : Addr} (g : ∀ a u, G a = some u → G' a = some u) (h : G' a = none) : G a = none := by
  cases e : G a with
  | none => rfl
  | some u => rw [g a u e] at h; cases h
/-! a thing that stands still is locked, and let go -/
theorem Rel.gne {d : Addr} {u : HO} (r : Rel K M G Φ μ S H) (hg : G d = some u) {n : Nat} {a : Addr} {ob : Ob} (hs : S[n]? = some ob) (hd : ob ≠ .dead) (hn : μ n = some a) : a ≠ d := fun z => by
  have := (r.gm n a ob hs hd hn).1
  rw [z, hg] at this; cases this
theorem Rel.lock {d : Addr} {od : Obj} {u : HO} (r : Rel K M G Φ μ S H) (hg : G d = some u) (hk : (∃ k, u = .dK k) ∨ ∃ k, u = .dT k) : Rel K M G (L2.upd Φ d (.frz od u)) μ S (L2.upd H d (.frz od u)) := by
  refine ⟨fun a w e => ?_, fun a o e => ?_, fun n ob e => ?_, fun n a ob e hd em => ?_, r.inj, r.ub, fun n a e => ?_, fun n a e hg' => ?_, fun a xs e => ?_, fun a o e hg' => ?_, r.dg⟩
  · by_cases ha : a = d
    · subst ha; rw [hg] at e; cases e; exact .inr ⟨hk, od, upd_same⟩
    · exact (r.g a w e).upd ha
  · by_cases ha : a = d
    · subst ha; rw [upd_same] at e ⊢; exact e
    · rw [upd_ne ha] at e ⊢; exact r.f a o e
  · obtain ⟨a, em, h⟩ := r.s n ob e
    refine ⟨a, em, ?_⟩
    by_cases hd : ob = .dead
    · subst hd; trivial
    · exact h.heap (upd_ne (r.gne hg e hd em))
  · obtain ⟨h1, h2⟩ := r.gm n a ob e hd em
    exact ⟨h1, fun z => by rw [upd_ne (r.gne hg e hd em)]; exact h2 z⟩
  · by_cases ha : a = d
    · subst ha; rw [upd_same]; exact fun z => nomatch z
    · rw [upd_ne ha]; exact r.th n a e
  · have ha : a ≠ d := fun z => by rw [z, hg] at hg'; cases hg'
    rw [upd_ne ha]; exact r.fm n a e hg'
  · by_cases ha : a = d
    · subst ha; rw [upd_same] at e; cases e
    · rw [upd_ne ha] at e; exact r.ft a xs e
  · by_cases ha : a = d
    · subst ha; rw [upd_same] at e; cases e; exact ⟨od, u, rfl⟩
    · rw [upd_ne ha] at e; exact r.fg a o e hg'
theorem upd_id {H : Hp} {d : Addr} {o : HO} (h : H d = some o) : L2.upd H d o = H := funext fun a => by
  by_cases ha : a = d
  · subst ha; rw [upd_same, h]
  · rw [upd_ne ha]
theorem Rel.relock {d : Addr} {od : Obj} {u : HO} (r : Rel K M G Φ μ S H) (hg : G d = some u) (hk : (∃ k, u = .dK k) ∨ ∃ k, u = .dT k) (hl : H d = some (.frz od u)) : Rel K M G (L2.upd Φ d (.frz od u)) μ S H := by
  have := r.lock (od := od) hg hk
  rw [upd_id hl] at this
  exact this
theorem Rel.less {d : Addr} {o : HO} (r : Rel K M G (L2.upd Φ d o) μ S H) (hf : Φ d = none ∨ Φ d = some o) : Rel K M G Φ μ S H := by
  rcases hf with hf | hf
  · have fo : ∀ a w, Φ a = some w → L2.upd Φ d o a = some w := fun a w e => by
      rw [upd_ne (fun z => by rw [z, hf] at e; cases e)]; exact e
    have fn : ∀ a, L2.upd Φ d o a = none → Φ a = none := fun a e => by
      by_cases ha : a = d
      · subst ha; exact hf
      · rw [upd_ne ha] at e; exact e
    exact ⟨r.g, fun a w e => r.f a w (fo a w e), r.s, fun n a ob e hd em => ⟨(r.gm n a ob e hd em).1, fun z => fn a ((r.gm n a ob e hd em).2 z)⟩, r.inj, r.ub, r.th, fun n a e hg' => (r.fm n a e hg').elim (fun h => .inl (fn a h)) (fun ⟨q, w, h⟩ => by
      by_cases ha : a = d
      · subst ha; exact .inl hf
      · rw [upd_ne ha] at h; exact .inr ⟨q, w, h⟩), fun a xs e => r.ft a xs (fo a _ e), fun a w e hg' => r.fg a w (fo a w e) hg', r.dg⟩
  · rw [upd_id hf] at r; exact r
theorem Rel.unlock {d : Addr} {od : Obj} {u : HO} (r : Rel K M G (L2.upd Φ d (.frz od u)) μ S H) (hg : G d = some u) (hf : Φ d = none) : Rel K M G Φ μ S (L2.upd H d u) := by
  have r := r.less (.inl hf)
  refine ⟨fun a w e => ?_, fun a o e => ?_, fun n ob e => ?_, r.gm, r.inj, r.ub, fun n a e => ?_, r.fm, r.ft, r.fg, r.dg⟩
  · by_cases ha : a = d
    · subst ha; rw [hg] at e; cases e; exact .inl upd_same
    · exact (r.g a w e).upd ha
  · rw [upd_ne (fun z => by rw [z, hf] at e; cases e)]; exact r.f a o e
  · obtain ⟨a, em, h⟩ := r.s n ob e
    refine ⟨a, em, ?_⟩
    by_cases hd : ob = .dead
    · subst hd; trivial
    · exact h.heap (upd_ne (r.gne hg e hd em))
  · by_cases ha : a = d
    · subst ha; rw [upd_same]; exact fun z => nomatch z
    · rw [upd_ne ha]; exact r.th n a e
/-! a dict of the store is locked, and let go -/
theorem Rel.lockS {n : Nat} {a : Addr} {t : Nat} {ks vs : List D} {od : Obj} {u : HO} (r : Rel K M G Φ μ S H) (hs : S[n]? = some (.dct t ks vs)) (hn : μ n = some a) (hu : H a = some u) : Rel K M G (L2.upd Φ a (.frz od u)) μ (S.set n (.lck t ks vs)) (L2.upd H a (.frz od u)) := by
  obtain ⟨hg, hf⟩ := r.gm n a _ hs (fun z => nomatch z) hn
  have hf := hf (fun _ _ _ z => nomatch z)
  have hl : n < S.length := (List.getElem?_eq_some_iff.mp hs).1
  have r1 : Rel K M G Φ μ (S.set n (.lck t ks vs)) (L2.upd H a (.frz od u)) := by
    refine r.write hs (fun z => nomatch z) hn ?_
    rcases r.look hs hn with ⟨t0, kk, ys, e1, l, q, h⟩ | ⟨t0, kk, ys, e1, l, q, h⟩
    · rw [hu] at h; cases h
      exact .inl ⟨t0, kk, ys, e1, l, q, od, upd_same⟩
    · rw [hu] at h; cases h
      exact .inr ⟨t0, kk, ys, e1, l, q, od, upd_same⟩
  refine ⟨r1.g, fun b o e => ?_, r1.s, fun m b ob e hd em => ?_, r1.inj, r1.ub, r1.th, fun m b e hg' => ?_, fun b xs e => ?_, fun b o e hg' => ?_, r1.dg⟩
  · by_cases hb : b = a
    · subst hb; rw [upd_same] at e ⊢; exact e
    · rw [upd_ne hb] at e; exact r1.f b o e
  · refine ⟨(r1.gm m b ob e hd em).1, fun z => ?_⟩
    have hb : b ≠ a := fun z2 => by
      subst z2
      have : m = n := r.inj m n b em hn
      subst this
      rw [List.getElem?_set_self hl] at e
      exact z _ _ _ (Option.some.inj e).symm
    rw [upd_ne hb]; exact (r1.gm m b ob e hd em).2 z
  · by_cases hb : b = a
    · subst hb; exact .inr ⟨od, u, upd_same⟩
    · rw [upd_ne hb]; exact r1.fm m b e hg'
  · by_cases hb : b = a
    · subst hb; rw [upd_same] at e; cases e
    · rw [upd_ne hb] at e; exact r1.ft b xs e
  · by_cases hb : b = a
    · subst hb; exact absurd hg hg'
    · rw [upd_ne hb] at e; exact r1.fg b o e hg'
theorem Rel.unlockS {n : Nat} {a : Addr} {t : Nat} {ks vs : List D} {od : Obj} {u : HO} (r : Rel K M G (L2.upd Φ a (.frz od u)) μ S H) (hs : S[n]? = some (.lck t ks vs)) (hn : μ n = some a) (hf : Φ a = none) : Rel K M G Φ μ (S.set n (.dct t ks vs)) (L2.upd H a u) := by
  have hH := r.f a _ upd_same
  have hg := (r.gm n a _ hs (fun z => nomatch z) hn).1
  refine (r.less (.inl hf)).write0 hs hg hf hn ?_ (fun z => nomatch z)
  rcases r.look hs hn with ⟨t0, kk, ys, e1, l, q, o, h⟩ | ⟨t0, kk, ys, e1, l, q, o, h⟩
  · rw [hH] at h; cases h
    exact .inl ⟨t0, kk, ys, e1, l, q, upd_same⟩
  · rw [hH] at h; cases h
    exact .inr ⟨t0, kk, ys, e1, l, q, upd_same⟩
end
end Ip
/-! ## The language: names resolved to slots, constants and defs; its meaning as a function -/
namespace Ip
open PySem PySem.Spec PyProof.Rows L2

inductive BOp | add | sub | mul | fdiv | mod | pow
  deriving DecidableEq
inductive COp | eq | ne | lt | le | gt | ge | isin | notin | is_ | isnot
  deriving DecidableEq
inductive TyN | int | bool | str | tuple | list
  deriving DecidableEq
/-- built-ins whose value is no new list -/
inductive BI | len | int | str | tuple | sum | all | max | min | abs
  deriving DecidableEq
/-- built-ins that make a new list -/
inductive BF | list | sorted
  deriving DecidableEq
/-- methods of built-in types whose value is no new list -/
inductive ME | append | extend | pop | reverse | index | startswith | find | join | get | count | dpop
  deriving DecidableEq
inductive MF | split
  deriving DecidableEq
/-- a dict's pairs, values, keys -/
inductive DK | items | vals | keys
  deriving DecidableEq
inductive Cst | non | bl (b : Bool) | int (i : Int) | str (x : Str)
  deriving DecidableEq
@[simp] def Cst.d : Cst → D
  | .non => .non
  | .bl b => .bl b
  | .int i => .int i
  | .str x => .str x
mutual
inductive Tg where
  | n (i : Nat) | t (ts : Tgs)
inductive Tgs where
  | nil | cons (t : Tg) (r : Tgs)
end
mutual
inductive Ex where
  | c (k : Cst) | v (i : Nat) | g (n : Nat)
  | bin (o : BOp) (m : Bool) (a b : Ex) | neg (a : Ex) | cmp (o : COp) (a b : Ex)
  | not (a : Ex) | and (a b : Ex) | or (a b : Ex) | ite (t a b : Ex)
  | tup (es : Exs) | lst (m : Bool) (es : Exs) | dct (m : Bool) (t : Nat) (ks vs : List Cst)
  | ix (a i : Ex) | sl (m : Bool) (a : Ex) (lo hi : Oe)
  | call (f : Nat) (p : Bool) (es : Exs)
  | bi (b : BI) (es : Exs) | bf (b : BF) (m : Bool) (es : Exs)
  | me (b : ME) (o : Ex) (es : Exs) | mf (b : MF) (m : Bool) (o : Ex) (es : Exs)
  | isi (a : Ex) (t : TyN)
  | lc (m : Bool) (own : List (Str × Nat)) (tg : Tg) (it : Itr) (cond : Oe) (e : Ex)
  | lens (e : Ex)
  | att (c : Nat) (o : Ex) (f : Str) | mcl (c f : Nat) (m : Str) (p : Bool) (o : Ex) (es : Exs) | mk (c f : Nat) (m : Bool) (es : Exs)
  | fze (e : Ex) | rev (m : Bool) (e : Ex)
  | lc2 (m : Bool) (own : List (Str × Nat)) (tg : Tg) (it : Itr) (cond : Oe) (vs : List Nat) (tg1 : Tg) (it1 : Itr) (cond1 : Oe) (e : Ex)
  | lcD (m : Bool) (own : List (Str × Nat)) (kd : DK) (tg : Tg) (d : Ex) (cond : Oe) (e : Ex)
  | fnv (f : Nat) | callv (i : Nat) (p : Bool) (fs : List Nat) (es : Exs)
inductive Exs where
  | nil | cons (e : Ex) (r : Exs)
inductive Oe where
  | no | so (e : Ex)
inductive Itr where
  | of (e : Ex) | rng1 (a : Ex) | rng2 (a b : Ex) | enum (a : Ex)
end
/-- what an except clause does -/
inductive Hd where
  | ret (x : Ex) | retI (s : Cst) (j : Nat) | asg (i : Nat) (x : Ex)
mutual
inductive Stm where
  | asg (t : Tg) (e : Ex) | asgS (o i e : Ex)
  | asgC (i : Nat) (m : Bool) (own : List (Str × Nat)) (tg : Tg) (it : Itr) (cond : Oe) (x : Ex)
  | asgCD (i : Nat) (m : Bool) (own : List (Str × Nat)) (kd : DK) (tg : Tg) (d : Ex) (cond : Oe) (x : Ex)
  | aug (i : Nat) (o : BOp) (e : Ex) | augS (a i : Ex) (o : BOp) (e : Ex)
  | ex (e : Ex) | ret (e : Ex) | retN
  | ifs (c : Ex) (a b : Stms) | for (t : Tg) (it : Itr) (b : Stms) | whl (c : Ex) (b : Stms)
  | forD (kd : DK) (t : Tg) (e : Ex) (b : Stms)
  | brk | cont | pass | raise (c : Nat)
  | asgA (c : Nat) (o : Ex) (f : Str) (e : Ex)
  | tryE (b : Stms) (c : Nat) (nm : Option Nat) (h : Hd)
inductive Stms where
  | nil | cons (s : Stm) (r : Stms) | fz (i : Nat) (r : Stms) | fzd (i : Nat) (r : Stms)
end

/-! ### plain operations -/
mutual
def D.pure : D → Bool
  | .tup xs => pures xs
  | .lst xs => pures xs
  | .dct _ ks vs => pures ks && pures vs
  | .obj _ _ vs => pures vs
  | .ref _ => false
  | .fn _ => true
  | .non => true
  | .bl _ => true
  | .int _ => true
  | .str _ => true
  | .scr _ => true
def pures : List D → Bool
  | [] => true
  | d :: ds => d.pure && pures ds
end
def bnd {α β : Type} (x : Option (Ro α)) (f : α → Sto → Option (Ro β)) : Option (Ro β) :=
  match x with
  | some (.ok a S) => f a S
  | some (.ex c S) => some (.ex c S)
  | none => none
@[simp] theorem bnd_ok {α β : Type} {a : α} {S : Sto} {f : α → Sto → Option (Ro β)} : bnd (some (.ok a S)) f = f a S := rfl
@[simp] theorem bnd_ex {α β : Type} {c : Nat} {S : Sto} {f : α → Sto → Option (Ro β)} : bnd (some (.ex c S)) f = some (.ex c S) := rfl
@[simp] theorem bnd_none {α β : Type} {f : α → Sto → Option (Ro β)} : bnd none f = none := rfl
def okO {α : Type} (o : Option α) (S : Sto) : Option (Ro α) := match o with
  | some a => some (.ok a S)
  | none => none
@[simp] theorem okO_some {α : Type} {a : α} {S : Sto} : okO (some a) S = some (.ok a S) := rfl
@[simp] theorem okO_none {α : Type} {S : Sto} : okO (none : Option α) S = none := rfl
/-- a new list: of the store, or one that stands still -/
def mkL (m : Bool) (xs : List D) (S : Sto) : Option (Ro D) := match m with
  | true => some (.ok (.ref S.length) (S ++ [.lst xs]))
  | false => some (.ok (.lst xs) S)
@[simp] theorem mkL_t {xs : List D} {S : Sto} : mkL true xs S = some (.ok (.ref S.length) (S ++ [.lst xs])) := rfl
@[simp] theorem mkL_f {xs : List D} {S : Sto} : mkL false xs S = some (.ok (.lst xs) S) := rfl
def mkD (m : Bool) (t : Nat) (ks vs : List D) (S : Sto) : Option (Ro D) := match m with
  | true => some (.ok (.ref S.length) (S ++ [.dct t ks vs]))
  | false => some (.ok (.dct t ks vs) S)
@[simp] theorem mkD_t {t : Nat} {ks vs : List D} {S : Sto} : mkD true t ks vs S = some (.ok (.ref S.length) (S ++ [.dct t ks vs])) := rfl
@[simp] theorem mkD_f {t : Nat} {ks vs : List D} {S : Sto} : mkD false t ks vs S = some (.ok (.dct t ks vs) S) := rfl
def getL (S : Sto) (n : Nat) : Option (List D) := match S[n]? with
  | some (.lst xs) => some xs
  | _ => none
theorem getL_of {S : Sto} {n : Nat} {xs : List D} (h : getL S n = some xs) : S[n]? = some (.lst xs) := by
  unfold getL at h
  split at h
  · rename_i e; cases h; exact e
  · cases h
theorem getL_eq {S : Sto} {n : Nat} {xs : List D} (h : S[n]? = some (.lst xs)) : getL S n = some xs := by
  unfold getL; rw [h]
/-- the items of a list or tuple, to be read -/
def seqD (S : Sto) : D → Option (List D)
  | .tup xs => some xs
  | .lst xs => some xs
  | .scr ns => some (ns.map .int)
  | .ref n => getL S n
  | _ => none
/-- the items of a list -/
def lstD (S : Sto) : D → Option (List D)
  | .lst xs => some xs
  | .ref n => getL S n
  | _ => none
def asInts : List D → Option (List Int)
  | [] => some []
  | .int i :: r => (asInts r).map (i :: ·)
  | _ => none
def asStrs : List D → Option (List Str)
  | [] => some []
  | .str i :: r => (asStrs r).map (i :: ·)
  | _ => none
def asBls : List D → Option (List Bool)
  | [] => some []
  | .bl i :: r => (asBls r).map (i :: ·)
  | _ => none
/-- numbers -/
noncomputable def binI (o : BOp) (i j : Int) : Option Int := match o with
  | .add => some (i + j)
  | .sub => some (i - j)
  | .mul => @ite _ ((-(2 ^ 64) < i ∧ i < 2 ^ 64) ∨ (-(2 ^ 64) < j ∧ j < 2 ^ 64)) (Classical.propDecidable _) (some (i * j)) none
  | .fdiv => @ite _ (0 < j ∧ j < 2 ^ 400) (Classical.propDecidable _) (some (i / j)) none
  | .mod => if 0 < j then some (i % j) else none
  | .pow => @ite _ (0 ≤ j ∧ j ≤ 1000000 ∧ i.natAbs < 2 ^ 64) (Classical.propDecidable _) (some (i ^ j.toNat)) none
noncomputable def binD (o : BOp) (m : Bool) (x y : D) (S : Sto) : Option (Ro D) := match x, y with
  | .int i, .int j => if m then none else okO ((binI o i j).map .int) S
  | .str i, .str j => if m then none else match o with
    | .add => if i.length + j.length ≤ sizeLine then some (.ok (.str (i ++ j)) S) else none
    | _ => none
  | .tup xs, .tup ys => if m then none else match o with
    | .add => if xs.length + ys.length ≤ sizeLine then some (.ok (.tup (xs ++ ys)) S) else none
    | _ => none
  | .tup xs, .int k => if m then none else match o with
    | .mul => @ite _ (xs.length = 1 ∧ 0 ≤ k ∧ k ≤ 1000) (Classical.propDecidable _) (some (.ok (.tup (List.replicate k.toNat xs).flatten) S)) none
    | _ => none
  | .str i, .int k => if m then none else match o with
    | .mul => @ite _ (0 ≤ k ∧ k ≤ 1000 ∧ i.length ≤ 1000) (Classical.propDecidable _) (some (.ok (.str (Txt.mul i k)) S)) none
    | _ => none
  | x, .int k => match o, lstD S x with
    | .mul, some xs => @ite _ (-(2 ^ 63) ≤ k ∧ k < 2 ^ 63 ∧ xs.length * k.toNat ≤ sizeLine) (Classical.propDecidable _) (mkL m (List.replicate k.toNat xs).flatten S) none
    | _, _ => none
  | x, y => match o, lstD S x, lstD S y with
    | .add, some xs, some ys => if xs.length + ys.length ≤ sizeLine then mkL m (xs ++ ys) S else none
    | _, _, _ => none
/-! as data for == -/
mutual
def pd : D → Option PyData
  | .non => some .none
  | .bl b => some (.bool b)
  | .int i => some (.int i)
  | .str x => some (.str x)
  | .tup xs => (pds xs).map .tuple
  | .lst xs => (pds xs).map .list
  | _ => none
def pds : List D → Option (List PyData)
  | [] => some []
  | d :: ds => match pd d, pds ds with
    | some a, some b => some (a :: b)
    | _, _ => none
end
/-- the store's lists read (one level) -/
def res1 (S : Sto) : D → D
  | .ref n => match getL S n with
    | some xs => .lst xs
    | none => .ref n
  | d => d
def res2 (S : Sto) : D → D
  | .lst xs => .lst (xs.map (res1 S))
  | .ref n => match getL S n with
    | some xs => .lst (xs.map (res1 S))
    | none => .ref n
  | d => d
def eqD (S : Sto) (x y : D) : Option Bool := match x, y with
  | .int i, .int j => some (decide (i = j))
  | .str i, .str j => some (decide (i = j))
  | .bl i, .bl j => some (decide (i = j))
  | .non, .non => some true
  | x, y => match pd (res2 S x), pd (res2 S y) with
    | some a, some b => if SeqAt.shaped a = true ∧ SeqAt.shaped b = true then some (PyData.eqv a b) else none
    | _, _ => none
/-! dicts: keys are ints and texts (0), or tuples of them (1) -/
def kKey : D → Option Key
  | .int i => some (.inl i)
  | .str x => some (.inr x)
  | _ => none
def kKeys : List D → Option (List Key)
  | [] => some []
  | x :: xs => match kKey x, kKeys xs with
    | some k, some ks => some (k :: ks)
    | _, _ => none
def tKey : D → Option (List Key)
  | .tup xs => kKeys xs
  | _ => none
def lookK {κ : Type} [DecidableEq κ] (f : D → Option κ) (k : κ) : List D → List D → Option D
  | a :: ks, v :: vs => if f a = some k then some v else lookK f k ks vs
  | _, _ => none
def repV {κ : Type} [DecidableEq κ] (f : D → Option κ) (k : κ) (d : D) : List D → List D → List D
  | a :: ks, v :: vs => (if f a = some k then d else v) :: repV f k d ks vs
  | _, _ => []
def dctD (S : Sto) : D → Option (Nat × List D × List D)
  | .dct t ks vs => some (t, ks, vs)
  | .ref n => match S[n]? with
    | some (.dct t ks vs) => some (t, ks, vs)
    | some (.lck t ks vs) => some (t, ks, vs)
    | _ => none
  | _ => none
def dGet (q : Nat × List D × List D) (y : D) : Option (Option D) := match q.1 with
  | 0 => (kKey y).map fun k => lookK kKey k q.2.1 q.2.2
  | _ => (tKey y).map fun k => lookK tKey k q.2.1 q.2.2
def putW {κ : Type} [DecidableEq κ] (f : D → Option κ) (k : κ) (y d : D) (ks vs : List D) : List D × List D :=
  if (lookK f k ks vs).isSome then (ks, repV f k d ks vs) else (ks ++ [y], vs ++ [d])
/-- without the key -/
def delK {κ : Type} [DecidableEq κ] (f : D → Option κ) (k : κ) : List D → List D → List D × List D
  | a :: ks, v :: vs => if f a = some k then delK f k ks vs else (a :: (delK f k ks vs).1, v :: (delK f k ks vs).2)
  | _, _ => ([], [])
def dPut (q : Nat × List D × List D) (y d : D) : Option (List D × List D) := match q.1 with
  | 0 => (kKey y).map fun k => putW kKey k y d q.2.1 q.2.2
  | _ => (tKey y).map fun k => putW tKey k y d q.2.1 q.2.2
def flatD : D → Bool
  | .non => true
  | .bl _ => true
  | .int _ => true
  | .str _ => true
  | _ => false
/-- == of flat values -/
def eqF : D → D → Bool
  | .non, .non => true
  | .bl a, .bl b => a == b
  | .bl a, .int b => (if a then 1 else 0) == b
  | .int a, .bl b => a == (if b then 1 else 0)
  | .int a, .int b => a == b
  | .str a, .str b => a == b
  | _, _ => false
/-- y in d -/
def inD (S : Sto) (x y : D) : Option Bool := match x, y with
  | .str i, .str j => some (!(Builtin.Str.occurrences j i 0 j.length 1).isEmpty)
  | x, .tup ys => if flatD x && ys.all flatD then some (ys.any fun y => eqF y x) else none
  | x, y => match dctD S y with
    | some q => (dGet q x).map Option.isSome
    | none => match pd x, pd (res2 S y) with
      | some a, some (.list b) => if SeqAt.shaped a = true ∧ SeqAt.shaped (.list b) = true then some (b.any fun z => PyData.eqv z a) else none
      | _, _ => none
def isD (x y : D) : Option Bool := match x, y with
  | .bl a, .bl b => some (decide (a = b))
  | .bl _, .non => some false
  | .int _, .non => some false
  | .str _, .non => some false
  | .tup _, .non => some false
  | .lst _, .non => some false
  | .scr _, .non => some false
  | .dct _ _ _, .non => some false
  | .obj _ _ _, .non => some false
  | .ref _, .non => some false
  | .non, .non => some true
  | _, _ => none
def ltD (o : COp) (x y : D) : Option Bool := match x, y with
  | .int i, .int j => match o with
    | .lt => some (decide (i < j))
    | .le => some (decide (i ≤ j))
    | .gt => some (decide (j < i))
    | .ge => some (decide (j ≤ i))
    | _ => none
  | .str i, .str j => match o with
    | .lt => some (decide (i.cps.toList < j.cps.toList))
    | .le => some (!decide (j.cps.toList < i.cps.toList))
    | .gt => some (decide (j.cps.toList < i.cps.toList))
    | .ge => some (!decide (i.cps.toList < j.cps.toList))
    | _ => none
  | _, _ => none
def cmpD (o : COp) (x y : D) (S : Sto) : Option Bool := match o with
  | .eq => eqD S x y
  | .ne => (eqD S x y).map not
  | .isin => inD S x y
  | .notin => (inD S x y).map not
  | .is_ => isD x y
  | .isnot => (isD x y).map not
  | o => ltD o x y
def truD (S : Sto) : D → Option Bool
  | .non => some false
  | .bl b => some b
  | .int i => some (i != 0)
  | .str x => if x.length ≤ sizeLine then some ((x.length : Int) != 0) else none
  | d => (seqD S d).map fun xs => !xs.isEmpty
def ixD (S : Sto) (x i : D) : Option D := match x, i with
  | .str z, .int i => if z.length ≤ sizeLine then (atI z.cps.toList i).map fun c => .str ⟨#[c]⟩ else none
  | x, i => match dctD S x with
    | some q => match dGet q i with
      | some (some d) => some d
      | _ => none
    | none => match i, seqD S x with
      | .int i, some xs => atI xs i
      | _, _ => none
/-- the items of xs[lo:hi] -/
def cutD (xs : List D) (lo hi : Option Int) : List D := (xs.drop (HT.sIx xs.length 0 lo)).take (HT.sIx xs.length xs.length hi - HT.sIx xs.length 0 lo)
def slD (m : Bool) (x : D) (l h : Option Int) (S : Sto) : Option (Ro D) := match x with
  | .str z => if m then none else if z.length ≤ sizeLine then some (.ok (.str (cutS z l h)) S) else none
  | .tup xs => if m then none else some (.ok (.tup (cutD xs l h)) S)
  | .scr ns => mkL m (cutD (ns.map .int) l h) S
  | x => match lstD S x with
    | some xs => mkL m (cutD xs l h) S
    | none => none
@[simp] def isiD (S : Sto) (x : D) (t : TyN) : Option Bool := match x with
  | .non => some false
  | .bl _ => some (match t with | .int => true | .bool => true | _ => false)
  | .int _ => some (match t with | .int => true | _ => false)
  | .str _ => some (match t with | .str => true | _ => false)
  | .tup _ => some (match t with | .tuple => true | _ => false)
  | .lst _ => some (match t with | .list => true | _ => false)
  | .ref n => match getL S n with
    | some _ => some (match t with | .list => true | _ => false)
    | none => none
  | _ => none
def biD (b : BI) (xs : List D) (S : Sto) : Option D := match b, xs with
  | .len, [.str x] => if x.length ≤ sizeLine then some (.int x.length) else none
  | .len, [d] => match dctD S d with
    | some q => if q.1 = 0 then some (.int q.2.1.length) else none
    | none => (seqD S d).map fun xs => .int xs.length
  | .int, [.int i] => some (.int i)
  | .int, [.bl k] => some (.int (if k then 1 else 0))
  | .int, [.str a] => if a.length ≤ 640 then (PySem.intText? a).map .int else none
  | .str, [.int i] => if i.natAbs.log2 < 1920 then some (.str (toString i)) else none
  | .tuple, [.tup xs] => some (.tup xs)
  | .tuple, [d] => (lstD S d).map .tup
  | .sum, [.tup xs] => (asInts xs).map fun ns => .int ns.sum
  | .sum, [d] => ((lstD S d).bind asInts).map fun ns => .int ns.sum
  | .all, [d] => ((lstD S d).bind asBls).map fun bs => .bl (bs.all id)
  | .max, [.int i, .int j] => some (.int (if j > i then j else i))
  | .max, [d] => match (lstD S d).bind asInts with
    | some (n :: ns) => some (.int (ns.foldl max n))
    | _ => none
  | .min, [d] => match (lstD S d).bind asInts with
    | some (n :: ns) => some (.int (ns.foldl min n))
    | _ => none
  | .min, [.int i, .int j] => some (.int (if j < i then j else i))
  | .abs, [.int i] => some (.int (if i < 0 then -i else i))
  | _, _ => none
def itD : D → Option (List D)
  | .tup xs => some xs
  | .lst xs => some xs
  | .str z => some (z.cps.toList.map fun c => .str ⟨#[c]⟩)
  | _ => none
/-- a method: its value and the store behind it -/
def meD (b : ME) (o : D) (xs : List D) (S : Sto) : Option (Ro D) := match b, o, xs with
  | .append, .ref n, [y] => match getL S n with
    | some zs => if zs.length < sizeLine then some (.ok .non (S.set n (.lst (zs ++ [y])))) else none
    | _ => none
  | .startswith, .str a, [.str p] => some (.ok (.bl (Txt.startswith a p)) S)
  | .pop, .ref n, [.int i] => match getL S n with
    | some zs => match ixN zs.length i with
      | some k => match zs[k]? with
        | some y => if zs.length ≤ sizeLine then some (.ok y (S.set n (.lst (zs.eraseIdx k)))) else none
        | none => none
      | none => none
    | _ => none
  | .extend, .ref n, [d] => match getL S n, lstD S d with
    | some zs, some ys => if zs.length + ys.length ≤ sizeLine then some (.ok .non (S.set n (.lst (zs ++ ys)))) else none
    | _, _ => none
  | .find, .str a, [.str p] => some (.ok (.int (Txt.find a p)) S)
  | .find, .str a, [.str p, .int i] => some (.ok (.int (Txt.find3 a p i)) S)
  | .join, .str a, [d] => match (seqD S d).bind asStrs with
    | some ys => if (ys.map (·.length)).sum + ys.length * a.length ≤ 16777216 then some (.ok (.str (Txt.join a ys)) S) else none
    | none => none
  | .get, o, [y] => match dctD S o with
    | some q => okO ((dGet q y).map fun r => r.getD .non) S
    | none => none
  | .get, o, [y, d] => match dctD S o with
    | some q => okO ((dGet q y).map fun r => r.getD d) S
    | none => none
  | .index, .str a, [.str b] => match Builtin.Str.occurrences a b 0 a.length 1 with
    | i :: _ => some (.ok (.int (i : Nat)) S)
    | [] => none
  | .count, o, [y] => match pd y, pd (res2 S o) with
    | some a, some (.list b) => if SeqAt.shaped a = true ∧ SeqAt.shaped (.list b) = true then some (.ok (.int (b.countP fun z => PyData.eqv z a : Nat)) S) else none
    | _, _ => none
  | .dpop, .ref n, [y] => match S[n]? with
    | some (.dct 0 ks vs) => match kKey y with
      | some k => match lookK kKey k ks vs with
        | some d => some (.ok d (S.set n (.dct 0 (delK kKey k ks vs).1 (delK kKey k ks vs).2)))
        | none => none
      | none => none
    | _ => none
  | .reverse, .ref n, [] => match getL S n with
    | some zs => some (.ok .non (S.set n (.lst zs.reverse)))
    | none => none
  | _, _, _ => none

/-- ints in order -/
def insI (i : Int) : List Int → List Int
  | [] => [i]
  | j :: js => if i ≤ j then i :: j :: js else j :: insI i js
def sortI : List Int → List Int
  | [] => []
  | i :: is => insI i (sortI is)
/-- a <= b, of data that are alike -/
def leD (a b : D) : Bool := PySem.W.dataLe false (fun d => (pd d).getD .none) a b
/-- may be sorted -/
def SortOk (ds : List D) : Prop := (∀ d ∈ ds, ∃ a, pd d = some a ∧ a.depth ≤ 50) ∧ PySem.W.AllAlike (ds.map fun d => (pd d).getD .none) ∧ PySem.W.Sortable (ds.map fun d => (pd d).getD .none) ∧ ds.length ≤ 1000000
noncomputable def bfD (b : BF) (m : Bool) (xs : List D) (S : Sto) : Option (Ro D) := match b, xs with
  | .list, [d] => match seqD S d with
    | some ys => mkL m ys S
    | none => none
  | .sorted, [d] => match lstD S d with
    | some ds => match asInts ds with
      | some ns => mkL m ((sortI ns).map .int) S
      | none => @ite _ (SortOk ds) (Classical.propDecidable _) (mkL m (ds.mergeSort leD) S) none
    | none => match dctD S d with
      | some (1, ks, _) => @ite _ (SortOk ks) (Classical.propDecidable _) (mkL m (ks.mergeSort leD) S) none
      | some (0, ks, _) => match asInts ks with
        | some ns => if ns.length < 64 then mkL m ((sortI ns).map .int) S else none
        | none => none
      | _ => none
  | _, _ => none
def mfD (b : MF) (m : Bool) (o : D) (xs : List D) (S : Sto) : Option (Ro D) := match b, o, xs with
  | .split, .str a, [.str p] => if (p.length == 0) = false ∧ a.length + 2 ≤ sizeLine then mkL m ((Txt.split a p).map .str) S else none
  | _, _, _ => none
def tyF (b : MF) (x : D) : Bool := match b, x with
  | .split, .str _ => true
  | _, _ => false
/-- the receiver's type, as the method wants it -/
def tyM (b : ME) (x : D) (S : Sto) : Bool := match b, x with
  | .append, .ref n => (getL S n).isSome
  | .pop, .ref n => (getL S n).isSome
  | .extend, .ref n => (getL S n).isSome
  | .startswith, .str _ => true
  | .find, .str _ => true
  | .join, .str _ => true
  | .get, .ref n => (dctD S (.ref n)).isSome
  | .get, .dct _ _ _ => true
  | .index, .str _ => true
  | .count, .ref n => (getL S n).isSome
  | .count, .lst _ => true
  | .dpop, .ref n => (dctD S (.ref n)).isSome
  | .reverse, .ref n => (getL S n).isSome
  | _, _ => false
/-! objects -/
def insD (S : Sto) : D → Option (Nat × List Str × List D)
  | .obj c ns vs => some (c, ns, vs)
  | .ref n => match S[n]? with
    | some (.ins c ns vs) => some (c, ns, vs)
    | _ => none
  | _ => none
def fldL (f : Str) : List Str → List D → Option D
  | n :: ns, v :: vs => if n = f then some v else fldL f ns vs
  | _, _ => none
/-- x.f, x of class c -/
def fldD (S : Sto) (c : Nat) (x : D) (f : Str) : Option D := match insD S x with
  | some (c', ns, vs) => if c' = c then fldL f ns vs else none
  | none => none
/-- has x, of class c, no attribute m? -/
def mthD (S : Sto) (c : Nat) (x : D) (m : Str) : Bool := match insD S x with
  | some (c', ns, _) => decide (c' = c) && ns.all fun n => decide (n ≠ m)
  | none => false
/-- the attribute f is d from now on -/
def putA (f : Str) (d : D) : List Str → List D → List Str × List D
  | n :: ns, v :: vs => if n = f then (n :: ns, d :: vs) else (n :: (putA f d ns vs).1, v :: (putA f d ns vs).2)
  | _, _ => ([f], [d])
def mapF (f : D → Sto → Option (D × Sto)) : List D → Sto → Option (List D × Sto)
  | [], S => some ([], S)
  | d :: ds, S => match f d S with
    | some (d', S1) => match mapF f ds S1 with
      | some (ds', S2) => some (d' :: ds', S2)
      | none => none
    | none => none
/-- from now on standing still, with all that is in it -/
def frz : Nat → D → Sto → Option (D × Sto)
  | 0, _, _ => none
  | k + 1, .ref n, S => match S[n]? with
    | some (.lst xs) => match mapF (frz k) xs S with
      | some (ys, S1) => match S1[n]? with
        | some (.lst _) => some (.lst ys, S1.set n .dead)
        | _ => none
      | none => none
    | some (.dct t ks vs) => match mapF (frz k) vs S with
      | some (ys, S1) => match S1[n]? with
        | some (.dct _ _ _) => some (.dct t ks ys, S1.set n .dead)
        | _ => none
      | none => none
    | some (.ins c ns vs) => match mapF (frz k) vs S with
      | some (ys, S1) => match S1[n]? with
        | some (.ins _ _ _) => some (.obj c ns ys, S1.set n .dead)
        | _ => none
      | none => none
    | _ => none
  | k + 1, .lst xs, S => if pures xs then some (.lst xs, S) else match mapF (frz k) xs S with
    | some (ys, S1) => some (.lst ys, S1)
    | none => none
  | k + 1, .tup xs, S => if pures xs then some (.tup xs, S) else match mapF (frz k) xs S with
    | some (ys, S1) => some (.tup ys, S1)
    | none => none
  | _ + 1, d, S => if d.pure then some (d, S) else none
/-- what a walk through a dict gives -/
def dWalk : DK → List D → List D → List D
  | .items, ks, vs => ks.zipWith (fun k v => .tup [k, v]) vs
  | .vals, _, vs => vs
  | .keys, ks, _ => ks
/-- which walks there are: tuple keys are walked by keys alone -/
def wkB : DK → Nat → Bool
  | _, 0 => true
  | .keys, 1 => true
  | _, _ => false
/-- a dict of the store is let go behind its walk -/
def unS (n : Nat) (S : Sto) : Option Sto := match S[n]? with
  | some (.lck t ks vs) => some (S.set n (.dct t ks vs))
  | _ => none
/-- the items of a dict that is walked, the store meanwhile -/
def wkD (kd : DK) (S : Sto) : D → Option (List D × Sto × Option Nat)
  | .dct t ks vs => if wkB kd t then some (dWalk kd ks vs, S, none) else none
  | .ref n => match S[n]? with
    | some (.dct t ks vs) => if wkB kd t then some (dWalk kd ks vs, S.set n (.lck t ks vs), some n) else none
    | _ => none
  | _ => none
def unO (o : Option Nat) (S : Sto) : Option Sto := match o with
  | some n => unS n S
  | none => some S
/-! ### the evaluator -/
abbrev Gam := Nat → List D → Sto → Option (Ro D)
structure Tab where
  consts : List D
  subs : List (List Bool)
/-- is the i-th of the own exceptions' classes a kind of the j-th? -/
def Tab.sub (T : Tab) (i j : Nat) : Option Bool := match T.subs[i]? with
  | some r => r[j]?
  | none => none
@[simp] def wipeE (env : En) : List Nat → En
  | [] => env
  | v :: vs => (wipeE env vs).set v none
mutual
def asgT : Tg → D → En → Option En
  | .n i, d, env => some (env.set i (some d))
  | .t ts, .tup xs, env => asgTs ts xs env
  | .t _, _, _ => none
def asgTs : Tgs → List D → En → Option En
  | .nil, [], env => some env
  | .cons t r, x :: xs, env => (asgT t x env).bind (asgTs r xs)
  | _, _, _ => none
end
@[simp] theorem asg_n {i : Nat} {d : D} {env : En} : asgT (.n i) d env = some (env.set i (some d)) := rfl
@[simp] theorem asg_t {ts : Tgs} {xs : List D} {env : En} : asgT (.t ts) (.tup xs) env = asgTs ts xs env := rfl
@[simp] theorem asgs_nil {env : En} : asgTs .nil [] env = some env := rfl
@[simp] theorem asgs_cons {t : Tg} {r : Tgs} {x : D} {xs : List D} {env : En} : asgTs (.cons t r) (x :: xs) env = (asgT t x env).bind (asgTs r xs) := rfl
/-- the turns of a comprehension -/
def lcLoop (turn : D → Sto → Option (Ro (Option D))) : List D → Sto → List D → Option (Ro (List D))
  | [], S, acc => some (.ok acc S)
  | x :: xs, S, acc => match turn x S with
    | some (.ok (some y) S1) => lcLoop turn xs S1 (acc ++ [y])
    | some (.ok none S1) => lcLoop turn xs S1 acc
    | _ => none
noncomputable def rngD (i j : Int) : Option (List D) := @ite _ (-(2 ^ 62) ≤ i ∧ i < 2 ^ 62 ∧ -(2 ^ 62) ≤ j ∧ j < 2 ^ 62) (Classical.propDecidable _) (some ((List.range (j - i).toNat).map fun (k : Nat) => D.int (i + k))) none
/-- the turns of a comprehension with two fors -/
def lcLoop2 (turn : D → Sto → List D → Option (Ro (List D))) : List D → Sto → List D → Option (Ro (List D))
  | [], S, acc => some (.ok acc S)
  | x :: xs, S, acc => match turn x S acc with
    | some (.ok a S1) => lcLoop2 turn xs S1 a
    | _ => none
/-- numbered -/
def enF : Nat → List D → List D
  | _, [] => []
  | i, x :: xs => .tup [.int i, x] :: enF (i + 1) xs
theorem enF_len : ∀ (xs : List D) (i : Nat), (enF i xs).length = xs.length
  | [], _ => rfl
  | x :: xs, i => by rw [enF, List.length_cons, List.length_cons, enF_len xs]
theorem enF_get : ∀ (xs : List D) (i j : Nat), (enF i xs)[j]? = xs[j]?.map fun x => .tup [.int ((i + j : Nat) : Int), x]
  | [], _, _ => by simp [enF]
  | x :: xs, i, 0 => by simp [enF]
  | x :: xs, i, j + 1 => by
    rw [enF, List.getElem?_cons_succ, List.getElem?_cons_succ, enF_get xs (i + 1) j, show i + 1 + j = i + (j + 1) by omega]
/-- what a call gives, standing still -/
def frzR (r : Option (Ro D)) : Option (Ro D) := bnd r fun d S1 => match frz 9 d S1 with
  | some (d', S2) => some (.ok d' S2)
  | none => none
def callP (Γ : Gam) (p : Bool) (f : Nat) (ds : List D) (S : Sto) : Option (Ro D) := match p with
  | false => Γ f ds S
  | true => if pures ds then match frzR (Γ f ds []) with
    | some (.ok d _) => if d.pure then some (.ok d S) else none
    | some (.ex c _) => some (.ex c S)
    | none => none
  else none
/-- a new object of class c: f is its __init__ -/
def mkR (Γ : Gam) (f c : Nat) (z : Bool) (ds : List D) (S : Sto) : Option (Ro D) := bnd (Γ f (.ref S.length :: ds) (S ++ [.ins c [] []])) fun d S2 => match d with
  | .non => match z with
    | false => some (.ok (.ref S.length) S2)
    | true => match frz 9 (.ref S.length) S2 with
      | some (d, S3) => some (.ok d S3)
      | none => none
  | _ => none
/-- m: of the store; or one that stands still, made apart -/
def mkC (Γ : Gam) (f c : Nat) (m : Bool) (ds : List D) (S : Sto) : Option (Ro D) := match m with
  | true => mkR Γ f c false ds S
  | false => if pures ds then match mkR Γ f c true ds [] with
    | some (.ok d _) => if d.pure then some (.ok d S) else none
    | some (.ex c _) => some (.ex c S)
    | none => none
  else none
mutual
@[simp] noncomputable def evalE (Γ : Gam) (T : Tab) : Ex → En → Sto → Option (Ro D)
  | .c k, _, S => some (.ok k.d S)
  | .v i, env, S => match env[i]? with
    | some (some d) => some (.ok d S)
    | _ => none
  | .g n, _, S => okO T.consts[n]? S
  | .bin o m a b, env, S => bnd (evalE Γ T a env S) fun x S1 => bnd (evalE Γ T b env S1) fun y S2 => binD o m x y S2
  | .neg a, env, S => bnd (evalE Γ T a env S) fun x S1 => match x with
    | .int i => some (.ok (.int (-i)) S1)
    | _ => none
  | .cmp o a b, env, S => bnd (evalE Γ T a env S) fun x S1 => bnd (evalE Γ T b env S1) fun y S2 => okO ((cmpD o x y S2).map .bl) S2
  | .not a, env, S => bnd (evalE Γ T a env S) fun x S1 => match x with
    | .bl b => some (.ok (.bl (!b)) S1)
    | _ => none
  | .and a b, env, S => bnd (evalE Γ T a env S) fun x S1 => match x with
    | .bl true => evalE Γ T b env S1
    | .bl false => some (.ok (.bl false) S1)
    | _ => none
  | .or a b, env, S => bnd (evalE Γ T a env S) fun x S1 => match x with
    | .bl true => some (.ok (.bl true) S1)
    | .bl false => evalE Γ T b env S1
    | _ => none
  | .ite t a b, env, S => bnd (evalT Γ T t env S) fun c S1 => match c with
    | true => evalE Γ T a env S1
    | false => evalE Γ T b env S1
  | .tup es, env, S => bnd (evalEs Γ T es env S) fun xs S1 => if xs.length ≤ sizeLine then some (.ok (.tup xs) S1) else none
  | .lst m es, env, S => bnd (evalEs Γ T es env S) fun xs S1 => if xs.length ≤ sizeLine then mkL m xs S1 else none
  | .dct m t ks vs, env, S => mkD m t (ks.map Cst.d) (vs.map Cst.d) S
  | .ix a i, env, S => bnd (evalE Γ T a env S) fun x S1 => bnd (evalE Γ T i env S1) fun y S2 => okO (ixD S2 x y) S2
  | .sl m a lo hi, env, S => bnd (evalE Γ T a env S) fun x S1 => bnd (evalO Γ T lo env S1) fun l S2 => bnd (evalO Γ T hi env S2) fun h S3 =>
    slD m x l h S3
  | .call f p es, env, S => bnd (evalEs Γ T es env S) fun xs S1 => callP Γ p f xs S1
  | .bi b es, env, S => bnd (evalEs Γ T es env S) fun xs S1 => okO (biD b xs S1) S1
  | .bf b m es, env, S => bnd (evalEs Γ T es env S) fun xs S1 => bfD b m xs S1
  | .me b o es, env, S => bnd (evalE Γ T o env S) fun x S1 => if tyM b x S1 then bnd (evalEs Γ T es env S1) fun xs S2 => meD b x xs S2 else none
  | .mf b m o es, env, S => bnd (evalE Γ T o env S) fun x S1 => if tyF b x then bnd (evalEs Γ T es env S1) fun xs S2 => mfD b m x xs S2 else none
  | .lens a, env, S => bnd (evalE Γ T a env S) fun x S1 => match (lstD S1 x).bind asInts with
    | some ns => if ns.length < 4000 then some (.ok (.int (PyProof.Rows.firstMet (fun i => ns.getD i 0) ns.length).length) S1) else none
    | none => none
  | .isi a t, env, S => bnd (evalE Γ T a env S) fun x S1 => okO ((isiD S1 x t).map .bl) S1
  | .att c o f, env, S => bnd (evalE Γ T o env S) fun x S1 => okO (fldD S1 c x f) S1
  | .mcl c f m p o es, env, S => bnd (evalE Γ T o env S) fun x S1 => if mthD S1 c x m then bnd (evalEs Γ T es env S1) fun xs S2 => callP Γ p f (x :: xs) S2 else none
  | .mk c f m es, env, S => bnd (evalEs Γ T es env S) fun xs S1 => mkC Γ f c m xs S1
  | .rev m e, env, S => bnd (evalE Γ T e env S) fun x S1 => match lstD S1 x with
    | some xs => mkL m xs.reverse S1
    | none => none
  | .fze e, env, S => bnd (evalE Γ T e env S) fun d S1 => match frz 9 d S1 with
    | some (d', S2) => some (.ok d' S2)
    | none => none
  | .lc m own tg it cond e, env, S => bnd (evalI Γ T it env S) fun xs S1 =>
    if xs.length ≤ sizeLine then bnd (lcLoop (fun x S => match asgT tg x (wipeE env (own.map (·.2))) with
      | some env1 => bnd (evalC Γ T cond env1 S) fun b S2 => match b with
        | true => bnd (evalE Γ T e env1 S2) fun y S3 => some (.ok (some y) S3)
        | false => some (.ok none S2)
      | none => none) xs S1 []) fun ys S2 => mkL m ys S2
    else none
  | .lc2 m own tg it cond vs tg1 it1 cond1 e, env, S => bnd (evalI Γ T it env S) fun xs S1 =>
    bnd (lcLoop2 (fun x S acc => match asgT tg x (wipeE env (own.map (·.2))) with
      | some env1 => bnd (evalC Γ T cond env1 S) fun b S2 => match b with
        | true => bnd (evalI Γ T it1 env1 S2) fun ys S3 => if acc.length + ys.length ≤ sizeLine then lcLoop (fun x S => match asgT tg1 x (wipeE env1 vs) with
          | some env2 => bnd (evalC Γ T cond1 env2 S) fun b S4 => match b with
            | true => bnd (evalE Γ T e env2 S4) fun y S5 => some (.ok (some y) S5)
            | false => some (.ok none S4)
          | none => none) ys S3 acc else none
        | false => some (.ok acc S2)
      | none => none) xs S1 []) fun ys S2 => mkL m ys S2
  | .lcD m own kd tg d cond e, env, S => bnd (evalE Γ T d env S) fun x S1 => match wkD kd S1 x with
    | some (xs, S2, o) => if xs.length ≤ sizeLine then bnd (lcLoop (fun x S => match asgT tg x (wipeE env (own.map (·.2))) with
      | some env1 => bnd (evalC Γ T cond env1 S) fun b S2 => match b with
        | true => bnd (evalE Γ T e env1 S2) fun y S3 => some (.ok (some y) S3)
        | false => some (.ok none S2)
      | none => none) xs S2 []) fun ys S3 => match unO o S3 with
        | some S4 => mkL m ys S4
        | none => none
      else none
    | none => none
  | .fnv f, _, S => some (.ok (.fn f) S)
  | .callv i p fs es, env, S => match env[i]? with
    | some (some (.fn f)) => if f ∈ fs then bnd (evalEs Γ T es env S) fun xs S1 => callP Γ p f xs S1 else none
    | _ => none
-- a test
@[simp] noncomputable def evalT (Γ : Gam) (T : Tab) : Ex → En → Sto → Option (Ro Bool)
  | .not a, env, S => bnd (evalT Γ T a env S) fun b S1 => some (.ok (!b) S1)
  | .and a b, env, S => bnd (evalT Γ T a env S) fun c S1 => match c with
    | true => evalT Γ T b env S1
    | false => some (.ok false S1)
  | .or a b, env, S => bnd (evalT Γ T a env S) fun c S1 => match c with
    | true => some (.ok true S1)
    | false => evalT Γ T b env S1
  | .cmp o a b, env, S => bnd (evalE Γ T a env S) fun x S1 => bnd (evalE Γ T b env S1) fun y S2 => okO (cmpD o x y S2) S2
  | .c k, env, S => okO (truD S k.d) S
  | .v i, env, S => match env[i]? with
    | some (some d) => okO (truD S d) S
    | _ => none
  | .isi a t, env, S => bnd (evalE Γ T a env S) fun x S1 => okO (isiD S1 x t) S1
  | .call f p es, env, S => bnd (bnd (evalEs Γ T es env S) fun xs S1 => callP Γ p f xs S1) fun d S1 => okO (truD S1 d) S1
  | .bi b es, env, S => bnd (bnd (evalEs Γ T es env S) fun xs S1 => okO (biD b xs S1) S1) fun d S1 => okO (truD S1 d) S1
  | .me b o es, env, S => bnd (bnd (evalE Γ T o env S) fun x S1 => if tyM b x S1 then bnd (evalEs Γ T es env S1) fun xs S2 => meD b x xs S2 else none) fun d S1 => okO (truD S1 d) S1
  | .ix a i, env, S => bnd (bnd (evalE Γ T a env S) fun x S1 => bnd (evalE Γ T i env S1) fun y S2 => okO (ixD S2 x y) S2) fun d S1 => okO (truD S1 d) S1
  | .att c o f, env, S => bnd (bnd (evalE Γ T o env S) fun x S1 => okO (fldD S1 c x f) S1) fun d S1 => okO (truD S1 d) S1
  | .mcl c f m p o es, env, S => bnd (bnd (evalE Γ T o env S) fun x S1 => if mthD S1 c x m then bnd (evalEs Γ T es env S1) fun xs S2 => callP Γ p f (x :: xs) S2 else none) fun d S1 => okO (truD S1 d) S1
  | _, _, _ => none
@[simp] noncomputable def evalEs (Γ : Gam) (T : Tab) : Exs → En → Sto → Option (Ro (List D))
  | .nil, _, S => some (.ok [] S)
  | .cons e r, env, S => bnd (evalE Γ T e env S) fun x S1 => bnd (evalEs Γ T r env S1) fun xs S2 => some (.ok (x :: xs) S2)
@[simp] noncomputable def evalO (Γ : Gam) (T : Tab) : Oe → En → Sto → Option (Ro (Option Int))
  | .no, _, S => some (.ok none S)
  | .so e, env, S => bnd (evalE Γ T e env S) fun x S1 => match x with
    | .int i => some (.ok (some i) S1)
    | _ => none
-- a comprehension: its test
@[simp] noncomputable def evalC (Γ : Gam) (T : Tab) : Oe → En → Sto → Option (Ro Bool)
  | .no, _, S => some (.ok true S)
  | .so e, env, S => evalT Γ T e env S
-- what is walked
@[simp] noncomputable def evalI (Γ : Gam) (T : Tab) : Itr → En → Sto → Option (Ro (List D))
  | .of e, env, S => bnd (evalE Γ T e env S) fun x S1 => okO (itD x) S1
  | .rng1 a, env, S => bnd (evalE Γ T a env S) fun x S1 => match x with
    | .int j => okO (rngD 0 j) S1
    | _ => none
  | .rng2 a b, env, S => bnd (evalE Γ T a env S) fun x S1 => bnd (evalE Γ T b env S1) fun y S2 => match x, y with
    | .int i, .int j => okO (rngD i j) S2
    | _, _ => none
  | .enum a, env, S => bnd (evalE Γ T a env S) fun x S1 => match x with
    | .tup xs => some (.ok (enF 0 xs) S1)
    | .lst xs => some (.ok (enF 0 xs) S1)
    | _ => none
end
def augI (o : BOp) (a b : Int) : Option Int := match o with
  | .add => some (a + b)
  | .sub => some (a - b)
  | _ => none
inductive So where
  | nx (e : En) (S : Sto) | bk (e : En) (S : Sto) | ct (e : En) (S : Sto) | rt (d : D) (S : Sto) | ex (c : Nat) (e : En) (S : Sto)
def putS (n : Nat) (k d : D) (env : En) (S : Sto) : Option So := match S[n]? with
  | some (.dct t ks vs) => if ks.length < sizeLine then (dPut (t, ks, vs) k d).map fun q => .nx env (S.set n (.dct t q.1 q.2)) else none
  | _ => none
def bnS {α : Type} (x : Option (Ro α)) (env : En) (f : α → Sto → Option So) : Option So := match x with
  | some (.ok a S) => f a S
  | some (.ex c S) => some (.ex c env S)
  | none => none
@[simp] theorem bnS_ok {α : Type} {a : α} {S : Sto} {env : En} {f : α → Sto → Option So} : bnS (some (.ok a S)) env f = f a S := rfl
@[simp] theorem bnS_ex {α : Type} {c : Nat} {S : Sto} {env : En} {f : α → Sto → Option So} : bnS (some (.ex c S)) env f = some (.ex c env S) := rfl
@[simp] theorem bnS_none {α : Type} {env : En} {f : α → Sto → Option So} : bnS none env f = none := rfl
def seqS (x : Option So) (f : En → Sto → Option So) : Option So := match x with
  | some (.nx e S) => f e S
  | r => r
@[simp] theorem seqS_nx {e : En} {S : Sto} {f : En → Sto → Option So} : seqS (some (.nx e S)) f = f e S := rfl
@[simp] theorem seqS_bk {e : En} {S : Sto} {f : En → Sto → Option So} : seqS (some (.bk e S)) f = some (.bk e S) := rfl
@[simp] theorem seqS_ct {e : En} {S : Sto} {f : En → Sto → Option So} : seqS (some (.ct e S)) f = some (.ct e S) := rfl
@[simp] theorem seqS_rt {d : D} {S : Sto} {f : En → Sto → Option So} : seqS (some (.rt d S)) f = some (.rt d S) := rfl
@[simp] theorem seqS_ex {c : Nat} {e : En} {S : Sto} {f : En → Sto → Option So} : seqS (some (.ex c e S)) f = some (.ex c e S) := rfl
@[simp] theorem seqS_none {f : En → Sto → Option So} : seqS none f = none := rfl
/-- the turns of a for -/
def forL (g : Tg) (b : En → Sto → Option So) : List D → En → Sto → Option So
  | [], env, S => some (.nx env S)
  | x :: xs, env, S => match asgT g x env with
    | none => none
    | some env1 => match b env1 S with
      | some (.nx e S1) => forL g b xs e S1
      | some (.ct e S1) => forL g b xs e S1
      | some (.bk e S1) => some (.nx e S1)
      | r => r
/-! a while: it runs to its end, or there is nothing -/
inductive Runs {α β : Type} (step : α → Option (α ⊕ β)) : Nat → α → β → Prop
  | stop {a : α} {b : β} : step a = some (.inr b) → Runs step 0 a b
  | go {a a' : α} {b : β} {n : Nat} : step a = some (.inl a') → Runs step n a' b → Runs step (n + 1) a b
theorem Runs.det {α β : Type} {step : α → Option (α ⊕ β)} : ∀ {n m : Nat} {a : α} {b c : β}, Runs step n a b → Runs step m a c → b = c
  | _, _, _, _, _, .stop e, .stop e' => by rw [e] at e'; cases e'; rfl
  | _, _, _, _, _, .stop e, .go e' _ => by rw [e] at e'; cases e'
  | _, _, _, _, _, .go e _, .stop e' => by rw [e] at e'; cases e'
  | _, _, _, _, _, .go e r, .go e' r' => by rw [e] at e'; cases e'; exact r.det r'
open Classical in
noncomputable def lfp {α β : Type} (step : α → Option (α ⊕ β)) (a : α) : Option β := if h : ∃ b n, Runs step n a b then some (choose h) else none
theorem lfp_some {α β : Type} {step : α → Option (α ⊕ β)} {a : α} {b : β} {n : Nat} (h : Runs step n a b) : lfp step a = some b := by
  have e : ∃ b n, Runs step n a b := ⟨b, n, h⟩
  unfold lfp
  rw [dif_pos e]
  obtain ⟨m, hm⟩ := Classical.choose_spec e
  exact congrArg some (hm.det h)
theorem lfp_runs {α β : Type} {step : α → Option (α ⊕ β)} {a : α} {b : β} (h : lfp step a = some b) : ∃ n, Runs step n a b := by
  unfold lfp at h
  split at h
  · rename_i e
    obtain ⟨m, hm⟩ := Classical.choose_spec e
    cases h
    exact ⟨m, hm⟩
  · cases h
theorem lfp_eq {α β : Type} {step : α → Option (α ⊕ β)} (a : α) : lfp step a = match step a with
    | none => none
    | some (.inr b) => some b
    | some (.inl a') => lfp step a' := by
  cases e : step a with
  | none =>
    cases q : lfp step a with
    | none => rfl
    | some b =>
      obtain ⟨n, r⟩ := lfp_runs q
      cases r with
      | stop e' => rw [e] at e'; cases e'
      | go e' _ => rw [e] at e'; cases e'
  | some z =>
    cases z with
    | inr b => exact lfp_some (.stop e)
    | inl a' =>
      show lfp step a = lfp step a'
      cases q : lfp step a' with
      | some b =>
        obtain ⟨n, r⟩ := lfp_runs q
        exact lfp_some (.go e r)
      | none =>
        cases q2 : lfp step a with
        | none => rfl
        | some b =>
          obtain ⟨n, r⟩ := lfp_runs q2
          cases r with
          | stop e' => rw [e] at e'; cases e'
          | go e' r' => rw [e] at e'; cases e'; rw [lfp_some r'] at q; cases q
/-- the dict that was walked is let go -/
def unSo : Option Nat → Option So → Option So
  | none, r => r
  | some n, some (.nx e S) => (unS n S).map (.nx e)
  | some n, some (.bk e S) => (unS n S).map (.bk e)
  | some n, some (.ct e S) => (unS n S).map (.ct e)
  | some n, some (.rt d S) => (unS n S).map (.rt d)
  | some _, _ => none
def whlStep (t : En → Sto → Option (Ro Bool)) (b : En → Sto → Option So) (z : En × Sto) : Option ((En × Sto) ⊕ So) := match t z.1 z.2 with
  | none => none
  | some (.ex c S) => some (.inr (.ex c z.1 S))
  | some (.ok false S) => some (.inr (.nx z.1 S))
  | some (.ok true S) => match b z.1 S with
    | none => none
    | some (.nx e S1) => some (.inl (e, S1))
    | some (.ct e S1) => some (.inl (e, S1))
    | some (.bk e S1) => some (.inr (.nx e S1))
    | some r => some (.inr r)
/-- a list of the store, from now on standing still -/
def fzD (i : Nat) (env : En) (S : Sto) : Option (En × Sto) := match env[i]? with
  | some (some (.ref n)) => match S[n]? with
    | some (.lst xs) => if pures xs then some (env.set i (some (.lst xs)), S.set n .dead) else none
    | some (.dct t ks vs) => if pures ks && pures vs then some (env.set i (some (.dct t ks vs)), S.set n .dead) else none
    | _ => none
  | _ => none
/-- an except clause's suite: class c was caught -/
@[simp] noncomputable def hdX (Γ : Gam) (T : Tab) (c : Nat) : Hd → En → Sto → Option So
  | .ret x, env, S => match evalE Γ T x env S with
    | some (.ok d S1) => some (.rt d S1)
    | _ => none
  | .retI s j, env, S => match T.sub c j with
    | some b => some (.rt (.tup [s.d, .bl b]) S)
    | none => none
  | .asg i x, env, S => match evalE Γ T x env S with
    | some (.ok d S1) => some (.nx (env.set i (some d)) S1)
    | _ => none
def nmX (nm : Option Nat) (env : En) : En := match nm with
  | some i => env.set i none
  | none => env
@[simp] theorem nmX_some {i : Nat} {env : En} : nmX (some i) env = env.set i none := rfl
@[simp] theorem nmX_none {env : En} : nmX none env = env := rfl
def tryR (T : Tab) (c : Nat) (nm : Option Nat) (f : Nat → En → Sto → Option So) (r : Option So) : Option So := match r with
  | some (.ex c' e S) => match T.sub c' c with
    | some true => f c' (nmX nm e) S
    | some false => some (.ex c' e S)
    | none => none
  | r => r
@[simp] theorem tryR_nx {T : Tab} {c : Nat} {nm : Option Nat} {f : Nat → En → Sto → Option So} {e : En} {S : Sto} : tryR T c nm f (some (.nx e S)) = some (.nx e S) := rfl
@[simp] theorem tryR_rt {T : Tab} {c : Nat} {nm : Option Nat} {f : Nat → En → Sto → Option So} {e : D} {S : Sto} : tryR T c nm f (some (.rt e S)) = some (.rt e S) := rfl
theorem tryR_ex {T : Tab} {c c' : Nat} {nm : Option Nat} {f : Nat → En → Sto → Option So} {e : En} {S : Sto} (h : T.sub c' c = some true) : tryR T c nm f (some (.ex c' e S)) = f c' (nmX nm e) S := by
  unfold tryR; simp only [h]
mutual
@[simp] noncomputable def exec (Γ : Gam) (T : Tab) : Stm → En → Sto → Option So
  | .asg t e, env, S => bnS (evalE Γ T e env S) env fun d S1 => match asgT t d env with
    | some env1 => some (.nx env1 S1)
    | none => none
  | .asgC i m own tg it cond x, env, S => bnS (evalE Γ T (.lc m own tg it cond x) env S) env fun d S1 => some (.nx (env.set i (some d)) S1)
  | .asgCD i m own kd tg d cond x, env, S => bnS (evalE Γ T (.lcD m own kd tg d cond x) env S) env fun d S1 => some (.nx (env.set i (some d)) S1)
  | .asgS o i e, env, S => bnS (evalE Γ T e env S) env fun d S1 => bnS (evalE Γ T o env S1) env fun x S2 => bnS (evalE Γ T i env S2) env fun k S3 => match x, k with
    | .ref n, .int k => match getL S3 n with
      | some xs => match ixN xs.length k with
        | some j => some (.nx env (S3.set n (.lst (xs.set j d))))
        | none => none
      | _ => putS n (.int k) d env S3
    | .ref n, k => putS n k d env S3
    | _, _ => none
  | .aug i o e, env, S => match env[i]? with
    | some (some x) => bnS (evalE Γ T e env S) env fun y S1 => match x, y with
      | .int a, .int b => match augI o a b with
        | some z => some (.nx (env.set i (some (.int z))) S1)
        | none => none
      | _, _ => none
    | _ => none
  | .augS a i o e, env, S => bnS (evalE Γ T a env S) env fun x S1 => bnS (evalE Γ T i env S1) env fun k S2 => match x, k with
    | .ref n, .int k => match getL S2 n with
      | some xs => match atI xs k with
        | some (.int v) => bnS (evalE Γ T e env S2) env fun y S3 => match y, getL S3 n with
          | .int w, some ys => match augI o v w, ixN ys.length k with
            | some z, some j => some (.nx env (S3.set n (.lst (ys.set j (.int z)))))
            | _, _ => none
          | _, _ => none
        | _ => none
      | _ => none
    | _, _ => none
  | .ex e, env, S => bnS (evalE Γ T e env S) env fun _ S1 => some (.nx env S1)
  | .ret e, env, S => bnS (evalE Γ T e env S) env fun d S1 => some (.rt d S1)
  | .retN, env, S => some (.rt .non S)
  | .ifs c a b, env, S => bnS (evalT Γ T c env S) env fun k S1 => match k with
    | true => execs Γ T a env S1
    | false => execs Γ T b env S1
  | .for t it b, env, S => bnS (evalI Γ T it env S) env fun xs S1 => forL t (fun e S => execs Γ T b e S) xs env S1
  | .forD kd t e b, env, S => bnS (evalE Γ T e env S) env fun d S1 => match wkD kd S1 d with
    | some (xs, S2, o) => unSo o (forL t (fun e S => execs Γ T b e S) xs env S2)
    | none => none
  | .whl c b, env, S => lfp (whlStep (fun e S => evalT Γ T c e S) (fun e S => execs Γ T b e S)) (env, S)
  | .brk, env, S => some (.bk env S)
  | .cont, env, S => some (.ct env S)
  | .pass, env, S => some (.nx env S)
  | .raise c, env, S => some (.ex c env S)
  | .asgA c o f e, env, S => bnS (evalE Γ T e env S) env fun d S1 => bnS (evalE Γ T o env S1) env fun x S2 => match x with
    | .ref n => match S2[n]? with
      | some (.ins c' ns vs) => if c' = c ∧ ns.length < 1000 then some (.nx env (S2.set n (.ins c' (putA f d ns vs).1 (putA f d ns vs).2))) else none
      | _ => none
    | _ => none
  | .tryE b c nm h, env, S => tryR T c nm (fun c' e S1 => hdX Γ T c' h e S1) (execs Γ T b env S)
@[simp] noncomputable def execs (Γ : Gam) (T : Tab) : Stms → En → Sto → Option So
  | .nil, env, S => some (.nx env S)
  | .cons s r, env, S => seqS (exec Γ T s env S) fun e S1 => execs Γ T r e S1
  | .fz i r, env, S => match fzD i env S with
    | some (e, S1) => execs Γ T r e S1
    | none => none
  | .fzd i r, env, S => match env[i]? with
    | some (some d) => match frz 9 d S with
      | some (d', S1) => execs Γ T r (env.set i (some d')) S1
      | none => none
    | _ => none
end
/-- an own class: its attributes, the index of its __init__, of its methods -/
structure Cl where
  name : Str
  fs : List Str
  ini : Nat
  ms : List (Str × Nat)
/-- the program's defs: how many slots, the body -/
structure Fn where
  name : Str
  ps : List Str
  N : List Str
  body : Stms
def envOf (n : Nat) (ds : List D) : En := ds.map some ++ List.replicate (n - ds.length) none
def outS (r : Option So) : Option (Ro D) := match r with
  | some (.nx _ S) => some (.ok .non S)
  | some (.rt d S) => some (.ok d S)
  | some (.ex c _ S) => some (.ex c S)
  | _ => none
@[simp] theorem outS_nx {e : En} {S : Sto} : outS (some (.nx e S)) = some (.ok .non S) := rfl
@[simp] theorem outS_rt {d : D} {S : Sto} : outS (some (.rt d S)) = some (.ok d S) := rfl
@[simp] theorem outS_ex {c : Nat} {e : En} {S : Sto} : outS (some (.ex c e S)) = some (.ex c S) := rfl
noncomputable def callK (F : List Fn) (T : Tab) : Nat → Gam
  | 0 => fun _ _ _ => none
  | k + 1 => fun f ds S => match F[f]? with
    | some fn => if ds.length = fn.ps.length then outS (execs (callK F T k) T fn.body (envOf fn.N.length ds) S) else none
    | none => none
end Ip
/-! ## What an evaluation leaves; the operations by values -/
namespace Ip
open PySem PySem.Spec PyProof.Rows L2

section
variable {K : PySem.W.Frag} {M : Am}
def Res (K : PySem.W.Frag) (M : Am) (W : WX) (σ : L2.St) (G Φ : Hp) (μ : Mu) {α β : Type} (r : Option (Ro α)) (R : Hp → Mu → α → β → Prop) (Q : β → Hp → Prop) : Prop :=
  match r with
  | some (.ok a S) => ∀ G' μ' H' b, Gr Φ G μ G' μ' → Rel K M G' Φ μ' S H' → R G' μ' a b → Q b H'
  | some (.ex c S) => ∀ G' μ' H', Gr Φ G μ G' μ' → Rel K M G' Φ μ' S H' → W (.ref (M.exc c)) none σ H'
  | none => False
variable {W : WX} {σ : L2.St} {G G1 Φ : Hp} {μ μ1 : Mu} {α β γ δ : Type}
theorem Res.mono {r : Option (Ro α)} {R : Hp → Mu → α → β → Prop} {Q : β → Hp → Prop} (g : Gr Φ G μ G1 μ1) (h : Res K M W σ G Φ μ r R Q) : Res K M W σ G1 Φ μ1 r R Q := by
  cases r with
  | none => exact h
  | some z =>
    cases z with
    | ok a S => exact fun G' μ' H' b g' => h G' μ' H' b (g.trans g')
    | ex c S => exact fun G' μ' H' g' => h G' μ' H' (g.trans g')
theorem Res.imp {r : Option (Ro α)} {R : Hp → Mu → α → β → Prop} {Q Q' : β → Hp → Prop} (h : Res K M W σ G Φ μ r R Q) (f : ∀ b H, Q b H → Q' b H) : Res K M W σ G Φ μ r R Q' := by
  cases r with
  | none => exact h
  | some z =>
    cases z with
    | ok a S => exact fun G' μ' H' b g' r' q => f _ _ (h G' μ' H' b g' r' q)
    | ex c S => exact h
/-- where evaluation stands between two parts -/
def Mid (K : PySem.W.Frag) (M : Am) (W : WX) (σ : L2.St) (G Φ : Hp) (μ : Mu) {α β γ δ : Type} (f : α → Sto → Option (Ro γ)) (Ra : Hp → Mu → α → β → Prop) (Rc : Hp → Mu → γ → δ → Prop) (Q : δ → Hp → Prop) (b : β) (H1 : Hp) : Prop :=
  ∃ G1 μ1 S1 a, Gr Φ G μ G1 μ1 ∧ Rel K M G1 Φ μ1 S1 H1 ∧ Ra G1 μ1 a b ∧ Res K M W σ G1 Φ μ1 (f a S1) Rc Q
theorem Res.bind {r : Option (Ro α)} {f : α → Sto → Option (Ro γ)} {Ra : Hp → Mu → α → β → Prop} {Rc : Hp → Mu → γ → δ → Prop} {Q : δ → Hp → Prop} (h : Res K M W σ G Φ μ (bnd r f) Rc Q) :
    Res K M W σ G Φ μ r Ra (Mid K M W σ G Φ μ f Ra Rc Q) := by
  cases r with
  | none => exact h
  | some z =>
    cases z with
    | ok a S => exact fun G' μ' H' b g' r' q => ⟨G', μ', S, a, g', r', q, Res.mono g' h⟩
    | ex c S => exact h
/-- a value that was there -/
theorem Res.now {a : α} {S : Sto} {H : Hp} {b : β} {R : Hp → Mu → α → β → Prop} {Q : β → Hp → Prop} (h : Res K M W σ G Φ μ (some (.ok a S)) R Q) (r : Rel K M G Φ μ S H) (q : R G μ a b) : Q b H :=
  h G μ H b .refl r q
end
abbrev rD (K : PySem.W.Frag) (M : Am) : Hp → Mu → D → V → Prop := fun G μ d v => RD K M G μ d v
abbrev rDs (K : PySem.W.Frag) (M : Am) : Hp → Mu → List D → List V → Prop := fun G μ d v => RDs K M G μ d v
abbrev rB : Hp → Mu → Bool → Bool → Prop := fun _ _ a b => a = b
/-- a new list, of the store or standing still -/
theorem res_mkL {K : PySem.W.Frag} {M : Am} {W : WX} {σ : L2.St} {G Φ : Hp} {μ : Mu} {m : Bool} {S : Sto} {H : Hp} {xs : List D} {ys : List V} {Q : VK} (h : Res K M W σ G Φ μ (mkL m xs S) (rD K M) Q) (r : Rel K M G Φ μ S H) (q : RDs K M G μ xs ys) :
    ∀ p, H p = none → Q (.ref p) (upd H p (.lst ys)) := by
  intro p hp
  cases m with
  | true =>
    rw [mkL_t] at h
    have mm : ∀ n a, μ n = some a → muAdd μ S.length p n = some a := fun n a e => by
      unfold muAdd
      rw [if_neg (fun z => by have := r.ub n a e; omega)]
      exact e
    obtain ⟨r', g'⟩ := r.fresh (ob := .lst xs) (u := .lst ys) hp ⟨ys, upd_same, RDs.grow (fun _ _ h => h) mm _ _ q⟩
    exact h G (muAdd μ S.length p) _ _ g' r' (.ref (by unfold muAdd; rw [if_pos rfl]))
  | false =>
    rw [mkL_f] at h
    obtain ⟨r', g'⟩ := r.still (u := .lst ys) hp
    exact h _ μ _ _ g' r' (.lst upd_same (RDs.grow g'.g g'.m _ _ q))
theorem res_mkD0 {K : PySem.W.Frag} {M : Am} {W : WX} {σ : L2.St} {G Φ : Hp} {μ : Mu} {m : Bool} {S : Sto} {H : Hp} {kk : List Key} {vs : List D} {ys : List V} {Q : VK} (h : Res K M W σ G Φ μ (mkD m 0 (kk.map kD) vs S) (rD K M) Q) (r : Rel K M G Φ μ S H) (hl : kk.length = ys.length) (q : RDs K M G μ vs ys) :
    ∀ p, H p = none → Q (.ref p) (upd H p (.dK (kk.zip ys))) := by
  intro p hp
  cases m with
  | true =>
    rw [mkD_t] at h
    have mm : ∀ n a, μ n = some a → muAdd μ S.length p n = some a := fun n a e => by
      unfold muAdd
      rw [if_neg (fun z => by have := r.ub n a e; omega)]
      exact e
    obtain ⟨r', g'⟩ := r.fresh (ob := .dct 0 (kk.map kD) vs) (u := .dK (kk.zip ys)) hp (.inl ⟨rfl, kk, ys, rfl, hl, RDs.grow (fun _ _ h => h) mm _ _ q, upd_same⟩)
    exact h G (muAdd μ S.length p) _ _ g' r' (.ref (by unfold muAdd; rw [if_pos rfl]))
  | false =>
    rw [mkD_f] at h
    obtain ⟨r', g'⟩ := r.still (u := .dK (kk.zip ys)) hp
    exact h _ μ _ _ g' r' (.dK rfl hl (RDs.grow g'.g g'.m _ _ q) upd_same)
theorem res_mkD1 {K : PySem.W.Frag} {M : Am} {W : WX} {σ : L2.St} {G Φ : Hp} {μ : Mu} {m : Bool} {S : Sto} {H : Hp} {kk : List (List Key)} {vs : List D} {ys : List V} {Q : VK} (h : Res K M W σ G Φ μ (mkD m 1 (kk.map fun k => .tup (k.map kD)) vs S) (rD K M) Q) (r : Rel K M G Φ μ S H) (hl : kk.length = ys.length) (q : RDs K M G μ vs ys) :
    ∀ p, H p = none → Q (.ref p) (upd H p (.dT (kk.zip ys))) := by
  intro p hp
  cases m with
  | true =>
    rw [mkD_t] at h
    have mm : ∀ n a, μ n = some a → muAdd μ S.length p n = some a := fun n a e => by
      unfold muAdd
      rw [if_neg (fun z => by have := r.ub n a e; omega)]
      exact e
    obtain ⟨r', g'⟩ := r.fresh (ob := .dct 1 (kk.map fun k => .tup (k.map kD)) vs) (u := .dT (kk.zip ys)) hp (.inr ⟨rfl, kk, ys, rfl, hl, RDs.grow (fun _ _ h => h) mm _ _ q, upd_same⟩)
    exact h G (muAdd μ S.length p) _ _ g' r' (.ref (by unfold muAdd; rw [if_pos rfl]))
  | false =>
    rw [mkD_f] at h
    obtain ⟨r', g'⟩ := r.still (u := .dT (kk.zip ys)) hp
    exact h _ μ _ _ g' r' (.dT rfl hl (RDs.grow g'.g g'.m _ _ q) upd_same)
/-- a new tuple -/
theorem res_tup {K : PySem.W.Frag} {M : Am} {W : WX} {σ : L2.St} {G Φ : Hp} {μ : Mu} {S : Sto} {H : Hp} {xs : List D} {ys : List V} {Q : VK} (h : Res K M W σ G Φ μ (some (.ok (.tup xs) S)) (rD K M) Q) (r : Rel K M G Φ μ S H) (q : RDs K M G μ xs ys) :
    ∀ p, H p = none → Q (.ref p) (upd H p (.tup ys)) := by
  intro p hp
  obtain ⟨r', g'⟩ := r.still (u := .tup ys) hp
  exact h _ μ _ _ g' r' (.tup upd_same (RDs.grow g'.g g'.m _ _ q))

/-! ### reading lists -/
section
variable {K : PySem.W.Frag} {M : Am} {G Φ H : Hp} {μ : Mu} {S : Sto}
theorem Rel.sq (r : Rel K M G Φ μ S H) {a : Addr} {xs : List V} (h : SqL K G a xs) : SqL K H a xs := by
  rcases h with (h | ⟨o, h⟩) | h
  · exact .inl (.inl (r.g _ _ h).lst)
  · exact .inl (.inr ⟨o, (r.g _ _ h).frz⟩)
  · exact .inr h
theorem lstD_ok (r : Rel K M G Φ μ S H) {d : D} {v : V} {xs : List D} (q : RD K M G μ d v) (e : lstD S d = some xs) : ∃ p ys, v = .ref p ∧ H p = some (.lst ys) ∧ RDs K M G μ xs ys := by
  cases q with
  | lst h q => cases e; exact ⟨_, _, rfl, (r.g _ _ h).lst, q⟩
  | ref h =>
    rename_i n a
    obtain ⟨ys, h1, h2⟩ := r.look (getL_of e) h
    exact ⟨a, ys, rfl, h1, h2⟩
  | _ => cases e
theorem seqD_ok (r : Rel K M G Φ μ S H) {d : D} {v : V} {xs : List D} (q : RD K M G μ d v) (e : seqD S d = some xs) : ∃ p ys, v = .ref p ∧ (SqL K H p ys ∨ SqT K H p ys) ∧ RDs K M G μ xs ys := by
  cases q with
  | tup h q => cases e; exact ⟨_, _, rfl, .inr (SqT.of (r.g _ _ h).tup), q⟩
  | lst h q => cases e; exact ⟨_, _, rfl, .inl (SqL.of (r.g _ _ h).lst), q⟩
  | scr h => cases e; exact ⟨_, _, rfl, .inl (r.sq h), RDs.ints _⟩
  | ref h =>
    rename_i n a
    obtain ⟨ys, h1, h2⟩ := r.look (getL_of e) h
    exact ⟨a, ys, rfl, .inl (SqL.of h1), h2⟩
  | _ => cases e
theorem asInts_ok : ∀ {ds : List D} {ns : List Int}, asInts ds = some ns → ds = ns.map .int
  | [], ns, e => by cases e; rfl
  | .int i :: r, ns, e => by
    unfold asInts at e
    cases h : asInts r with
    | none => rw [h] at e; cases e
    | some z => rw [h] at e; cases e; rw [List.map_cons, asInts_ok h]
  | .non :: r, ns, e => by cases e
  | .bl _ :: r, ns, e => by cases e
  | .str _ :: r, ns, e => by cases e
  | .tup _ :: r, ns, e => by cases e
  | .lst _ :: r, ns, e => by cases e
  | .scr _ :: r, ns, e => by cases e
  | .dct _ _ _ :: r, ns, e => by cases e
  | .obj _ _ _ :: r, ns, e => by cases e
  | .ref _ :: r, ns, e => by cases e
  | .fn _ :: r, ns, e => by cases e
theorem asBls_ok : ∀ {ds : List D} {ns : List Bool}, asBls ds = some ns → ds = ns.map .bl
  | [], ns, e => by cases e; rfl
  | .bl i :: r, ns, e => by
    unfold asBls at e
    cases h : asBls r with
    | none => rw [h] at e; cases e
    | some z => rw [h] at e; cases e; rw [List.map_cons, asBls_ok h]
  | .non :: r, ns, e => by cases e
  | .int _ :: r, ns, e => by cases e
  | .str _ :: r, ns, e => by cases e
  | .tup _ :: r, ns, e => by cases e
  | .lst _ :: r, ns, e => by cases e
  | .scr _ :: r, ns, e => by cases e
  | .dct _ _ _ :: r, ns, e => by cases e
  | .obj _ _ _ :: r, ns, e => by cases e
  | .ref _ :: r, ns, e => by cases e
  | .fn _ :: r, ns, e => by cases e
theorem asStrs_ok : ∀ {ds : List D} {ns : List Str}, asStrs ds = some ns → ds = ns.map .str
  | [], ns, e => by cases e; rfl
  | .str i :: r, ns, e => by
    unfold asStrs at e
    cases h : asStrs r with
    | none => rw [h] at e; cases e
    | some z => rw [h] at e; cases e; rw [List.map_cons, asStrs_ok h]
  | .non :: r, ns, e => by cases e
  | .int _ :: r, ns, e => by cases e
  | .bl _ :: r, ns, e => by cases e
  | .tup _ :: r, ns, e => by cases e
  | .lst _ :: r, ns, e => by cases e
  | .scr _ :: r, ns, e => by cases e
  | .dct _ _ _ :: r, ns, e => by cases e
  | .obj _ _ _ :: r, ns, e => by cases e
  | .ref _ :: r, ns, e => by cases e
  | .fn _ :: r, ns, e => by cases e
theorem atI_RDs {xs : List D} {ys : List V} {i : Int} {d : D} (q : RDs K M G μ xs ys) (e : atI xs i = some d) : ∃ v, atI ys i = some v ∧ RD K M G μ d v := by
  unfold atI at e ⊢
  rw [q.length] at e
  cases h : ixN ys.length i with
  | none => rw [h] at e; cases e
  | some j =>
    rw [h] at e
    obtain ⟨v, h1, h2⟩ := q.get e
    exact ⟨v, h1, h2⟩
end

/-! ### tuple * 0, tuple * 1, text * int -/
theorem tuple_times1 (l : Addr) (items : Array Value) (n : Nat) (dd : Option Addr) (sl : Array (Option Value)) (u : Tok) :
    Meets (Builtin.«tuple.__mul__» ⟨[.ref l, .int 1 u], []⟩) (fun _ R s => s.heap.get? l = some { cls := .type "tuple", dict := dd, data := .seq items n, slots := sl } ∧ R (.ok (.ret (Value.ref l))) s) :=
  .of_wp fun prog w A R s h => by
    obtain ⟨hp, g, d, tk, os⟩ := s
    obtain ⟨hl, h⟩ := h
    have f1 := AutoSeq1.idx_int
    wp_walk using wpAny_loadPart' hl
    repeat (first
      | (refine wpAny_ite_false (by decide) ?_; wp_walk using wpAny_loadPart' hl)
      | (refine wpAny_ite_true (by simp) ?_; wp_walk using wpAny_loadPart' hl))
    exact ⟨_, rfl, h⟩
theorem tuple_times0 (l : Addr) (items : Array Value) (n : Nat) (dd : Option Addr) (sl : Array (Option Value)) (u : Tok) (c1 : items.isEmpty = false) :
    Meets (Builtin.«tuple.__mul__» ⟨[.ref l, .int 0 u], []⟩) (fun _ R s => s.heap.get? l = some { cls := .type "tuple", dict := dd, data := .seq items n, slots := sl } ∧
      R (.ok (.ret (Value.ref s.heap.objs.size))) { s with heap := s.heap.push { cls := Value.type "tuple", data := Data.seq #[] }, toks := s.toks }) :=
  .of_wp fun prog w A R s h => by
    obtain ⟨hp, g, d, tk, os⟩ := s
    obtain ⟨hl, h⟩ := h
    have f1 := AutoSeq1.idx_int
    wp_walk using wpAny_loadPart' hl
    repeat (first
      | (refine wpAny_ite_false (by decide) ?_; wp_walk using wpAny_loadPart' hl)
      | (refine wpAny_ite_false (by simp [c1]) ?_; wp_walk using wpAny_loadPart' hl)
      | (refine wpAny_ite_true (by simp) ?_; wp_walk using wpAny_loadPart' hl))
    exact ⟨_, rfl, h⟩
/-- tuple * 0, tuple * 1 -/
def rTimes (K : PySem.W.Frag) : R2 := fun x y H Q => ∃ l k xs, x = .ref l ∧ y = .int k ∧ SqT K H l xs ∧ xs ≠ [] ∧ ((k = 1 ∧ Q (.ref l) H) ∨ (k = 0 ∧ ∀ p, H p = none → Q (.ref p) (upd H p (.tup []))))
theorem op_times {X : Cx} : OpR X (binaryOp .Mult) (rTimes X.K) := by
  intro pins s σ H x y v u Q I rx ry h
  obtain ⟨l, k, xs, rfl, rfl, hT, hne, h⟩ := h
  cases rx
  obtain ⟨tk, rfl⟩ := ry
  obtain ⟨its, r, ⟨⟨oc, od, odt, osl⟩, ho, hc, m, hd⟩, hs⟩ := I.tuple hT
  simp only at hc hd
  subst hc hd
  have hi : its.toArray.isEmpty = false := by
    cases its with
    | nil => exact absurd (List.eq_nil_of_length_eq_zero (r.length : xs.length = 0)) hne
    | cons a b => rfl
  rcases h with ⟨rfl, q⟩ | ⟨rfl, q⟩
  · exact wpAny_binaryOp_repeat_ref (T := "tuple") (U := "int") (by decide) ⟨_, ho, rfl⟩ (fun s' => typeIs_int s' 1 tk) noFill_tuple_mul F.fills_int_mul F.slot_int_rmul repeat_tuple F.slot_int_index.lookup
      (call_meets F.slot_int_rmul (typeIs_int s 1 tk) F.entry_int_rmul (F.args_int_rmul_2 _ _) (int_rmul_tuple 1 tk l its.toArray m od osl)
        ⟨ho, rfl, ⟨_, ho, rfl⟩, call_meets F.slot_tuple_mul ⟨_, ho, rfl⟩ F.entry_tuple_mul (F.args_tuple_mul_2 _ _) (tuple_times1 l its.toArray m od osl tk) ⟨ho, ⟨.ref l, H, I, rfl, q⟩⟩⟩)
  · refine wpAny_binaryOp_repeat_ref (T := "tuple") (U := "int") (by decide) ⟨_, ho, rfl⟩ (fun s' => typeIs_int s' 0 tk) noFill_tuple_mul F.fills_int_mul F.slot_int_rmul repeat_tuple F.slot_int_index.lookup
      (call_meets F.slot_int_rmul (typeIs_int s 0 tk) F.entry_int_rmul (F.args_int_rmul_2 _ _) (int_rmul_tuple 0 tk l its.toArray m od osl)
        ⟨ho, rfl, ⟨_, ho, rfl⟩, call_meets F.slot_tuple_mul ⟨_, ho, rfl⟩ F.entry_tuple_mul (F.args_tuple_mul_2 _ _) (tuple_times0 l its.toArray m od osl tk hi) ⟨ho, ?_⟩⟩)
    exact ⟨.ref s.heap.objs.size, _, I.laid (t' := s.toks) (o := .tup []) (fun b ob q => Heap.get?_push_of_some _ q) (Nat.le_refl _) ⟨Nat.zero_le _, [], .nil, IsTup.new _ _⟩, rfl, q _ (I.hok.fresh (Nat.le_refl _))⟩
/-- text * int -/
def rTimesS : R2 := fun x y H Q => ∃ z k, x = .str z ∧ y = .int k ∧ 0 ≤ k ∧ k ≤ 1000 ∧ z.length ≤ 1000 ∧ Q (.str (Txt.mul z k)) H
theorem op_timesS {X : Cx} : OpR X (binaryOp .Mult) rTimesS := by
  intro pins s σ H x y v u Q I rx ry h
  obtain ⟨z, k, rfl, rfl, h0, h1, hz, q⟩ := h
  obtain ⟨t, rfl⟩ := rx
  obtain ⟨t2, rfl⟩ := ry
  have hm : z.length * k.toNat ≤ 1000 * 1000 := Nat.mul_le_mul hz (by omega)
  refine SB.mul ⟨?_, fun c _ => ?_, fun _ _ => ?_⟩ fun t' tk => ⟨.str (Txt.mul z k), H, I.tok tk, ⟨t', rfl⟩, q⟩
  · rw [decide_eq_false (by omega), decide_eq_false (by omega)]; rfl
  · have k1 : 1 ≤ k := by omega
    have e : (2 ^ 63 - 1 : Int) / k ≥ (2 ^ 63 - 1) / 1000 := by
      rw [ge_iff_le, Int.le_ediv_iff_mul_le (by omega)]
      have : ((2 : Int) ^ 63 - 1) / 1000 * k ≤ (2 ^ 63 - 1) / 1000 * 1000 := Int.mul_le_mul_of_nonneg_left h1 (by decide)
      have z2 : ((2 : Int) ^ 63 - 1) / 1000 * 1000 ≤ 2 ^ 63 - 1 := by decide
      omega
    have z3 : (1000 : Int) < (2 ^ 63 - 1) / 1000 := by decide
    omega
  · unfold Builtin.Str.tooLong
    rw [sizeLine_eq]
    exact decide_eq_false (by omega)
/-! ### binary operators -/
abbrev rCatS : R2 := fun x y H Q => ∃ i j, x = .str i ∧ y = .str j ∧ i.length + j.length ≤ sizeLine ∧ Q (.str (i ++ j)) H
theorem op_fdivL {X : Cx} : OpR X (binaryOp .FloorDiv) (rI (fun _ j => 0 < j ∧ j < 2 ^ 400) fun i j => .int (i / j)) := opI fun i j _ _ _ _ _ hc q => by
  have h1 : (0 : Int) < j := hc.1
  refine floordiv_int (by omega) (by rw [Int.fdiv_eq_ediv_of_nonneg i (by omega)]; exact q) (.inl (PyProof.noPylong_of_log2 ?_))
  have h2 : j.natAbs < 2 ^ 400 := by
    have h3 := hc.2
    have e : ((2 : Int) ^ 400) = ((2 ^ 400 : Nat) : Int) := by push_cast; rfl
    rw [e] at h3
    omega
  have := (Nat.log2_lt (by omega)).mpr h2
  omega
def uBin (K : PySem.W.Frag) : BOp → R2
  | .add => fun x y H Q => ((rI0 (fun i j => .int (i + j)) x y H Q ∨ rCatS x y H Q) ∨ rCat x y H Q) ∨ rCatA K x y H Q
  | .sub => rI0 (fun i j => .int (i - j))
  | .mul => fun x y H Q => ((rI CMul (fun i j => .int (i * j)) x y H Q ∨ rRep x y H Q) ∨ rRepT K x y H Q) ∨ (rTimes K x y H Q ∨ rTimesS x y H Q)
  | .fdiv => rI (fun _ j => 0 < j ∧ j < 2 ^ 400) (fun i j => .int (i / j))
  | .mod => rI (fun _ j => 0 < j) (fun i j => .int (i % j))
  | .pow => rI CPow (fun i j => .int (i ^ j.toNat))
def BOp.op : BOp → Operator
  | .add => .Add | .sub => .Sub | .mul => .Mult | .fdiv => .FloorDiv | .mod => .Mod | .pow => .Pow
theorem op_uBin {X : Cx} : ∀ o : BOp, OpR X (binaryOp o.op) (uBin X.K o)
  | .add => ((op_add.or op_add_str).or op_cat).or op_catA
  | .sub => op_sub
  | .mul => ((op_mul.or op_rep).or op_repT).or (op_times.or op_timesS)
  | .fdiv => op_fdivL
  | .mod => op_mod
  | .pow => op_pow
section
variable {K : PySem.W.Frag} {M : Am} {W : WX} {σ : L2.St} {G Φ : Hp} {μ : Mu} {S : Sto} {H : Hp} {Q : VK}
theorem binI_ok {o : BOp} {i j : Int} (r : Rel K M G Φ μ S H) (h : Res K M W σ G Φ μ (okO ((binI o i j).map .int) S) (rD K M) Q) : uBin K o (.int i) (.int j) H Q := by
  cases e : binI o i j with
  | none => rw [e] at h; exact h.elim
  | some z =>
    rw [e] at h
    have q : Q (.int z) H := h.now r (.int z)
    cases o with
    | add => cases e; exact .inl (.inl (.inl ⟨i, j, rfl, rfl, q⟩))
    | sub => cases e; exact ⟨i, j, rfl, rfl, q⟩
    | mul =>
      simp only [binI] at e
      split at e
      · rename_i c; cases e; exact .inl (.inl (.inl ⟨i, j, rfl, rfl, c, q⟩))
      · cases e
    | fdiv =>
      simp only [binI] at e
      split at e
      · rename_i c; cases e; exact ⟨i, j, rfl, rfl, c, q⟩
      · cases e
    | mod =>
      simp only [binI] at e
      split at e
      · rename_i c; cases e; exact ⟨i, j, rfl, rfl, c, q⟩
      · cases e
    | pow =>
      simp only [binI] at e
      split at e
      · rename_i c; cases e; exact ⟨i, j, rfl, rfl, c, q⟩
      · cases e
theorem binRep_ok {m : Bool} {x : D} {v : V} {k : Int} {xs : List D} (r : Rel K M G Φ μ S H) (q : RD K M G μ x v) (e : lstD S x = some xs) (c : -(2 ^ 63) ≤ k ∧ k < 2 ^ 63 ∧ xs.length * k.toNat ≤ sizeLine)
    (h : Res K M W σ G Φ μ (mkL m (List.replicate k.toNat xs).flatten S) (rD K M) Q) : uBin K .mul v (.int k) H Q := by
  obtain ⟨p, ys, rfl, h1, h2⟩ := lstD_ok r q e
  exact .inl (.inl (.inr ⟨p, k, ys, rfl, rfl, h1, c.1, c.2.1, by rw [← h2.length]; exact c.2.2, res_mkL h r (h2.replicate _)⟩))
theorem binCat_ok {m : Bool} {x y : D} {v u : V} {xs ys : List D} (r : Rel K M G Φ μ S H) (q : RD K M G μ x v) (q2 : RD K M G μ y u) (e : lstD S x = some xs) (e2 : lstD S y = some ys) (c : xs.length + ys.length ≤ sizeLine)
    (h : Res K M W σ G Φ μ (mkL m (xs ++ ys) S) (rD K M) Q) : uBin K .add v u H Q := by
  obtain ⟨p, zs, rfl, h1, h2⟩ := lstD_ok r q e
  obtain ⟨p2, ws, rfl, h3, h4⟩ := lstD_ok r q2 e2
  exact .inl (.inr ⟨p, p2, zs, ws, rfl, rfl, h1, h3, by rw [← h2.length, ← h4.length]; exact c, res_mkL h r (h2.append h4)⟩)
theorem binD_ok {o : BOp} {m : Bool} {x y : D} {v u : V} (r : Rel K M G Φ μ S H) (qx : RD K M G μ x v) (qy : RD K M G μ y u) (h : Res K M W σ G Φ μ (binD o m x y S) (rD K M) Q) : uBin K o v u H Q := by
  unfold binD at h
  split at h
  · -- int int
    cases qx; cases qy
    cases m with
    | true => exact h.elim
    | false => exact binI_ok r h
  · cases qx; cases qy
    cases m with
    | true => exact h.elim
    | false =>
      cases o with
      | add =>
        simp only [Bool.false_eq_true, if_false] at h
        split at h
        · rename_i c; exact .inl (.inl (.inr ⟨_, _, rfl, rfl, c, h.now r (.str _)⟩))
        · exact h.elim
      | _ => exact h.elim
  · cases qx with
    | tup h1 q1 =>
      cases qy with
      | tup h2 q2 =>
        cases m with
        | true => exact h.elim
        | false =>
          cases o with
          | add =>
            simp only [Bool.false_eq_true, if_false] at h
            split at h
            · rename_i c
              refine .inr ⟨_, _, _, _, rfl, rfl, SqT.of (r.g _ _ h1).tup, SqT.of (r.g _ _ h2).tup, by rw [← q1.length, ← q2.length]; exact c, fun z => ?_, fun z1 z2 => ?_, fun _ _ => res_tup h r (q1.append q2)⟩
              · subst z
                cases q1
                exact h.now r (.tup h2 q2)
              · subst z2
                cases q2
                rw [List.append_nil] at h
                exact h.now r (.tup h1 q1)
            · exact h.elim
          | _ => exact h.elim
  · cases qx with
    | tup h1 q1 =>
      cases qy
      cases m with
      | true => exact h.elim
      | false =>
        cases o with
        | mul =>
          simp only [Bool.false_eq_true, if_false] at h
          split at h
          · rename_i c
            obtain ⟨c1, c2, c3⟩ := c
            have ne : ∀ ys : List V, RDs K M G μ _ ys → ys ≠ [] := fun ys q z => by
              have := q.length
              rw [z, c1] at this
              cases this
            rename_i xs k a ys
            by_cases k2 : 2 ≤ k
            · exact .inl (.inr ⟨_, _, _, rfl, rfl, SqT.of (r.g _ _ h1).tup, ne _ q1, k2, c3, by rw [← q1.length]; omega, res_tup h r (q1.replicate _)⟩)
            · refine .inr (.inl ⟨_, _, _, rfl, rfl, SqT.of (r.g _ _ h1).tup, ne _ q1, ?_⟩)
              by_cases k1 : k = 1
              · subst k1
                refine .inl ⟨rfl, ?_⟩
                rw [show (List.replicate (1 : Int).toNat _).flatten = _ from (List.append_nil _ : _ ++ [] = _)] at h
                exact h.now r (.tup h1 q1)
              · obtain rfl : k = 0 := by omega
                exact .inr ⟨rfl, res_tup h r .nil⟩
          · exact h.elim
        | _ => exact h.elim
  · cases qx; cases qy
    cases m with
    | true => exact h.elim
    | false =>
      cases o with
      | mul =>
        simp only [Bool.false_eq_true, if_false] at h
        split at h
        · rename_i c; exact .inr (.inr ⟨_, _, rfl, rfl, c.1, c.2.1, c.2.2, h.now r (.str _)⟩)
        · exact h.elim
      | _ => exact h.elim
  · cases qy
    split at h
    · rename_i xs e
      split at h
      · rename_i c; exact binRep_ok r qx e c h
      · exact h.elim
    · exact h.elim
  · split at h
    · rename_i xs ys e e2
      split at h
      · rename_i c; exact binCat_ok r qx qy e e2 c h
      · exact h.elim
    · exact h.elim
end
end Ip
/-! ## Sorting data that are alike -/
namespace Ip
open PySem PySem.Spec PyProof.Rows L2
abbrev VP : Type := V × PyData
def rSortD (K : PySem.W.Frag) : List V → Hp → VK → Prop := fun vs H Q => ∃ (a : Addr) (zs : List VP), vs = [V.ref a] ∧ SqL K H a (zs.map Prod.fst) ∧ (∀ z ∈ zs, Dp K H z.1 z.2 ∧ z.2.depth ≤ 50) ∧ PySem.W.AllAlike (zs.map Prod.snd) ∧ PySem.W.Sortable (zs.map Prod.snd) ∧
  ∀ p, H p = none → Q (.ref p) (upd H p (.lst ((zs.mergeSort (PySem.W.dataLe false Prod.snd)).map Prod.fst)))
theorem each_vals : ∀ {zs : List VP} {us : List Value}, Vals (zs.map Prod.fst) us → PySem.W.EachIs (fun v (z : VP) => RelV z.1 v) us zs
  | [], _, r => by cases r; exact .nil
  | z :: zs, _, r => by
    cases r with
    | cons h t => exact .cons h (each_vals t)
theorem vals_each : ∀ {zs : List VP} {us : List Value}, PySem.W.EachIs (fun v (z : VP) => RelV z.1 v) us zs → Vals (zs.map Prod.fst) us
  | [], _, r => by cases r; exact .nil
  | z :: zs, _, r => by
    cases r with
    | cons h t => exact .cons h (vals_each t)
section
variable {X : Cx} {pins : List (Addr × Obj)} {σ : L2.St} {H : Hp} {s : Shared}
theorem each_reads (I : Inv X pins σ H s) : ∀ {zs : List VP} {us : List Value}, Vals (zs.map Prod.fst) us → (∀ z ∈ zs, Dp X.K H z.1 z.2) → PySem.W.EachIs (fun v (z : VP) => ∃ as, Reads s.heap v z.2 as) us zs
  | [], _, r, _ => by cases r; exact .nil
  | z :: zs, _, r, h => by
    cases r with
    | cons r t => exact .cons (Dp.reads I z.2 z.1 _ (h z (List.mem_cons_self ..)) r) (each_reads I t fun y hy => h y (List.mem_cons_of_mem _ hy))
end
theorem cr_sortD {X : Cx} (hu : X.A.units + 65 < cLine) : CallR X (.builtin "sorted") (rSortD X.K) := by
  intro pins s σ H vs us Q I r h
  obtain ⟨a, zs, rfl, hs, hd, hal, hk, q⟩ := h
  obtain ⟨its, rv, hl, hz⟩ := I.list hs
  rw [Vals.ref1 r]
  rw [List.length_map] at hz
  refine PySem.W.sorted_data (β := VP) (enc := Prod.snd) (bs := zs) (R := fun v (z : VP) => RelV z.1 v) hl.isList (each_vals rv) (each_reads I rv fun z hz => (hd z hz).1) hal hk hz (fun b hb => ?_) fun out hl2 ho => ?_
  · have := (hd b hb).2
    omega
  · obtain ⟨ep, he'⟩ := PyProof.Rows.sortedAll_at s.heap its out.toArray
    have hlen : ((zs.mergeSort (PySem.W.dataLe false Prod.snd)).map Prod.fst).length ≤ sizeLine := by
      rw [List.length_map, List.length_mergeSort]; exact hz
    exact ⟨.ref _, upd H (s.heap.objs.size + 1) (.lst ((zs.mergeSort (PySem.W.dataLe false Prod.snd)).map Prod.fst)), I.laid (t' := s.toks) (fun _ _ => PyProof.Rows.sortedAll_old) (Nat.le_succ _) ⟨hlen, out, ep, vals_each ho, he'⟩, rfl, q _ (I.hok.fresh (Nat.le_succ _))⟩
/-! sorted(d), the keys of a dict that are tuples -/
def keyP (k : List Key) : PyData := .tuple (k.map fun q => match q with
  | .inl i => .int i
  | .inr x => .str x)
def rSortT (K : PySem.W.Frag) : List V → Hp → VK → Prop := fun vs H Q => ∃ (a : Addr) (kvs : List (List Key × V)), vs = [V.ref a] ∧ Rd H a (.dT kvs) ∧ kvs.length ≤ 1000000 ∧ PySem.W.AllAlike (kvs.map fun z => keyP z.1) ∧ PySem.W.Sortable (kvs.map fun z => keyP z.1) ∧
  ∀ p (bs : List (Addr × PyData)), H p = none → bs.map Prod.snd = kvs.map (fun z => keyP z.1) → IsKeys H kvs (bs.map Prod.fst) → Q (.ref p) (upd H p (.lst ((bs.mergeSort (PySem.W.dataLe false Prod.snd)).map fun b => V.ref b.1)))
theorem key_dp {K : PySem.W.Frag} {H : Hp} : ∀ k : List Key, DpAll K H (k.map kV) (k.map fun q => match q with
  | .inl i => PyData.int i
  | .inr x => .str x)
  | [] => .nil
  | .inl i :: k => .cons (.int i) (key_dp k)
  | .inr x :: k => .cons (.str x) (key_dp k)
theorem key_nil {h : Heap} : ∀ {k : List Key} {vs : List Value} {as : List Addr}, ReadsAll h vs (k.map fun q => match q with
  | .inl i => PyData.int i
  | .inr x => .str x) as → as = []
  | [], _, _, r => by cases r; rfl
  | .inl i :: k, _, _, r => by
    cases r with
    | cons r1 r2 => cases r1; rw [key_nil r2]; rfl
  | .inr x :: k, _, _, r => by
    cases r with
    | cons r1 r2 => cases r1; rw [key_nil r2]; rfl
theorem key_bs {H : Hp} {kvs : List (List Key × V)} {ks : List (List Key × Addr × Value)} (r : KT H kvs ks) : ∃ bs : List (Addr × PyData), ks.map (fun x => Value.ref x.2.1) = bs.map (fun b => Value.ref b.1) ∧ bs.map Prod.snd = kvs.map (fun z => keyP z.1) ∧
    IsKeys H kvs (bs.map Prod.fst) ∧ ∀ b ∈ bs, ∃ k : List Key, b.2 = keyP k ∧ H b.1 = some (.tup (k.map kV)) := by
  induction r with
  | nil => exact ⟨[], rfl, rfl, .nil, fun b h => by cases h⟩
  | @cons p q ps qs h t ih =>
    obtain ⟨bs, h1, h2, h3, h4⟩ := ih
    refine ⟨(q.2.1, keyP p.1) :: bs, by rw [List.map_cons, List.map_cons, h1], by rw [List.map_cons, List.map_cons, h2], .cons h.2.1 h3, fun b hb => ?_⟩
    rcases List.mem_cons.mp hb with rfl | hb
    · exact ⟨p.1, rfl, h.2.1⟩
    · exact h4 b hb
theorem each_ref : ∀ bs : List (Addr × PyData), PySem.W.EachIs (fun v (b : Addr × PyData) => v = Value.ref b.1) (bs.map fun b => Value.ref b.1) bs
  | [] => .nil
  | _ :: bs => .cons rfl (each_ref bs)
theorem ref_each : ∀ {bs : List (Addr × PyData)} {us : List Value}, PySem.W.EachIs (fun v (b : Addr × PyData) => v = Value.ref b.1) us bs → Vals (bs.map fun b => V.ref b.1) us
  | [], _, r => by cases r; exact .nil
  | b :: bs, _, r => by
    cases r with
    | cons h t => rw [h]; exact .cons rfl (ref_each t)
theorem each_mem {R : Value → (Addr × PyData) → Prop} : ∀ bs : List (Addr × PyData), (∀ b ∈ bs, R (Value.ref b.1) b) → PySem.W.EachIs R (bs.map fun b => Value.ref b.1) bs
  | [], _ => .nil
  | b :: bs, h => .cons (h b (List.mem_cons_self ..)) (each_mem bs fun y hy => h y (List.mem_cons_of_mem _ hy))
theorem cr_sortT {X : Cx} (hc : X.calm = true) (hu : X.A.units + 65 < cLine) : CallR X (.builtin "sorted") (rSortT X.K) := by
  intro pins s σ H vs us Q I r h
  obtain ⟨a, kvs, rfl, hd, hz, hal, hk, q⟩ := h
  obtain ⟨u, rfl, rx⟩ := r.one
  cases rx
  obtain ⟨z, hs, ks, pr, o, es, ep, ho, hx, hdt, he, hn⟩ := (show ObjOk X.prog X.w H s.heap a (.dT kvs) from hd.ok I.hok)
  have l1 : es.size = ks.length := size_of_entries he
  have l2 : kvs.length = ks.length := Paired.length pr
  obtain ⟨bs, b1, b2, b3, b4⟩ := key_bs pr
  have lb : bs.length = ks.length := by
    have := congrArg List.length b2
    rw [List.length_map, List.length_map] at this
    omega
  have h16 : es.size ≤ sizeLine := by rw [l1, sizeLine_eq]; omega
  refine Calls.call_function_entry PyProof.Rows.kind_sorted PyProof.Rows.plain_sorted PyProof.Rows.entry_sorted (PyProof.Rows.args_sorted1 _) ?_
  unfold Builtin.«sorted»
  refine wpAny_bind (m := checkCount "sorted" 1 1 _) (wpAny_pure ?_)
  refine wpAny_bind (PySem.W.kdu_collect (A := X.A.in1) (kdl_raw hs hx hdt) (I.ok.hd hc) ho h16 fun h' tk acc hk' it => ?_)
  have ea : acc.toList = bs.map fun b => Value.ref b.1 := by
    rw [← b1]
    have hl : acc.toList.length = ks.length := by rw [Array.length_toList, it.1]; exact l1
    apply List.ext_getElem?
    intro j
    rw [List.getElem?_map]
    cases hj : acc.toList[j]? with
    | none =>
      have h1 := List.getElem?_eq_none_iff.mp hj
      rw [List.getElem?_eq_none (by omega)]
      all_goals rfl
    | some v =>
      obtain ⟨en, hen, hv⟩ := it.2 j v (by rw [← Array.getElem?_toList]; exact hj)
      have qe := entry_at he j
      rw [hen] at qe
      cases hb : ks[j]? with
      | none =>
        rw [hb] at qe
        exact nomatch (show some en = none from qe)
      | some b =>
        rw [hb] at qe
        have e2 : en = entryOfKey (tupleKind (mixKind X.prog X.w)) b := Option.some.inj qe
        rw [hv, e2]
        all_goals rfl
  rw [ea]
  have I1 : Inv X pins σ H { s with heap := h', toks := tk } := I.kept hk'
  have hsz : (bs.map fun b => Value.ref b.1).length ≤ sizeLine := by rw [List.length_map, sizeLine_eq]; omega
  refine wpAny_bind (wpAny_newList ?_ hsz)
  have hoL : (h'.push (seqObj "list" (bs.map fun b => Value.ref b.1).toArray 0)).get? h'.objs.size = some (seqObj "list" (bs.map fun b => Value.ref b.1).toArray 0) := Heap.get?_push_size _ rfl
  show wpAny _ _ _ _ _ { s with heap := h'.push (seqObj "list" (bs.map fun b => Value.ref b.1).toArray 0), toks := tk }
  have er : PySem.W.EachIs (fun v (b : Addr × PyData) => ∃ as, Reads (h'.push (seqObj "list" (bs.map fun b => Value.ref b.1).toArray 0)) v b.2 as ∧ h'.objs.size ∉ as) (bs.map fun b => Value.ref b.1) bs := each_mem bs fun b hb => by
    obtain ⟨k, e1, e2⟩ := b4 b hb
    rw [e1]
    obtain ⟨as, rd⟩ := Dp.reads I1 (keyP k) (.ref b.1) (.ref b.1) (.tup (SqT.of e2) (key_dp k)) rfl
    have ez : as = [] := by
      unfold keyP at rd
      cases rd with
      | tuple _ _ _ h4 => exact key_nil h4
    subst ez
    exact ⟨[], PyProof.Rows.Reads.keeps (fun _ _ => Heap.get?_push_of_some _) rd, by simp⟩
  refine wpAny_bind (wpAny_holding (PySem.W.list_sort_data (s := { s with heap := h'.push (seqObj "list" (bs.map fun b => Value.ref b.1).toArray 0), toks := tk }) (bs := bs) (enc := Prod.snd) (R := fun v (b : Addr × PyData) => v = Value.ref b.1) hoL (each_ref bs) er (by rw [b2]; exact hal) (by rw [b2]; exact hk) (by rw [sizeLine_eq]; omega) (fun b hb => ?_) fun out hl2 eo => ?_))
  · obtain ⟨k, e1, _⟩ := b4 b hb
    rw [e1]
    have : (keyP k).depth ≤ 1 := by
      unfold keyP
      rw [PyData.depth]
      have : ∀ k : List Key, PyData.depthAll (k.map fun q => match q with
          | .inl i => PyData.int i
          | .inr x => .str x) = 0 := fun k => by
        induction k with
        | nil => simp [PyData.depthAll]
        | cons q k ih => cases q <;> simp [PyData.depthAll, PyData.depth] <;> exact ih
      rw [this]
      exact Nat.le_refl _
    show X.A.in1.units + 1 + (keyP k).depth < cLine
    have e : X.A.in1.units = X.A.units + 1 := rfl
    omega
  · obtain ⟨ep2, he'⟩ := PyProof.Rows.sortedHeap_at (vs := bs.map fun b => Value.ref b.1) (out := out.toArray) hoL
    have hlen : ((bs.mergeSort (PySem.W.dataLe false Prod.snd)).map fun b => V.ref b.1).length ≤ sizeLine := by
      rw [List.length_map, List.length_mergeSort, sizeLine_eq]; omega
    refine wpAny_pure ⟨_, rfl, .ref h'.objs.size, upd H h'.objs.size (.lst ((bs.mergeSort (PySem.W.dataLe false Prod.snd)).map fun b => V.ref b.1)), I1.laid (t' := tk) (fun b u e => ?_) (Nat.le_refl _)
      (show ObjOk X.prog X.w _ _ _ (.lst ((bs.mergeSort (PySem.W.dataLe false Prod.snd)).map fun b => V.ref b.1)) from ⟨hlen, out, ep2, ref_each eo, he'⟩), rfl, q _ bs (I1.hok.fresh (Nat.le_refl _)) b2 b3⟩
    have hb : b < h'.objs.size := Heap.lt_size e
    rw [PyProof.Rows.sortedHeap_old (Nat.ne_of_lt hb) (by rw [size_push']; exact Nat.lt_succ_of_lt hb)]
    exact Heap.get?_push_of_some _ e
/-! ### sum of a tuple of ints -/
section
variable {prog : Program} {w : World} {A : Around} {E : Value → Shared → Prop} {s : Shared} {l : Addr} {its : List Value} {ns : List Int} {Q : Value → Shared → Prop}
theorem sum_intTupG {xs : Array (Int × Tok)} (hh : A.handled = none) (hl : s.heap.IsTuple l (intItems xs))
    (h : ∀ h' tk t', (∀ b o, s.heap.get? b = some o → h'.get? b = some o) → Q (.int (preSum (numAt xs) xs.size) t') { s with heap := h', toks := tk }) :
    wpAny (model prog w) A (call (.builtin "sum") [.ref l]) Q E s := by
  have hlt : l < s.heap.objs.size := by obtain ⟨_, e, _⟩ := hl; exact Heap.lt_size e
  refine call_sum_walkG (wpAny_pyIter_tuple hl ?_)
  refine ⟨_, _, _, _, _, _, numAt xs, rfl, Walks.tuple (A := A.in1) hh _ l (Nat.ne_of_lt hlt) (intItems xs), ⟨⟨_, Heap.get?_push_size _ rfl, rfl, rfl⟩, hl.push _⟩, fun b hb => ?_, (fun _ _ => intItems_at), fun h' tk t' hk => ?_⟩
  · show b < (s.heap.push _).objs.size
    rw [Heap.size_push]
    rcases List.mem_cons.mp hb with rfl | hb
    · exact Nat.lt_succ_self _
    · rcases List.mem_cons.mp hb with rfl | hb
      · exact Nat.lt_succ_of_lt hlt
      · cases hb
  · have := h h' tk t' (fun b o e => hk b o (fun z => by rw [List.mem_singleton.mp z] at e; exact absurd (Heap.lt_size e) (Nat.lt_irrefl _)) (Heap.get?_push_of_some _ e))
    simpa [intItems] using this
theorem sum_rawT (hh : A.handled = none) (hl : s.heap.IsTuple l its.toArray) (hi : IntsAre its ns)
    (h : ∀ h' tk t', (∀ b o, s.heap.get? b = some o → h'.get? b = some o) → Q (.int ns.sum t') { s with heap := h', toks := tk }) : wpAny (model prog w) A (call (.builtin "sum") [.ref l]) Q E s := by
  obtain ⟨xs, e⟩ := hi.allInts.items
  have hn : numsOf (intItems xs).toList = ns := by rw [← e]; exact hi.numsOf
  rw [nums_intItems] at hn
  rw [e] at hl
  refine sum_intTupG hh hl fun h' tk t' hk => ?_
  have := h h' tk t' hk
  rw [preSum_eq, List.take_of_length_le (by simp), hn]; exact this
end
def rSumT (K : PySem.W.Frag) : List V → Hp → VK → Prop := fun vs H Q => ∃ (a : Addr) (ns : List Int), vs = [V.ref a] ∧ SqT K H a (ns.map V.int) ∧ Q (.int ns.sum) H
theorem cr_sumT {X : Cx} (hc : X.calm = true) : CallR X (.builtin "sum") (rSumT X.K) := by
  intro pins s σ H vs us Q I r h
  obtain ⟨a, ns, rfl, hs, q⟩ := h
  obtain ⟨its, rv, ht, _⟩ := I.tuple hs
  rw [Vals.ref1 r]
  exact sum_rawT (I.ok.hd hc) ht rv.ints fun h' tk t' hk => ⟨.int _, H, I.kept hk, ⟨_, rfl⟩, q⟩
end Ip
namespace Ip
open PySem PySem.Spec PyProof.Rows L2

/-! ### dicts by values -/
section
variable {X : Cx}
theorem op_inDct (hu : X.A.units + 1 < cLine) : OpR X (compareOp .In) (fun x y H Q => ∃ a o, y = .ref a ∧ DGet H a x o ∧ Q (.bl o.isSome) H) := by
  intro pins s σ H x y v u Q I rx ry h
  obtain ⟨a, o, rfl, g, q⟩ := h
  cases ry
  exact d_in hu I g rx fun s' I' => ⟨.bl o.isSome, H, I', rfl, q⟩
theorem op_notDct (hu : X.A.units + 1 < cLine) : OpR X (compareOp .NotIn) (fun x y H Q => ∃ a o, y = .ref a ∧ DGet H a x o ∧ Q (.bl (!o.isSome)) H) := by
  intro pins s σ H x y v u Q I rx ry h
  obtain ⟨a, o, rfl, g, q⟩ := h
  cases ry
  exact d_notIn hu I g rx fun s' I' => ⟨.bl (!o.isSome), H, I', rfl, q⟩
theorem ix_dct (hu : X.A.units + 1 < cLine) : IxR X (fun x y H Q => ∃ a v, x = .ref a ∧ DGet H a y (some v) ∧ Q v H) := by
  intro value slice pins s σ H x y v u Q I rx ry h hs
  obtain ⟨a, z, rfl, g, q⟩ := h
  cases rx
  exact tail_any (dict_typeIs I g) PySem.F.slot_dict_getitem.lookup (d_getItem hu I g ry fun w' s' I' r' => ⟨z, H, I', r', q⟩) hs
theorem get_list : PGet X (fun o i H Q => ∃ p xs k v, o = .ref p ∧ i = .int k ∧ SqL X.K H p xs ∧ atI xs k = some v ∧ Q v H) := by
  intro pins s σ H o i ov iv Q I ro ri h
  obtain ⟨p, xs, k, z, rfl, rfl, hq, he, q⟩ := h
  cases ro
  obtain ⟨t, rfl⟩ := ri
  obtain ⟨its, r, pl, hz⟩ := I.list hq
  obtain ⟨j, h1, h2, h3, h4, h5⟩ := atI_get he
  obtain ⟨w, ew, rw'⟩ := r.get h2
  have hl := r.length
  rw [sizeLine_eq] at hz
  by_cases h0 : 0 ≤ k
  · have hj : k.toNat = j := by
      rw [seqIndex_of h0 h5] at h1
      exact Option.some.inj h1
    exact wpAny_getItem_list (x := w) pl.isList h0 (by omega) (by rw [hj]; simpa using ew) ⟨z, H, I, rw', q⟩
  · have hj : (k + (its.toArray.size : Int)).toNat = j := by
      rw [seqIndex_neg (by omega) h4] at h1
      rw [List.size_toArray, ← hl]
      exact Option.some.inj h1
    exact wpAny_getItem_list_neg (x := w) pl.isList (by omega) (by rw [List.size_toArray] <;> omega) (by omega) (by rw [hj]; simpa using ew) ⟨z, H, I, rw', q⟩
theorem PSet.or {t t' : TSet} (h : PSet X t) (h' : PSet X t') : PSet X (fun o i v H Q => t o i v H Q ∨ t' o i v H Q) := by
  intro pins s σ H o i v ov iv u Q I ro ri rv q
  rcases q with q | q
  · exact h pins s σ H o i v ov iv u Q I ro ri rv q
  · exact h' pins s σ H o i v ov iv u Q I ro ri rv q
theorem set_dct (hu : X.A.units + 1 < cLine) : PSet X (fun o i v H Q => ∃ a H', o = .ref a ∧ DPut H a i v H' ∧ Q H') := by
  intro pins s σ H o i v ov iv u Q I ro ri rv h
  obtain ⟨a, H', rfl, g, q⟩ := h
  cases ro
  exact d_setItem hu I g ri rv fun s' I' => ⟨H', I', q⟩
theorem mt_get (hu : X.A.units + 1 < cLine) : MtR X "dict.get" (fun x xs H Q => ∃ a y o, x = .ref a ∧ DGet H a y o ∧ ((xs = [y] ∧ Q (o.getD .non) H) ∨ ∃ d, xs = [y, d] ∧ Q (o.getD d) H)) := by
  intro pins s σ H x xs v us Q I rx rs h
  obtain ⟨a, y, o, rfl, g, h⟩ := h
  cases rx
  rcases h with ⟨rfl, q⟩ | ⟨d, rfl, q⟩
  · cases rs with
    | cons r1 r2 =>
      cases r2
      exact d_get1 hu I g r1 fun w' s' I' r' => ⟨_, H, I', r', q⟩
  · cases rs with
    | cons r1 r2 =>
      cases r2 with
      | cons r2 r3 =>
        cases r3
        exact d_get2 hu I g r1 r2 fun w' s' I' r' => ⟨_, H, I', r', q⟩
theorem call_lenDct : CallR X (.builtin "len") (fun xs H Q => ∃ a kvs, xs = [V.ref a] ∧ Rd H a (.dK kvs) ∧ Q (.int kvs.length) H) := by
  intro pins s σ H xs us Q I rs h
  obtain ⟨a, kvs, rfl, e, q⟩ := h
  cases rs with
  | cons r1 r2 =>
    cases r2
    cases r1
    exact d_len I e fun t s' I' => ⟨.int kvs.length, H, I', ⟨_, rfl⟩, q⟩
end
section
variable {K : PySem.W.Frag} {M : Am} {G Φ : Hp} {μ : Mu} {S : Sto} {H : Hp}
theorem kKey_ok {y : D} {u : V} {k : Key} (q : RD K M G μ y u) (e : kKey y = some k) : u = kV k := by
  cases q <;> first | (cases e; rfl) | cases e
theorem kKey_eq {y : D} {k : Key} (e : kKey y = some k) : y = kD k := by
  cases y <;> first | (cases e; rfl) | cases e
theorem kD_key (k : Key) : kKey (kD k) = some k := by cases k <;> rfl
theorem kKeys_ok : ∀ {ds : List D} {vs : List V} {ks : List Key}, RDs K M G μ ds vs → kKeys ds = some ks → vs = ks.map kV
  | _, _, _, .nil, e => by cases e; rfl
  | d :: ds, _, ks, .cons q r, e => by
    unfold kKeys at e
    split at e
    · rename_i k ks' h1 h2
      cases e
      rw [List.map_cons, ← kKey_ok q h1, ← kKeys_ok r h2]
    · cases e
theorem kKeys_eq : ∀ {ds : List D} {ks : List Key}, kKeys ds = some ks → ds = ks.map kD
  | [], _, e => by cases e; rfl
  | d :: ds, ks, e => by
    unfold kKeys at e
    split at e
    · rename_i k ks' h1 h2
      cases e
      rw [List.map_cons, ← kKey_eq h1, ← kKeys_eq h2]
    · cases e
theorem kKeys_key : ∀ k : List Key, kKeys (k.map kD) = some k
  | [] => rfl
  | k :: ks => by rw [List.map_cons, kKeys, kD_key, kKeys_key ks]
theorem tKey_ok (r : Rel K M G Φ μ S H) {y : D} {u : V} {k : List Key} (q : RD K M G μ y u) (e : tKey y = some k) : ∃ b, u = .ref b ∧ H b = some (.tup (k.map kV)) := by
  cases q with
  | tup h q => exact ⟨_, rfl, by rw [← kKeys_ok q e]; exact (r.g _ _ h).tup⟩
  | _ => cases e
theorem tKey_eq {y : D} {k : List Key} (e : tKey y = some k) : y = .tup (k.map kD) := by
  cases y with
  | tup xs => rw [kKeys_eq (ds := xs) e]
  | _ => cases e
theorem tKey_key (k : List Key) : tKey (.tup (k.map kD)) = some k := kKeys_key k
def OR2 (K : PySem.W.Frag) (M : Am) (G : Hp) (μ : Mu) (o : Option D) (p : Option V) : Prop := (∃ d v, o = some d ∧ p = some v ∧ RD K M G μ d v) ∨ (o = none ∧ p = none)
theorem OR2.isSome {o : Option D} {p : Option V} (h : OR2 K M G μ o p) : o.isSome = p.isSome := by
  rcases h with ⟨d, v, rfl, rfl, _⟩ | ⟨rfl, rfl⟩ <;> rfl
theorem OR2.getD {o : Option D} {p : Option V} {d : D} {v : V} (h : OR2 K M G μ o p) (q : RD K M G μ d v) : RD K M G μ (o.getD d) (p.getD v) := by
  rcases h with ⟨d', v', rfl, rfl, h⟩ | ⟨rfl, rfl⟩
  · exact h
  · exact q
section
variable {κ : Type} [DecidableEq κ] {f : D → Option κ} {g : κ → D}
theorem lookK_ok (hf : ∀ k, f (g k) = some k) (k : κ) : ∀ {kk : List κ} {vs : List D} {ys : List V}, kk.length = ys.length → RDs K M G μ vs ys → OR2 K M G μ (lookK f k (kk.map g) vs) (valV (kk.zip ys) k)
  | [], _, _, _, _ => .inr ⟨rfl, by rw [List.zip_nil_left]; exact valV_nil⟩
  | a :: kk, _, _, hl, .nil => by simp at hl
  | a :: kk, d :: vs, v :: ys, hl, .cons q r => by
    rw [List.map_cons, lookK, hf, List.zip_cons_cons]
    by_cases h : a = k
    · rw [if_pos (by rw [h]), valV_pos (p := (a, v)) h]
      exact .inl ⟨d, v, rfl, rfl, q⟩
    · rw [if_neg (fun z => h (Option.some.inj z)), valV_neg (p := (a, v)) h]
      exact lookK_ok hf k (by simpa using hl) r
theorem repV_ok (hf : ∀ k, f (g k) = some k) (k : κ) {d : D} {v : V} (q : RD K M G μ d v) : ∀ {kk : List κ} {vs : List D} {ys : List V}, kk.length = ys.length → RDs K M G μ vs ys →
    ∃ ys', RDs K M G μ (repV f k d (kk.map g) vs) ys' ∧ kk.length = ys'.length ∧ kk.zip ys' = (kk.zip ys).map (fun kv => if kv.1 = k then (kv.1, v) else kv)
  | [], _, _, _, _ => ⟨[], .nil, rfl, rfl⟩
  | a :: kk, _, _, hl, .nil => by simp at hl
  | a :: kk, d' :: vs, v' :: ys, hl, .cons q' r => by
    obtain ⟨ys', h1, h2, h3⟩ := repV_ok hf k q (by simpa using hl) r
    rw [List.map_cons, repV, hf, List.zip_cons_cons, List.map_cons]
    by_cases h : a = k
    · rw [if_pos (by rw [h])]
      exact ⟨v :: ys', .cons q h1, by simp [h2], by rw [List.zip_cons_cons, h3, if_pos h]⟩
    · rw [if_neg (fun z => h (Option.some.inj z))]
      exact ⟨v' :: ys', .cons q' h1, by simp [h2], by rw [List.zip_cons_cons, h3, if_neg h]⟩
theorem putW_ok (hf : ∀ k, f (g k) = some k) (k : κ) {d : D} {v : V} (q : RD K M G μ d v) {kk : List κ} {vs : List D} {ys : List V} (hl : kk.length = ys.length) (r : RDs K M G μ vs ys) :
    ∃ (kk' : List κ) (ys' : List V), (putW f k (g k) d (kk.map g) vs).1 = kk'.map g ∧ kk'.length = ys'.length ∧ RDs K M G μ (putW f k (g k) d (kk.map g) vs).2 ys' ∧ kk'.zip ys' = putK (kk.zip ys) k v := by
  have ho := lookK_ok (G := G) hf k hl r
  unfold putW putK
  rw [valV_any]
  cases hs : (valV (kk.zip ys) k).isSome with
  | true =>
    rw [if_pos (by rw [ho.isSome, hs]), if_pos rfl]
    obtain ⟨ys', h1, h2, h3⟩ := repV_ok hf k q hl r
    exact ⟨kk, ys', rfl, h2, h1, h3⟩
  | false =>
    rw [if_neg (by rw [ho.isSome, hs]; decide), if_neg (by decide)]
    refine ⟨kk ++ [k], ys ++ [v], by simp, by simp [hl], r.append (.cons q .nil), ?_⟩
    rw [List.zip_append hl]; rfl
end
theorem delK_ok {κ : Type} [DecidableEq κ] {f : D → Option κ} {g : κ → D} (hf : ∀ k, f (g k) = some k) (k : κ) : ∀ {kk : List κ} {vs : List D} {ys : List V}, kk.length = ys.length → RDs K M G μ vs ys →
    ∃ (kk' : List κ) (ys' : List V), (delK f k (kk.map g) vs).1 = kk'.map g ∧ kk'.length = ys'.length ∧ RDs K M G μ (delK f k (kk.map g) vs).2 ys' ∧ kk'.zip ys' = dropK (kk.zip ys) k
  | [], _, _, _, _ => ⟨[], [], rfl, rfl, .nil, rfl⟩
  | a :: kk, _, _, hl, .nil => by simp at hl
  | a :: kk, d' :: vs, v' :: ys, hl, .cons q' r => by
    obtain ⟨kk', ys', h1, h2, h3, h4⟩ := delK_ok hf k (kk := kk) (by simpa using hl) r
    rw [List.map_cons, delK, hf, List.zip_cons_cons]
    unfold dropK at h4 ⊢
    by_cases h : a = k
    · rw [if_pos (by rw [h]), List.filter_cons_of_neg (by simpa using h)]
      exact ⟨kk', ys', h1, h2, h3, h4⟩
    · rw [if_neg (fun z => h (Option.some.inj z)), List.filter_cons_of_pos (by simpa using h)]
      exact ⟨a :: kk', v' :: ys', by rw [h1, List.map_cons], by simp [h2], .cons q' h3, by rw [List.zip_cons_cons, h4]⟩
theorem dctD_ref {n : Nat} {q : Nat × List D × List D} (e : dctD S (.ref n) = some q) : ∃ t ks vs, (S[n]? = some (.dct t ks vs) ∨ S[n]? = some (.lck t ks vs)) ∧ q = (t, ks, vs) := by
  replace e : (match S[n]? with
    | some (.dct t ks vs) => some (t, ks, vs)
    | some (.lck t ks vs) => some (t, ks, vs)
    | _ => none) = some q := e
  split at e
  · rename_i t ks vs hs
    cases e
    exact ⟨t, ks, vs, .inl hs, rfl⟩
  · rename_i t ks vs hs
    cases e
    exact ⟨t, ks, vs, .inr hs, rfl⟩
  · cases e
theorem dctR_ok (r : Rel K M G Φ μ S H) {n : Nat} {a : Addr} {t : Nat} {ks vs : List D} (hm : μ n = some a) (hs : S[n]? = some (.dct t ks vs) ∨ S[n]? = some (.lck t ks vs)) :
    (t = 0 ∧ ∃ (kk : List Key) (ys : List V), ks = kk.map kD ∧ kk.length = ys.length ∧ RDs K M G μ vs ys ∧ Rd H a (.dK (kk.zip ys))) ∨
      t = 1 ∧ ∃ (kk : List (List Key)) (ys : List V), ks = kk.map (fun k => .tup (k.map kD)) ∧ kk.length = ys.length ∧ RDs K M G μ vs ys ∧ Rd H a (.dT (kk.zip ys)) := by
  rcases hs with hs | hs
  · rcases r.look hs hm with ⟨t0, kk, ys, e1, l, q1, h⟩ | ⟨t0, kk, ys, e1, l, q1, h⟩
    · exact .inl ⟨t0, kk, ys, e1, l, q1, .inl h⟩
    · exact .inr ⟨t0, kk, ys, e1, l, q1, .inl h⟩
  · rcases r.look hs hm with ⟨t0, kk, ys, e1, l, q1, h⟩ | ⟨t0, kk, ys, e1, l, q1, h⟩
    · exact .inl ⟨t0, kk, ys, e1, l, q1, .inr h⟩
    · exact .inr ⟨t0, kk, ys, e1, l, q1, .inr h⟩
theorem dctD_ok (r : Rel K M G Φ μ S H) {x : D} {v : V} {q : Nat × List D × List D} (qx : RD K M G μ x v) (e : dctD S x = some q) : ∃ a, v = .ref a ∧
    ((q.1 = 0 ∧ ∃ (kk : List Key) (ys : List V), q.2.1 = kk.map kD ∧ kk.length = ys.length ∧ RDs K M G μ q.2.2 ys ∧ Rd H a (.dK (kk.zip ys))) ∨
      q.1 = 1 ∧ ∃ (kk : List (List Key)) (ys : List V), q.2.1 = kk.map (fun k => .tup (k.map kD)) ∧ kk.length = ys.length ∧ RDs K M G μ q.2.2 ys ∧ Rd H a (.dT (kk.zip ys))) := by
  cases qx with
  | dK e1 l q1 h => cases e; exact ⟨_, rfl, .inl ⟨rfl, _, _, e1, l, q1, (r.g _ _ h).rd⟩⟩
  | dT e1 l q1 h => cases e; exact ⟨_, rfl, .inr ⟨rfl, _, _, e1, l, q1, (r.g _ _ h).rd⟩⟩
  | @ref n a hm =>
    obtain ⟨t, ks, vs, hs, rfl⟩ := dctD_ref e
    exact ⟨_, rfl, dctR_ok r hm hs⟩
  | non => cases e
  | bl _ => cases e
  | int _ => cases e
  | str _ => cases e
  | tup _ _ => cases e
  | lst _ _ => cases e
  | scr _ => cases e
  | obj _ _ _ => cases e
  | fn _ => cases e
theorem dGet_ok (r : Rel K M G Φ μ S H) {x y : D} {v u : V} {q : Nat × List D × List D} {o : Option D} (qx : RD K M G μ x v) (qy : RD K M G μ y u) (e : dctD S x = some q) (g : dGet q y = some o) :
    ∃ a p, v = .ref a ∧ DGet H a u p ∧ OR2 K M G μ o p := by
  obtain ⟨a, rfl, h⟩ := dctD_ok r qx e
  obtain ⟨t, ks, vs⟩ := q
  rcases h with ⟨h0, kk, ys, h1, h2, h3, h4⟩ | ⟨h0, kk, ys, h1, h2, h3, h4⟩
  · dsimp only at h0 h1 h3
    subst h0; subst h1
    replace g : (kKey y).map (fun k => lookK kKey k (kk.map kD) vs) = some o := g
    cases hk : kKey y with
    | none => rw [hk] at g; cases g
    | some k =>
      rw [hk] at g; cases g
      exact ⟨a, _, rfl, .inl ⟨_, k, h4, kKey_ok qy hk, rfl⟩, lookK_ok kD_key k h2 h3⟩
  · dsimp only at h0 h1 h3
    subst h0; subst h1
    replace g : (tKey y).map (fun k => lookK tKey k (kk.map (fun k => .tup (k.map kD))) vs) = some o := g
    cases hk : tKey y with
    | none => rw [hk] at g; cases g
    | some k =>
      rw [hk] at g; cases g
      obtain ⟨b, h5, h6⟩ := tKey_ok r qy hk
      exact ⟨a, _, rfl, .inr ⟨_, k, b, h4, h5, h6, rfl⟩, lookK_ok tKey_key k h2 h3⟩
theorem dPut_ok (r : Rel K M G Φ μ S H) {n : Nat} {a : Addr} {t : Nat} {ks vs : List D} {y d : D} {u v : V} {q : List D × List D} (hm : μ n = some a) (hs : S[n]? = some (.dct t ks vs)) (hz : ks.length < sizeLine) (qy : RD K M G μ y u) (qd : RD K M G μ d v)
    (g : dPut (t, ks, vs) y d = some q) : ∃ H', DPut H a u v H' ∧ Rel K M G Φ μ (S.set n (.dct t q.1 q.2)) H' := by
  rcases r.look hs hm with ⟨h0, kk, ys, h1, h2, h3, h4⟩ | ⟨h0, kk, ys, h1, h2, h3, h4⟩
  · subst h0; subst h1
    replace g : (kKey y).map (fun k => putW kKey k y d (kk.map kD) vs) = some q := g
    cases hk : kKey y with
    | none => rw [hk] at g; cases g
    | some k =>
      rw [hk] at g; cases g
      obtain ⟨kk', ys', e1, e2, e3, e4⟩ := putW_ok (G := G) kD_key k qd h2 h3
      rw [← kKey_eq hk] at e1 e3
      refine ⟨_, .inl ⟨_, k, h4, kKey_ok qy hk, ?_, rfl⟩, r.write hs (fun z => nomatch z) hm (.inl ⟨rfl, kk', ys', e1, e2, e3, by rw [upd_same, e4]⟩)⟩
      rw [List.length_map] at hz
      rw [List.length_zip, ← h2]; omega
  · subst h0; subst h1
    replace g : (tKey y).map (fun k => putW tKey k y d (kk.map (fun k => .tup (k.map kD))) vs) = some q := g
    cases hk : tKey y with
    | none => rw [hk] at g; cases g
    | some k =>
      rw [hk] at g; cases g
      obtain ⟨kk', ys', e1, e2, e3, e4⟩ := putW_ok (G := G) tKey_key k qd h2 h3
      rw [← tKey_eq hk] at e1 e3
      obtain ⟨b, h5, h6⟩ := tKey_ok r qy hk
      refine ⟨_, .inr ⟨_, k, b, h4, h5, h6, ?_, rfl⟩, r.write hs (fun z => nomatch z) hm (.inr ⟨rfl, kk', ys', e1, e2, e3, by rw [upd_same, e4]⟩)⟩
      rw [List.length_map] at hz
      rw [List.length_zip, ← h2]; omega
end
/-! ### comparisons -/
def uCmp (K : PySem.W.Frag) : COp → R2
  | .eq => fun x y H Q => rEq x y H Q ∨ rEqD K x y H Q
  | .ne => fun x y H Q => rNe x y H Q ∨ rNeD K x y H Q
  | .lt => fun x y H Q => rI0 (fun i j => .bl (decide (i < j))) x y H Q ∨ (∃ i j, x = .str i ∧ y = .str j ∧ Q (.bl (decide (i.cps.toList < j.cps.toList))) H)
  | .le => fun x y H Q => rI0 (fun i j => .bl (decide (i ≤ j))) x y H Q ∨ (∃ i j, x = .str i ∧ y = .str j ∧ Q (.bl (!decide (j.cps.toList < i.cps.toList))) H)
  | .gt => fun x y H Q => rI0 (fun i j => .bl (decide (j < i))) x y H Q ∨ (∃ i j, x = .str i ∧ y = .str j ∧ Q (.bl (decide (j.cps.toList < i.cps.toList))) H)
  | .ge => fun x y H Q => rI0 (fun i j => .bl (decide (j ≤ i))) x y H Q ∨ (∃ i j, x = .str i ∧ y = .str j ∧ Q (.bl (!decide (i.cps.toList < j.cps.toList))) H)
  | .isin => fun x y H Q => ((∃ i j, x = .str i ∧ y = .str j ∧ Q (.bl (!(Builtin.Str.occurrences j i 0 j.length 1).isEmpty)) H) ∨ rIn K false x y H Q) ∨ rInD K x y H Q ∨ ∃ a o, y = .ref a ∧ DGet H a x o ∧ Q (.bl o.isSome) H
  | .notin => fun x y H Q => ((∃ i j, x = .str i ∧ y = .str j ∧ Q (.bl (!(!(Builtin.Str.occurrences j i 0 j.length 1).isEmpty))) H) ∨ rIn K true x y H Q) ∨ rNotInD K x y H Q ∨ ∃ a o, y = .ref a ∧ DGet H a x o ∧ Q (.bl (!o.isSome)) H
  | .is_ => fun x y H Q => (y = .non ∧ Q (.bl (decide (x = .non))) H) ∨ (∃ a b, x = .bl a ∧ y = .bl b ∧ Q (.bl (decide (a = b))) H)
  | .isnot => fun x y H Q => (y = .non ∧ Q (.bl (!decide (x = .non))) H) ∨ (∃ a b, x = .bl a ∧ y = .bl b ∧ Q (.bl (!decide (a = b))) H)
def COp.op : COp → CmpOp
  | .eq => .Eq | .ne => .NotEq | .lt => .Lt | .le => .LtE | .gt => .Gt | .ge => .GtE | .isin => .In | .notin => .NotIn | .is_ => .Is | .isnot => .IsNot
theorem op_uCmp {X : Cx} (hu : X.A.units + 65 < cLine) : ∀ o : COp, OpR X (compareOp o.op) (uCmp X.K o)
  | .eq => op_eq.or (op_eqD (by omega))
  | .ne => op_ne.or (op_neD (by omega))
  | .lt => op_lt.or op_lt_str
  | .le => op_le.or op_le_str
  | .gt => op_gt.or op_gt_str
  | .ge => op_ge.or op_ge_str
  | .isin => (op_in_str.or op_in_seq).or ((op_inD hu).or (op_inDct (by omega)))
  | .notin => (op_notin_str.or op_notIn_seq).or ((op_notInD hu).or (op_notDct (by omega)))
  | .is_ => op_isN.or op_is_bl
  | .isnot => op_notN.or op_isnot_bl
section
variable {K : PySem.W.Frag} {M : Am} {W : WX} {σ : L2.St} {G Φ : Hp} {μ : Mu} {S : Sto} {H : Hp} {Q : VK}
mutual
theorem pd_dp (r : Rel K M G Φ μ S H) : ∀ (d : D) (v : V) (a : PyData), RD K M G μ d v → pd d = some a → Dp K H v a
  | .non, _, a, .non, e => by cases e; exact .non
  | .bl b, _, a, .bl _, e => by cases e; exact .bl b
  | .int i, _, a, .int _, e => by cases e; exact .int i
  | .str x, _, a, .str _, e => by cases e; exact .str x
  | .tup xs, _, a, .tup h q, e => by
    rw [pd] at e
    cases h2 : pds xs with
    | none => rw [h2] at e; cases e
    | some z => rw [h2] at e; cases e; exact .tup (SqT.of (r.g _ _ h).tup) (pds_dp r xs _ z q h2)
  | .lst xs, _, a, .lst h q, e => by
    rw [pd] at e
    cases h2 : pds xs with
    | none => rw [h2] at e; cases e
    | some z => rw [h2] at e; cases e; exact .lst (SqL.of (r.g _ _ h).lst) (pds_dp r xs _ z q h2)
  | .scr _, _, _, _, e => by cases e
  | .dct _ _ _, _, _, _, e => by cases e
  | .obj _ _ _, _, _, _, e => by cases e
  | .ref _, _, _, _, e => by cases e
theorem pds_dp (r : Rel K M G Φ μ S H) : ∀ (ds : List D) (vs : List V) (as : List PyData), RDs K M G μ ds vs → pds ds = some as → DpAll K H vs as
  | [], _, as, .nil, e => by cases e; exact .nil
  | d :: ds, _, as, .cons h q, e => by
    rw [pds] at e
    cases h1 : pd d with
    | none => rw [h1] at e; cases e
    | some z =>
      cases h2 : pds ds with
      | none => rw [h1, h2] at e; cases e
      | some zs => rw [h1, h2] at e; cases e; exact .cons (pd_dp r d _ z h h1) (pds_dp r ds _ zs q h2)
end
theorem pd1_dp (r : Rel K M G Φ μ S H) {d : D} {v : V} {a : PyData} (q : RD K M G μ d v) (e : pd (res1 S d) = some a) : Dp K H v a := by
  cases d with
  | ref n =>
    rw [res1] at e
    cases h : getL S n with
    | none => rw [h] at e; cases e
    | some xs =>
      rw [h] at e
      cases q with
      | ref h1 =>
        obtain ⟨ys, h2, h3⟩ := r.look (getL_of h) h1
        replace e : (pds xs).map PyData.list = some a := e
        cases h4 : pds xs with
        | none => rw [h4] at e; cases e
        | some z => rw [h4] at e; cases e; exact .lst (SqL.of h2) (pds_dp r xs _ z h3 h4)
  | _ => exact pd_dp r _ _ _ q e
theorem pds1_dp (r : Rel K M G Φ μ S H) : ∀ (ds : List D) (vs : List V) (as : List PyData), RDs K M G μ ds vs → pds (ds.map (res1 S)) = some as → DpAll K H vs as
  | [], _, as, .nil, e => by cases e; exact .nil
  | d :: ds, _, as, .cons h q, e => by
    rw [List.map_cons, pds] at e
    cases h1 : pd (res1 S d) with
    | none => rw [h1] at e; cases e
    | some z =>
      cases h2 : pds (ds.map (res1 S)) with
      | none => rw [h1, h2] at e; cases e
      | some zs => rw [h1, h2] at e; cases e; exact .cons (pd1_dp r h h1) (pds1_dp r ds _ zs q h2)
theorem pd2_dp (r : Rel K M G Φ μ S H) {d : D} {v : V} {a : PyData} (q : RD K M G μ d v) (e : pd (res2 S d) = some a) : Dp K H v a := by
  cases d with
  | ref n =>
    rw [res2] at e
    cases h : getL S n with
    | none => rw [h] at e; cases e
    | some xs =>
      rw [h] at e
      cases q with
      | ref h1 =>
        obtain ⟨ys, h2, h3⟩ := r.look (getL_of h) h1
        replace e : (pds (xs.map (res1 S))).map PyData.list = some a := e
        cases h4 : pds (xs.map (res1 S)) with
        | none => rw [h4] at e; cases e
        | some z => rw [h4] at e; cases e; exact .lst (SqL.of h2) (pds1_dp r xs _ z h3 h4)
  | lst xs =>
    cases q with
    | lst h1 q =>
      replace e : (pds (xs.map (res1 S))).map PyData.list = some a := e
      cases h4 : pds (xs.map (res1 S)) with
      | none => rw [h4] at e; cases e
      | some z => rw [h4] at e; cases e; exact .lst (SqL.of (r.g _ _ h1).lst) (pds1_dp r xs _ z q h4)
  | _ => exact pd_dp r _ _ _ q e
theorem eqD_ok {x y : D} {v u : V} {k : Bool} (r : Rel K M G Φ μ S H) (qx : RD K M G μ x v) (qy : RD K M G μ y u) (e : eqD S x y = some k) :
    (scal v u = true ∧ k = decide (v = u)) ∨ ∃ a b, Dp K H v a ∧ Dp K H u b ∧ SeqAt.shaped a = true ∧ SeqAt.shaped b = true ∧ k = PyData.eqv a b := by
  unfold eqD at e
  split at e
  · cases qx; cases qy; cases e; exact .inl ⟨rfl, by simp⟩
  · cases qx; cases qy; cases e; exact .inl ⟨rfl, by simp⟩
  · cases qx; cases qy; cases e; exact .inl ⟨rfl, by simp⟩
  · cases qx; cases qy; cases e; exact .inl ⟨rfl, by simp⟩
  · split at e
    · rename_i a b h1 h2
      split at e
      · rename_i c
        cases e
        exact .inr ⟨a, b, pd2_dp r qx h1, pd2_dp r qy h2, c.1, c.2, rfl⟩
      · cases e
    · cases e
theorem flatD_ok {x : D} {v : V} (q : RD K M G μ x v) (f : flatD x = true) : flatV v = true := by
  cases q <;> first | rfl | cases f
theorem flats_ok : ∀ {xs : List D} {vs : List V}, RDs K M G μ xs vs → xs.all flatD = true → vs.all flatV = true
  | _, _, .nil, _ => rfl
  | _, _, .cons h q, f => by
    rw [List.all_cons, Bool.and_eq_true] at f ⊢
    exact ⟨flatD_ok h f.1, flats_ok q f.2⟩
theorem eqF_ok {x y : D} {v u : V} (qx : RD K M G μ x v) (qy : RD K M G μ y u) (f : flatD x = true) (g : flatD y = true) : eqF x y = eqV v u := by
  cases qx <;> cases qy <;> first | rfl | cases f | cases g
theorem anyF_ok {x : D} {v : V} (qx : RD K M G μ x v) (f : flatD x = true) : ∀ {ys : List D} {us : List V}, RDs K M G μ ys us → ys.all flatD = true → (ys.any fun y => eqF y x) = inV v us
  | _, _, .nil, _ => rfl
  | _, _, .cons h q, g => by
    rw [List.all_cons, Bool.and_eq_true] at g
    unfold inV
    rw [List.any_cons, List.any_cons, eqF_ok h qx g.1 f]
    exact congrArg _ (anyF_ok qx f q g.2)
theorem inD_ok {x y : D} {v u : V} {k : Bool} (r : Rel K M G Φ μ S H) (qx : RD K M G μ x v) (qy : RD K M G μ y u) (e : inD S x y = some k) :
    ((∃ i j, v = .str i ∧ u = .str j ∧ k = !(Builtin.Str.occurrences j i 0 j.length 1).isEmpty) ∨
      ∃ p xs, u = .ref p ∧ (SqL K H p xs ∨ SqT K H p xs) ∧ flatV v = true ∧ xs.all flatV = true ∧ k = inV v xs) ∨
      (∃ d ds, Dp K H v d ∧ Dp K H u (.list ds) ∧ SeqAt.shaped d = true ∧ SeqAt.shaped (.list ds) = true ∧ k = ds.any fun z => PyData.eqv z d) ∨ ∃ a o, u = .ref a ∧ DGet H a v o ∧ k = o.isSome := by
  unfold inD at e
  split at e
  · cases qx; cases qy; cases e; exact .inl (.inl ⟨_, _, rfl, rfl, rfl⟩)
  · split at e
    · rename_i c
      rw [Bool.and_eq_true] at c
      cases e
      cases qy with
      | tup h q => exact .inl (.inr ⟨_, _, rfl, .inr (SqT.of (r.g _ _ h).tup), flatD_ok qx c.1, flats_ok q c.2, anyF_ok qx c.1 q c.2⟩)
    · cases e
  · split at e
    · rename_i q hq
      cases hg : dGet q x with
      | none => rw [hg] at e; cases e
      | some o =>
        rw [hg] at e; cases e
        obtain ⟨a, p, h1, h2, h3⟩ := dGet_ok r qy qx hq hg
        exact .inr (.inr ⟨a, p, h1, h2, h3.isSome⟩)
    · split at e
      · rename_i a b h1 h2
        split at e
        · rename_i c
          cases e
          exact .inr (.inl ⟨a, b, pd_dp r _ _ _ qx h1, pd2_dp r qy h2, c.1, c.2, rfl⟩)
        · cases e
      · cases e
theorem isD_ok {x y : D} {v u : V} {k : Bool} (qx : RD K M G μ x v) (qy : RD K M G μ y u) (e : isD x y = some k) :
    (u = .non ∧ k = decide (v = .non)) ∨ ∃ a b, v = .bl a ∧ u = .bl b ∧ k = decide (a = b) := by
  cases qx <;> cases qy <;> first | (cases e; exact .inr ⟨_, _, rfl, rfl, rfl⟩) | (cases e; exact .inl ⟨rfl, by simp⟩) | cases e
theorem cmpD_ok {o : COp} {x y : D} {v u : V} {k : Bool} (r : Rel K M G Φ μ S H) (qx : RD K M G μ x v) (qy : RD K M G μ y u) (e : cmpD o x y S = some k) (q : Q (.bl k) H) : uCmp K o v u H Q := by
  cases o with
  | eq =>
    rcases eqD_ok r qx qy e with ⟨h1, rfl⟩ | ⟨a, b, h1, h2, h3, h4, rfl⟩
    · exact .inl ⟨h1, q⟩
    · exact .inr ⟨a, b, h1, h2, h3, h4, q⟩
  | ne =>
    replace e : (eqD S x y).map not = some k := e
    cases h : eqD S x y with
    | none => rw [h] at e; cases e
    | some z =>
      rw [h] at e; cases e
      rcases eqD_ok r qx qy h with ⟨h1, rfl⟩ | ⟨a, b, h1, h2, h3, h4, rfl⟩
      · exact .inl ⟨h1, q⟩
      · exact .inr ⟨a, b, h1, h2, h3, h4, q⟩
  | isin =>
    rcases inD_ok r qx qy e with (⟨i, j, h1, h2, rfl⟩ | ⟨p, xs, h1, h2, h3, h4, rfl⟩) | ⟨a, b, h1, h2, h3, h4, rfl⟩ | ⟨a, o, h1, h2, rfl⟩
    · exact .inl (.inl ⟨i, j, h1, h2, q⟩)
    · exact .inl (.inr ⟨p, xs, h1, h2, h3, h4, by rw [if_neg (by decide)]; exact q⟩)
    · exact .inr (.inl ⟨a, b, h1, h2, h3, h4, q⟩)
    · exact .inr (.inr ⟨a, o, h1, h2, q⟩)
  | notin =>
    replace e : (inD S x y).map not = some k := e
    cases h : inD S x y with
    | none => rw [h] at e; cases e
    | some z =>
      rw [h] at e; cases e
      rcases inD_ok r qx qy h with (⟨i, j, h1, h2, rfl⟩ | ⟨p, xs, h1, h2, h3, h4, rfl⟩) | ⟨a, b, h1, h2, h3, h4, rfl⟩ | ⟨a, o, h1, h2, rfl⟩
      · exact .inl (.inl ⟨i, j, h1, h2, q⟩)
      · exact .inl (.inr ⟨p, xs, h1, h2, h3, h4, by rw [if_pos rfl]; exact q⟩)
      · exact .inr (.inl ⟨a, b, h1, h2, h3, h4, q⟩)
      · exact .inr (.inr ⟨a, o, h1, h2, q⟩)
  | is_ =>
    rcases isD_ok qx qy e with ⟨h1, rfl⟩ | ⟨a, b, h1, h2, rfl⟩
    · exact .inl ⟨h1, q⟩
    · exact .inr ⟨a, b, h1, h2, q⟩
  | isnot =>
    replace e : (isD x y).map not = some k := e
    cases h : isD x y with
    | none => rw [h] at e; cases e
    | some z =>
      rw [h] at e; cases e
      rcases isD_ok qx qy h with ⟨h1, rfl⟩ | ⟨a, b, h1, h2, rfl⟩
      · exact .inl ⟨h1, q⟩
      · exact .inr ⟨a, b, h1, h2, q⟩
  | lt =>
    replace e : ltD .lt x y = some k := e
    cases qx <;> cases qy <;> first | (cases e; exact .inl ⟨_, _, rfl, rfl, q⟩) | (cases e; exact .inr ⟨_, _, rfl, rfl, q⟩) | cases e
  | le =>
    replace e : ltD .le x y = some k := e
    cases qx <;> cases qy <;> first | (cases e; exact .inl ⟨_, _, rfl, rfl, q⟩) | (cases e; exact .inr ⟨_, _, rfl, rfl, q⟩) | cases e
  | gt =>
    replace e : ltD .gt x y = some k := e
    cases qx <;> cases qy <;> first | (cases e; exact .inl ⟨_, _, rfl, rfl, q⟩) | (cases e; exact .inr ⟨_, _, rfl, rfl, q⟩) | cases e
  | ge =>
    replace e : ltD .ge x y = some k := e
    cases qx <;> cases qy <;> first | (cases e; exact .inl ⟨_, _, rfl, rfl, q⟩) | (cases e; exact .inr ⟨_, _, rfl, rfl, q⟩) | cases e
/-! ### truth, subscripts, slices, isinstance, built-ins -/
theorem truD_ok {x : D} {v : V} {k : Bool} (r : Rel K M G Φ μ S H) (q : RD K M G μ x v) (e : truD S x = some k) : TruV K v H k := by
  have seq : ∀ d : D, RD K M G μ d v → (seqD S d).map (fun xs => !xs.isEmpty) = some k → TruV K v H k := fun d q e => by
    cases h : seqD S d with
    | none => rw [h] at e; cases e
    | some xs =>
      rw [h] at e; cases e
      obtain ⟨p, ys, rfl, h1, h2⟩ := seqD_ok r q h
      have hl : (!xs.isEmpty) = !ys.isEmpty := by
        cases h2 <;> rfl
      rcases h1 with h1 | h1
      · exact .inl ⟨ys, h1, hl⟩
      · exact .inr (.inl ⟨ys, h1, hl⟩)
  cases q with
  | non => cases e; exact rfl
  | bl b => cases e; exact rfl
  | int i => cases e; exact rfl
  | str x =>
    simp only [truD] at e
    split at e
    · rename_i c; cases e; exact ⟨c, rfl⟩
    · cases e
  | tup h q => exact seq _ (.tup h q) e
  | lst h q => exact seq _ (.lst h q) e
  | scr h => exact seq _ (.scr h) e
  | ref h => exact seq _ (.ref h) e
  | dK _ _ _ _ => cases e
  | dT _ _ _ _ => cases e
  | obj _ _ _ => cases e
  | fn _ => cases e
def uIx (K : PySem.W.Frag) : R2 := fun x y H Q => rIx K x y H Q ∨ ∃ a v, x = .ref a ∧ DGet H a y (some v) ∧ Q v H
theorem ix_uIx {X : Cx} (hu : X.A.units + 65 < cLine) : IxR X (uIx X.K) := ix_seq.or (ix_dct (by omega))
theorem ixD_ok {x i : D} {v u : V} {d : D} (r : Rel K M G Φ μ S H) (qx : RD K M G μ x v) (qi : RD K M G μ i u) (e : ixD S x i = some d) (h : ∀ z, RD K M G μ d z → Q z H) : uIx K v u H Q := by
  unfold ixD at e
  split at e
  · rename_i z k
    cases qx; cases qi
    split at e
    · rename_i c
      cases hc : atI z.cps.toList k with
      | none => rw [hc] at e; cases e
      | some cc => rw [hc] at e; cases e; exact .inl (.inr (.inr ⟨z, k, cc, rfl, rfl, c, hc, h _ (.str _)⟩))
    · cases e
  · split at e
    · rename_i q hq
      split at e
      · rename_i d' hg
        cases e
        obtain ⟨a, p, h1, h2, h3⟩ := dGet_ok r qx qi hq hg
        rcases h3 with ⟨d1, v1, e1, e2, q1⟩ | ⟨e1, _⟩
        · cases e1
          exact .inr ⟨a, v1, h1, e2 ▸ h2, h _ q1⟩
        · cases e1
      · cases e
    · split at e
      · rename_i k xs hs _
        cases qi
        obtain ⟨p, ys, rfl, h1, h2⟩ := seqD_ok r qx hs
        obtain ⟨z, h3, h4⟩ := atI_RDs h2 e
        rcases h1 with h1 | h1
        · exact .inl (.inl ⟨p, ys, k, z, rfl, rfl, h1, h3, h z h4⟩)
        · exact .inl (.inr (.inl ⟨p, ys, k, z, rfl, rfl, h1, h3, h z h4⟩))
      · cases e
def uSl (K : PySem.W.Frag) : V → Option Int → Option Int → Hp → VK → Prop := fun x lo hi H Q => (rSlS x lo hi H Q ∨ rSlL K x lo hi H Q) ∨ rSlA K x lo hi H Q
theorem sl_uSl {X : Cx} : SlR X (uSl X.K) := (sl_str.or sl_list).or sl_tupA
theorem cutD_RDs {xs : List D} {ys : List V} (q : RDs K M G μ xs ys) (lo hi : Option Int) : RDs K M G μ (cutD xs lo hi) (cutV ys lo hi) := by
  unfold cutD cutV
  rw [q.length]
  exact (q.drop _).take _
theorem cutD_all {xs : List D} {lo hi : Option Int} (h : HT.sIx xs.length 0 lo = 0 ∧ HT.sIx xs.length xs.length hi = xs.length) : cutD xs lo hi = xs := by
  unfold cutD
  rw [h.1, h.2, List.drop_zero, Nat.sub_zero, List.take_length]
theorem slD_ok {m : Bool} {x : D} {v : V} {lo hi : Option Int} (r : Rel K M G Φ μ S H) (q : RD K M G μ x v) (h : Res K M W σ G Φ μ (slD m x lo hi S) (rD K M) Q) : uSl K v lo hi H Q := by
  unfold slD at h
  split at h
  · cases q
    cases m with
    | true => exact h.elim
    | false =>
      simp only [Bool.false_eq_true, if_false] at h
      split at h
      · rename_i c; exact .inl (.inl ⟨_, rfl, c, h.now r (.str _)⟩)
      · exact h.elim
  · cases q with
    | tup h1 q =>
      rename_i xs a ys
      cases m with
      | true => exact h.elim
      | false =>
        refine .inr ⟨_, _, rfl, SqT.of (r.g _ _ h1).tup, fun z => ?_, fun _ => res_tup h r (cutD_RDs q lo hi)⟩
        rw [← q.length] at z
        rw [cutD_all z] at h
        exact h.now r (.tup h1 q)
  · cases q with
    | scr h1 => exact .inl (.inr ⟨_, _, rfl, r.sq h1, res_mkL h r (cutD_RDs (RDs.ints _) lo hi)⟩)
  · split at h
    · rename_i xs e
      obtain ⟨p, ys, rfl, h1, h2⟩ := lstD_ok r q e
      exact .inl (.inr ⟨p, ys, rfl, SqL.of h1, res_mkL h r (cutD_RDs h2 lo hi)⟩)
    · exact h.elim
def TyN.n : TyN → String
  | .int => "int" | .bool => "bool" | .str => "str" | .tuple => "tuple" | .list => "list"
theorem isiD_ok {x : D} {v : V} {t : TyN} {k : Bool} (r : Rel K M G Φ μ S H) (q : RD K M G μ x v) (e : isiD S x t = some k) (h : Q (.bl k) H) : rIsi K [v, .ty t.n] H Q := by
  cases q with
  | non => cases e; exact ⟨_, _, _, _, _, rfl, .ty _, .base .non, kit_ty (by cases t <;> decide +kernel), h⟩
  | bl b => cases e; exact ⟨_, _, _, _, _, rfl, .ty _, .base (.bl b), kit_ty (by cases t <;> decide +kernel), h⟩
  | int i => cases e; exact ⟨_, _, _, _, _, rfl, .ty _, .base (.int i), kit_ty (by cases t <;> decide +kernel), h⟩
  | str z => cases e; exact ⟨_, _, _, _, _, rfl, .ty _, .base (.str z), kit_ty (by cases t <;> decide +kernel), h⟩
  | tup h1 q => cases e; exact ⟨_, _, _, _, _, rfl, .ty _, .base (.tup (r.g _ _ h1).tup), kit_ty (by cases t <;> decide +kernel), h⟩
  | lst h1 q => cases e; exact ⟨_, _, _, _, _, rfl, .ty _, .base (.lst (r.g _ _ h1).lst), kit_ty (by cases t <;> decide +kernel), h⟩
  | ref h1 =>
    rename_i n a
    cases hg : getL S n with
    | none => simp only [isiD, hg] at e; cases e
    | some xs =>
      simp only [isiD, hg] at e
      obtain ⟨ys, h2, h3⟩ := r.look (getL_of hg) h1
      cases e
      exact ⟨_, _, _, _, _, rfl, .ty _, .base (.lst h2), kit_ty (by cases t <;> decide +kernel), h⟩
  | _ => cases e
end

/-! ### built-ins -/
def BI.v : BI → Value
  | .len => .builtin "len" | .int => .type "int" | .str => .type "str" | .tuple => .type "tuple" | .sum => .builtin "sum" | .all => .builtin "all" | .max => .builtin "max" | .min => .builtin "min" | .abs => .builtin "abs"
def BI.x : BI → Str
  | .len => "len" | .int => "int" | .str => "str" | .tuple => "tuple" | .sum => "sum" | .all => "all" | .max => "max" | .min => "min" | .abs => "abs"
def uBi (K : PySem.W.Frag) : BI → List V → Hp → VK → Prop
  | .len => fun xs H Q => ((∃ a kvs, xs = [V.ref a] ∧ Rd H a (.dK kvs) ∧ Q (.int kvs.length) H) ∨ ∃ p ys, xs = [.ref p] ∧ (SqL K H p ys ∨ SqT K H p ys) ∧ Q (.int ys.length) H) ∨ (∃ z, xs = [.str z] ∧ z.length ≤ sizeLine ∧ Q (.int z.length) H)
  | .int => fun xs H Q => ((∃ i, xs = [.int i] ∧ Q (.int i) H) ∨ ∃ k, xs = [.bl k] ∧ Q (.int (if k then 1 else 0)) H) ∨ (∃ a n, xs = [.str a] ∧ PySem.intText? a = some n ∧ a.length ≤ 640 ∧ Q (.int n) H)
  | .str => fun xs H Q => ∃ i, xs = [.int i] ∧ i.natAbs.log2 < 1920 ∧ Q (.str (toString i)) H
  | .tuple => fun xs H Q => ∃ p ys, xs = [.ref p] ∧ ((SqL K H p ys ∧ ∀ l, H l = none → Q (.ref l) (upd H l (.tup ys))) ∨ (SqT K H p ys ∧ Q (.ref p) H))
  | .sum => fun xs H Q => rSum K xs H Q ∨ rSumT K xs H Q
  | .all => rAll K
  | .max => fun xs H Q => (∃ i j, xs = [.int i, .int j] ∧ Q (.int (if j > i then j else i)) H) ∨ rMax K xs H Q
  | .min => fun xs H Q => (∃ i j, xs = [.int i, .int j] ∧ Q (.int (if j < i then j else i)) H) ∨ rMin K xs H Q
  | .abs => fun xs H Q => ∃ i, xs = [.int i] ∧ Q (.int (if i < 0 then -i else i)) H
theorem call_uBi {X : Cx} (hc : X.calm = true) : ∀ b : BI, CallR X b.v (uBi X.K b)
  | .len => (call_lenDct.or call_len_seq).or call_len_str
  | .int => call_int1.or call_int_str
  | .str => call_str_int
  | .tuple => call_tuple_of
  | .sum => (cr_sum hc).or (cr_sumT hc)
  | .all => cr_all hc
  | .max => (call_max2 hc).or (cr_max hc)
  | .min => (call_min2 hc).or (cr_min hc)
  | .abs => call_abs
theorem foldl_max_mem : ∀ (ns : List Int) (n : Int), ns.foldl max n ∈ n :: ns ∧ ∀ y ∈ n :: ns, y ≤ ns.foldl max n
  | [], n => by simp
  | x :: ns, n => by
    obtain ⟨h1, h2⟩ := foldl_max_mem ns (max n x)
    rw [List.foldl_cons]
    refine ⟨?_, fun y hy => ?_⟩
    · rcases List.mem_cons.mp h1 with h | h
      · rw [h]
        by_cases c : n ≤ x
        · rw [Int.max_eq_right c]; simp
        · rw [Int.max_eq_left (by omega)]; simp
      · exact List.mem_cons_of_mem _ (List.mem_cons_of_mem _ h)
    · have h0 := h2 (max n x) (List.mem_cons_self ..)
      rcases List.mem_cons.mp hy with rfl | hy
      · have := Int.le_max_left y x; omega
      · rcases List.mem_cons.mp hy with rfl | hy
        · have := Int.le_max_right n y; omega
        · exact h2 y (List.mem_cons_of_mem _ hy)
theorem foldl_min_mem : ∀ (ns : List Int) (n : Int), ns.foldl min n ∈ n :: ns ∧ ∀ y ∈ n :: ns, ns.foldl min n ≤ y
  | [], n => by simp
  | x :: ns, n => by
    obtain ⟨h1, h2⟩ := foldl_min_mem ns (min n x)
    rw [List.foldl_cons]
    refine ⟨?_, fun y hy => ?_⟩
    · rcases List.mem_cons.mp h1 with h | h
      · rw [h]
        by_cases c : n ≤ x
        · rw [Int.min_eq_left c]; simp
        · rw [Int.min_eq_right (by omega)]; simp
      · exact List.mem_cons_of_mem _ (List.mem_cons_of_mem _ h)
    · have h0 := h2 (min n x) (List.mem_cons_self ..)
      rcases List.mem_cons.mp hy with rfl | hy
      · have := Int.min_le_left y x; omega
      · rcases List.mem_cons.mp hy with rfl | hy
        · have := Int.min_le_right n y; omega
        · exact h2 y (List.mem_cons_of_mem _ hy)
theorem maxI_eq {n m : Int} {ns : List Int} (hm : m ∈ n :: ns) (hy : ∀ y ∈ n :: ns, y ≤ m) : m = ns.foldl max n := by
  obtain ⟨h1, h2⟩ := foldl_max_mem ns n
  have := hy _ h1
  have := h2 _ hm
  omega
theorem minI_eq {n m : Int} {ns : List Int} (hm : m ∈ n :: ns) (hy : ∀ y ∈ n :: ns, m ≤ y) : m = ns.foldl min n := by
  obtain ⟨h1, h2⟩ := foldl_min_mem ns n
  have := hy _ h1
  have := h2 _ hm
  omega
section
variable {K : PySem.W.Frag} {M : Am} {W : WX} {σ : L2.St} {G Φ : Hp} {μ : Mu} {S : Sto} {H : Hp} {Q : VK}
theorem lstInts_ok {d : D} {v : V} {ns : List Int} (r : Rel K M G Φ μ S H) (q : RD K M G μ d v) (e : (lstD S d).bind asInts = some ns) : ∃ a, v = .ref a ∧ SqL K H a (ns.map V.int) := by
  cases h : lstD S d with
  | none => rw [h] at e; cases e
  | some xs =>
    rw [h] at e
    obtain ⟨p, ys, rfl, h1, h2⟩ := lstD_ok r q h
    obtain rfl := asInts_ok e
    obtain rfl := h2.of_ints
    exact ⟨p, rfl, SqL.of h1⟩
theorem lstBls_ok {d : D} {v : V} {ns : List Bool} (r : Rel K M G Φ μ S H) (q : RD K M G μ d v) (e : (lstD S d).bind asBls = some ns) : ∃ a, v = .ref a ∧ SqL K H a (ns.map V.bl) := by
  cases h : lstD S d with
  | none => rw [h] at e; cases e
  | some xs =>
    rw [h] at e
    obtain ⟨p, ys, rfl, h1, h2⟩ := lstD_ok r q h
    obtain rfl := asBls_ok e
    obtain rfl := h2.of_bls
    exact ⟨p, rfl, SqL.of h1⟩
theorem len_ok {d : D} {v : V} {n : Int} (r : Rel K M G Φ μ S H) (q : RD K M G μ d v) (e : (seqD S d).map (fun xs => D.int xs.length) = some (.int n)) (h : Q (.int n) H) : uBi K .len [v] H Q := by
  cases hs : seqD S d with
  | none => rw [hs] at e; cases e
  | some xs =>
    rw [hs] at e; cases e
    obtain ⟨p, ys, rfl, h1, h2⟩ := seqD_ok r q hs
    exact .inl (.inr ⟨p, ys, rfl, h1, by rw [← h2.length]; exact h⟩)
theorem tupl_ok {d : D} {v : V} (r : Rel K M G Φ μ S H) (q : RD K M G μ d v) (h : Res K M W σ G Φ μ (okO ((lstD S d).map .tup) S) (rD K M) Q) : uBi K .tuple [v] H Q := by
  cases hs : lstD S d with
  | none => rw [hs] at h; exact h.elim
  | some xs =>
    rw [hs] at h
    obtain ⟨p, ys, rfl, h1, h2⟩ := lstD_ok r q hs
    exact ⟨p, ys, rfl, .inl ⟨SqL.of h1, res_tup h r h2⟩⟩
theorem biD_ok {b : BI} {ds : List D} {vs : List V} (r : Rel K M G Φ μ S H) (q : RDs K M G μ ds vs) (h : Res K M W σ G Φ μ (okO (biD b ds S) S) (rD K M) Q) : uBi K b vs H Q := by
  unfold biD at h
  split at h
  · cases q with
    | cons q1 q2 =>
      cases q2; cases q1
      split at h
      · rename_i c; exact .inr ⟨_, rfl, c, h.now r (.int _)⟩
      · exact h.elim
  · cases q with
    | cons q1 q2 =>
      cases q2
      rename_i d _ v
      cases hq : dctD S d with
      | some p =>
        rw [hq] at h
        obtain ⟨a, rfl, hk⟩ := dctD_ok r q1 hq
        rcases hk with ⟨h0, kk, ys, h1, h2, h3, h4⟩ | ⟨h0, kk, ys, h1, h2, h3, h4⟩
        · dsimp only at h
          rw [if_pos h0, h1] at h
          have hl : (kk.map kD).length = (kk.zip ys).length := by rw [List.length_map, List.length_zip, ← h2, Nat.min_self]
          rw [hl] at h
          exact .inl (.inl ⟨a, _, rfl, h4, h.now r (.int _)⟩)
        · dsimp only at h
          rw [if_neg (by rw [h0]; decide)] at h
          exact h.elim
      | none =>
        rw [hq] at h
        cases hs : seqD S d with
        | none => rw [hs] at h; exact h.elim
        | some xs =>
          rw [hs] at h
          exact len_ok r q1 (n := xs.length) (by rw [hs]; rfl) (h.now r (.int _))
  · cases q with
    | cons q1 q2 => cases q2; cases q1; exact .inl (.inl ⟨_, rfl, h.now r (.int _)⟩)
  · cases q with
    | cons q1 q2 => cases q2; cases q1; exact .inl (.inr ⟨_, rfl, h.now r (.int _)⟩)
  · cases q with
    | cons q1 q2 =>
      cases q2; cases q1
      split at h
      · rename_i a c
        cases hi : PySem.intText? a with
        | none => rw [hi] at h; exact h.elim
        | some n => rw [hi] at h; exact .inr ⟨_, n, rfl, hi, c, h.now r (.int n)⟩
      · exact h.elim
  · cases q with
    | cons q1 q2 =>
      cases q2; cases q1
      split at h
      · rename_i c; exact ⟨_, rfl, c, h.now r (.str _)⟩
      · exact h.elim
  · cases q with
    | cons q1 q2 =>
      cases q2
      cases q1 with
      | tup h1 q => exact ⟨_, _, rfl, .inr ⟨SqT.of (r.g _ _ h1).tup, h.now r (.tup h1 q)⟩⟩
  · cases q with
    | cons q1 q2 =>
      cases q2
      exact tupl_ok r q1 h
  · cases q with
    | cons q1 q2 =>
      cases q2
      rename_i xs v
      cases q1 with
      | tup h1 q =>
        cases hs : asInts xs with
        | none => rw [hs] at h; exact h.elim
        | some ns =>
          rw [hs] at h
          obtain rfl := asInts_ok hs
          obtain rfl := q.of_ints
          exact .inr ⟨_, ns, rfl, SqT.of (r.g _ _ h1).tup, h.now r (.int _)⟩
  · cases q with
    | cons q1 q2 =>
      cases q2
      rename_i d hne v
      cases hs : (lstD S d).bind asInts with
      | none => rw [hs] at h; exact h.elim
      | some ns =>
        rw [hs] at h
        obtain ⟨a, rfl, h1⟩ := lstInts_ok r q1 hs
        exact .inl ⟨a, ns, rfl, h1, h.now r (.int _)⟩
  · cases q with
    | cons q1 q2 =>
      cases q2
      rename_i d v
      cases hs : (lstD S d).bind asBls with
      | none => rw [hs] at h; exact h.elim
      | some ns =>
        rw [hs] at h
        obtain ⟨a, rfl, h1⟩ := lstBls_ok r q1 hs
        exact ⟨a, ns, rfl, h1, h.now r (.bl _)⟩
  · cases q with
    | cons q1 q2 =>
      cases q2 with
      | cons q2 q3 => cases q3; cases q1; cases q2; exact .inl ⟨_, _, rfl, h.now r (.int _)⟩
  · cases q with
    | cons q1 q2 =>
      cases q2
      rename_i d v
      cases hs : (lstD S d).bind asInts with
      | none => rw [hs] at h; exact h.elim
      | some ns =>
        rw [hs] at h
        cases ns with
        | nil => exact h.elim
        | cons n ns =>
          obtain ⟨a, rfl, h1⟩ := lstInts_ok r q1 hs
          refine .inr ⟨a, n :: ns, rfl, h1, by simp, fun m hm hy => ?_⟩
          rw [maxI_eq hm hy]
          exact h.now r (.int _)
  · cases q with
    | cons q1 q2 =>
      cases q2
      rename_i d v
      cases hs : (lstD S d).bind asInts with
      | none => rw [hs] at h; exact h.elim
      | some ns =>
        rw [hs] at h
        cases ns with
        | nil => exact h.elim
        | cons n ns =>
          obtain ⟨a, rfl, h1⟩ := lstInts_ok r q1 hs
          refine .inr ⟨a, n :: ns, rfl, h1, by simp, fun m hm hy => ?_⟩
          rw [minI_eq hm hy]
          exact h.now r (.int _)
  · cases q with
    | cons q1 q2 =>
      cases q2 with
      | cons q2 q3 => cases q3; cases q1; cases q2; exact .inl ⟨_, _, rfl, h.now r (.int _)⟩
  · cases q with
    | cons q1 q2 => cases q2; cases q1; exact ⟨_, rfl, h.now r (.int _)⟩
  · exact h.elim
end
/-! ### built-ins that make a list -/
theorem insI_perm (i : Int) : ∀ js : List Int, (insI i js).Perm (i :: js)
  | [] => .refl _
  | j :: js => by
    unfold insI
    split
    · exact .refl _
    · exact ((insI_perm i js).cons j).trans (.swap i j js)
theorem sortI_perm : ∀ is : List Int, (sortI is).Perm is
  | [] => .refl _
  | i :: is => (insI_perm i _).trans ((sortI_perm is).cons i)
theorem insI_sorted (i : Int) : ∀ js : List Int, js.Pairwise (· ≤ ·) → (insI i js).Pairwise (· ≤ ·)
  | [], _ => by simp [insI]
  | j :: js, h => by
    rw [List.pairwise_cons] at h
    unfold insI
    split
    · rename_i c
      exact List.pairwise_cons.mpr ⟨fun z hz => by
        rcases List.mem_cons.mp hz with rfl | hz
        · exact c
        · exact Int.le_trans c (h.1 z hz), List.pairwise_cons.mpr h⟩
    · rename_i c
      exact List.pairwise_cons.mpr ⟨fun z hz => by
        rcases List.mem_cons.mp ((insI_perm i js).mem_iff.mp hz) with rfl | hz
        · omega
        · exact h.1 z hz, insI_sorted i js h.2⟩
theorem sortI_sorted : ∀ is : List Int, (sortI is).Pairwise (· ≤ ·)
  | [] => .nil
  | i :: is => insI_sorted i _ (sortI_sorted is)
theorem sorted_unique : ∀ {as bs : List Int}, as.Perm bs → as.Pairwise (· ≤ ·) → bs.Pairwise (· ≤ ·) → as = bs := fun {as bs} h h1 h2 =>
  List.Perm.eq_of_pairwise (fun a b _ _ q1 q2 => Int.le_antisymm q1 q2) h1 h2 h
def BF.v : BF → Value
  | .list => .type "list" | .sorted => .builtin "sorted"
def BF.x : BF → Str
  | .list => "list" | .sorted => "sorted"
def rSortK : List V → Hp → VK → Prop := fun xs H Q => ∃ (a : Addr) (kvs : List (Key × V)) (ks : List Int), xs = [.ref a] ∧ Rd H a (.dK kvs) ∧ kvs.map (·.1) = ks.map Sum.inl ∧ ks.length < 64 ∧
    ∀ (ys : List Int) (p : Addr), ys.Perm ks → ys.Pairwise (· ≤ ·) → H p = none → Q (.ref p) (upd H p (.lst (ys.map V.int)))
def uBf (K : PySem.W.Frag) : BF → List V → Hp → VK → Prop
  | .list => fun xs H Q => ∃ p ys, xs = [.ref p] ∧ (SqL K H p ys ∨ SqT K H p ys) ∧ ∀ l, H l = none → Q (.ref l) (upd H l (.lst ys))
  | .sorted => fun vs H Q => ((rSortedI K vs H Q ∨ rSortD K vs H Q) ∨ rSortT K vs H Q) ∨ rSortK vs H Q
theorem call_uBf {X : Cx} (hc : X.calm = true) (hu : X.A.units + 65 < cLine) : ∀ b : BF, CallR X b.v (uBf X.K b)
  | .list => call_list_of
  | .sorted => fun pins s σ H xs us Q I r h => by
    rcases h with ((h | h) | h) | h
    · exact cr_sortedI pins s σ H xs us Q I r h
    · exact cr_sortD hu pins s σ H xs us Q I r h
    · exact cr_sortT hc hu pins s σ H xs us Q I r h
    · exact call_sortedDI hc pins s σ H xs us Q I r h
section
variable {K : PySem.W.Frag} {M : Am} {W : WX} {σ : L2.St} {G Φ : Hp} {μ : Mu} {S : Sto} {H : Hp} {Q : VK}
def keyD (d : D) : PyData := (pd d).getD .none
/-- a tuple of the heap stands still -/
theorem Rel.adopt {b : Addr} {xs : List V} (r : Rel K M G Φ μ S H) (h : H b = some (.tup xs)) : ∃ G1, Gr Φ G μ G1 μ ∧ Rel K M G1 Φ μ S H ∧ G1 b = some (.tup xs) := by
  have hf : Φ b = none := by
    cases e : Φ b with
    | none => rfl
    | some o =>
      have := r.f b o e
      rw [h] at this
      cases this
      exact absurd e (r.ft b xs)
  cases hg : G b with
  | some u =>
    have := r.g b u hg
    rcases this with z | ⟨z, o, z2⟩
    · rw [h] at z; cases z
      exact ⟨G, .refl, r, hg⟩
    · rw [h] at z2; cases z2
  | none =>
    have gg : ∀ a w, G a = some w → upd G b (.tup xs) a = some w := fun a w e => by
      rw [upd_ne (fun z => by rw [z, hg] at e; cases e)]; exact e
    refine ⟨upd G b (.tup xs), ⟨gg, fun a h1 h2 => ?_, fun _ _ h => h⟩, ⟨fun a w e => ?_, r.f, fun n ob e => ?_, fun n a ob e hd em => ?_, r.inj, r.ub, r.th, fun n a em h => r.fm n a em (gnone_of gg h), r.ft, fun a o e hg' => ?_, fun n a e em => ?_⟩, upd_same⟩
    · by_cases ha : a = b
      · subst ha; exact absurd hf h1
      · rw [upd_ne ha] at h2; exact h2
    · by_cases ha : a = b
      · subst ha; rw [upd_same] at e; cases e; exact .inl h
      · rw [upd_ne ha] at e; exact r.g a w e
    · obtain ⟨a, em, ho⟩ := r.s n ob e
      exact ⟨a, em, ho.grow gg (fun _ _ h => h)⟩
    · obtain ⟨h1, h2⟩ := r.gm n a ob e hd em
      obtain ⟨a', em', ho⟩ := r.s n ob e
      rw [em] at em'; cases em'
      have ha : a ≠ b := fun z => by
        subst z
        cases ob with
        | lst xs => obtain ⟨ys, q, _⟩ := ho; rw [h] at q; cases q
        | dct t ks vs => rcases ho with ⟨_, _, _, _, _, _, q⟩ | ⟨_, _, _, _, _, _, q⟩ <;> rw [h] at q <;> cases q
        | ins c ns vs => obtain ⟨_, _, _, _, q⟩ := ho; rw [h] at q; cases q
        | lck t ks vs => rcases ho with ⟨_, _, _, _, _, _, _, q⟩ | ⟨_, _, _, _, _, _, _, q⟩ <;> rw [h] at q <;> cases q
        | dead => exact hd rfl
      exact ⟨by rw [upd_ne ha]; exact h1, h2⟩
    · by_cases ha : a = b
      · subst ha; rw [hf] at e; cases e
      · rw [upd_ne ha] at hg'; exact r.fg a o e hg'
    · by_cases ha : a = b
      · subst ha; rw [upd_same]; exact fun z => nomatch z
      · rw [upd_ne ha]; exact r.dg n a e em
theorem Rel.adopts : ∀ (bs : List (Addr × List V)) {G : Hp}, Rel K M G Φ μ S H → (∀ b ∈ bs, H b.1 = some (.tup b.2)) → ∃ G1, Gr Φ G μ G1 μ ∧ Rel K M G1 Φ μ S H ∧ ∀ b ∈ bs, G1 b.1 = some (.tup b.2)
  | [], G, r, _ => ⟨G, .refl, r, fun b h => by cases h⟩
  | b :: bs, G, r, h => by
    obtain ⟨G1, g1, r1, e1⟩ := r.adopt (h b (List.mem_cons_self ..))
    obtain ⟨G2, g2, r2, e2⟩ := Rel.adopts bs r1 fun c hc => h c (List.mem_cons_of_mem _ hc)
    refine ⟨G2, g1.trans g2, r2, fun c hc => ?_⟩
    rcases List.mem_cons.mp hc with rfl | hc
    · exact g2.g _ _ e1
    · exact e2 c hc
theorem zip_RDs : ∀ {ds : List D} {vs : List V}, RDs K M G μ ds vs → ∀ t ∈ ds.zip vs, RD K M G μ t.1 t.2
  | _, _, .nil, t, h => by cases h
  | _, _, .cons q qs, t, h => by
    rcases List.mem_cons.mp h with rfl | h
    · exact q
    · exact zip_RDs qs t h
theorem RDs_zip : ∀ (ts : List (D × V)), (∀ t ∈ ts, RD K M G μ t.1 t.2) → RDs K M G μ (ts.map Prod.fst) (ts.map Prod.snd)
  | [], _ => .nil
  | t :: ts, h => .cons (h t (List.mem_cons_self ..)) (RDs_zip ts fun u hu => h u (List.mem_cons_of_mem _ hu))
/-- sorted alike -/
theorem sort_zip {β : Type} (f : β → V) (k : β → PyData) : ∀ (ds : List D) (bs : List β), ds.length = bs.length → bs.map k = ds.map keyD →
    ∃ ts : List (D × β), ts.Perm (ds.zip bs) ∧ ts.map Prod.fst = ds.mergeSort leD ∧ ts.map Prod.snd = bs.mergeSort (PySem.W.dataLe false k) := by
  intro ds bs hl hk
  refine ⟨(ds.zip bs).mergeSort fun t u => leD t.1 u.1, List.mergeSort_perm _ _, ?_, ?_⟩
  · rw [List.map_mergeSort (s := leD) (fun a _ b _ => rfl), List.map_fst_zip (by omega)]
  · rw [List.map_mergeSort (s := PySem.W.dataLe false k) (fun a ha b hb => ?_), List.map_snd_zip (by omega)]
    have kk : ∀ t ∈ ds.zip bs, k t.2 = keyD t.1 := fun t ht => by
      obtain ⟨i, hi, e⟩ := List.getElem_of_mem ht
      rw [List.length_zip] at hi
      rw [List.getElem_zip] at e
      have h1 : (bs.map k)[i]? = (ds.map keyD)[i]? := by rw [hk]
      rw [List.getElem?_map, List.getElem?_map, List.getElem?_eq_getElem (by omega), List.getElem?_eq_getElem (by omega)] at h1
      rw [← e]
      exact Option.some.inj h1
    show PySem.W.dataLe false keyD a.1 b.1 = PySem.W.dataLe false k a.2 b.2
    unfold PySem.W.dataLe PySem.W.sortLe
    simp only [kk a ha, kk b hb]
theorem bfD_ok {b : BF} {m : Bool} {ds : List D} {vs : List V} (r : Rel K M G Φ μ S H) (q : RDs K M G μ ds vs) (h : Res K M W σ G Φ μ (bfD b m ds S) (rD K M) Q) : uBf K b vs H Q := by
  unfold bfD at h
  split at h
  · cases q with
    | cons q1 q2 =>
      cases q2
      split at h
      · rename_i ys hs
        obtain ⟨p, us, rfl, h1, h2⟩ := seqD_ok r q1 hs
        exact ⟨p, us, rfl, h1, res_mkL h r h2⟩
      · exact h.elim
  · cases q with
    | cons q1 q2 =>
      cases q2
      split at h
      · rename_i ds hs
        obtain ⟨p, ys, rfl, h1, h2⟩ := lstD_ok r q1 hs
        split at h
        · rename_i ns hi
          have := asInts_ok hi
          subst this
          have := RDs.of_ints h2
          subst this
          refine .inl (.inl (.inl ⟨p, ns, rfl, SqL.of h1, fun ns' p hp hw hn => ?_⟩))
          have e : ns' = sortI ns := sorted_unique (hp.trans (sortI_perm ns).symm) hw (sortI_sorted ns)
          subst e
          exact res_mkL h r (RDs.ints _) p hn
        · split at h
          · rename_i ok
            obtain ⟨o1, o2, o3, o4⟩ := ok
            have hl := h2.length
            have z1 : ((ds.zip ys).map fun t => ((t.2, keyD t.1) : VP)).map Prod.fst = ys := by
              rw [List.map_map]
              exact List.map_snd_zip (by omega)
            have z2 : ((ds.zip ys).map fun t => ((t.2, keyD t.1) : VP)).map Prod.snd = ds.map keyD := by
              rw [List.map_map]
              have : (Prod.snd ∘ fun t : D × V => ((t.2, keyD t.1) : VP)) = keyD ∘ Prod.fst := rfl
              rw [this, ← List.map_map, List.map_fst_zip (by omega)]
            refine .inl (.inl (.inr ⟨p, (ds.zip ys).map fun t => (t.2, keyD t.1), rfl, by rw [z1]; exact SqL.of h1, fun z hz => ?_, by rw [z2]; exact o2, by rw [z2]; exact o3, fun p hp => ?_⟩))
            · obtain ⟨t, ht, rfl⟩ := List.mem_map.mp hz
              have qt := zip_RDs h2 t ht
              obtain ⟨a, ha, hd⟩ := o1 t.1 (List.of_mem_zip ht).1
              have : keyD t.1 = a := by unfold keyD; rw [ha]; rfl
              show Dp K H t.2 (keyD t.1) ∧ (keyD t.1).depth ≤ 50
              rw [this]
              exact ⟨pd_dp r _ _ _ qt ha, hd⟩
            · obtain ⟨ts, t1, t2, t3⟩ := sort_zip (β := VP) Prod.fst Prod.snd ds ((ds.zip ys).map fun t => (t.2, keyD t.1)) (by rw [List.length_map, List.length_zip]; omega) z2
              have qs : RDs K M G μ (ds.mergeSort leD) ((((ds.zip ys).map fun t => ((t.2, keyD t.1) : VP)).mergeSort (PySem.W.dataLe false Prod.snd)).map Prod.fst) := by
                rw [← t2, ← t3, List.map_map]
                have := RDs_zip (K := K) (M := M) (G := G) (μ := μ) (ts.map fun t => (t.1, t.2.1)) (fun u hu => by
                  obtain ⟨t, ht, rfl⟩ := List.mem_map.mp hu
                  have ht' := t1.mem_iff.mp ht
                  obtain ⟨i, hi, e⟩ := List.getElem_of_mem ht'
                  rw [List.length_zip, List.length_map, List.length_zip] at hi
                  rw [List.getElem_zip, List.getElem_map, List.getElem_zip] at e
                  rw [← e]
                  exact zip_RDs h2 _ (by rw [List.mem_iff_getElem]; exact ⟨i, by rw [List.length_zip]; omega, List.getElem_zip⟩))
                rw [List.map_map, List.map_map] at this
                exact this
              exact res_mkL h r qs p hp
          · exact h.elim
      · split at h
        · rename_i ks vs' hdc
          split at h
          · rename_i ok
            obtain ⟨o1, o2, o3, o4⟩ := ok
            obtain ⟨a, rfl, hd⟩ := dctD_ok r q1 hdc
            rcases hd with ⟨t0, _⟩ | ⟨t1, kk, ys, e1, e2, e3, e4⟩
            · cases t0
            · have e1 : ks = kk.map fun k => .tup (k.map kD) := e1
              subst e1
              have kd : ∀ k : List Key, pd (.tup (k.map kD)) = some (keyP k) := fun k => by
                have : ∀ k : List Key, pds (k.map kD) = some (k.map fun q => match q with
                    | .inl i => PyData.int i
                    | .inr x => .str x) := fun k => by
                  induction k with
                  | nil => rfl
                  | cons q k ih => cases q <;> (rw [List.map_cons, pds]; simp only [kD, pd, ih]; rfl)
                rw [pd, this]; rfl
              have kds : (kk.map fun k => D.tup (k.map kD)).map keyD = kk.map keyP := by
                rw [List.map_map]
                refine List.map_congr_left fun k _ => ?_
                show (pd (.tup (k.map kD))).getD .none = _
                rw [kd]; rfl
              have kvz : (kk.zip ys).map (fun z => keyP z.1) = kk.map keyP := by
                have : (fun z : List Key × V => keyP z.1) = keyP ∘ Prod.fst := rfl
                rw [this, ← List.map_map, List.map_fst_zip (by omega)]
              have o2 : PySem.W.AllAlike ((kk.map fun k => D.tup (k.map kD)).map keyD) := o2
              have o3 : PySem.W.Sortable ((kk.map fun k => D.tup (k.map kD)).map keyD) := o3
              rw [kds] at o2 o3
              rw [List.length_map] at o4
              refine .inl (.inr ⟨a, kk.zip ys, rfl, e4, by rw [List.length_zip]; omega, by rw [kvz]; exact o2, by rw [kvz]; exact o3, fun p bs hp hb1 hb2 => ?_⟩)
              · rw [kvz] at hb1
                have hlb : bs.length = kk.length := by
                  have := congrArg List.length hb1
                  rw [List.length_map, List.length_map] at this
                  exact this
                -- the keys' own tuples
                have hkeys : ∀ (i : Nat) (k : List Key) (b : Addr × PyData), kk[i]? = some k → bs[i]? = some b → H b.1 = some (.tup (k.map kV)) := fun i k b hk hb => by
                  have hy : ∃ y, ys[i]? = some y := by
                    have := (List.getElem?_eq_some_iff.mp hk).1
                    exact ⟨ys[i], List.getElem?_eq_getElem (by omega)⟩
                  obtain ⟨y, hy⟩ := hy
                  have hz : (kk.zip ys)[i]? = some (k, y) := by rw [List.getElem?_zip_eq_some]; exact ⟨hk, hy⟩
                  have hc : (bs.map Prod.fst)[i]? = some b.1 := by rw [List.getElem?_map, hb]; rfl
                  obtain ⟨b', q1, q2⟩ := paired_get hb2 hz
                  rw [hc] at q1
                  cases q1
                  exact q2
                obtain ⟨G1, g1, r1, hG⟩ := Rel.adopts ((kk.zip bs).map fun t => (t.2.1, t.1.map kV)) r (fun c hc => by
                  obtain ⟨t, ht, rfl⟩ := List.mem_map.mp hc
                  obtain ⟨i, hi, e⟩ := List.getElem_of_mem ht
                  rw [List.length_zip] at hi
                  rw [List.getElem_zip] at e
                  rw [← e]
                  exact hkeys i _ _ (List.getElem?_eq_getElem (by omega)) (List.getElem?_eq_getElem (by omega)))
                obtain ⟨ts, t1, t2, t3⟩ := sort_zip (β := Addr × PyData) (fun b => .ref b.1) Prod.snd (kk.map fun k => D.tup (k.map kD)) bs (by rw [List.length_map, hlb]) (by rw [kds]; exact hb1)
                have qs : RDs K M G1 μ ((kk.map fun k => D.tup (k.map kD)).mergeSort leD) ((bs.mergeSort (PySem.W.dataLe false Prod.snd)).map fun b => V.ref b.1) := by
                  rw [← t2, ← t3, List.map_map]
                  have := RDs_zip (K := K) (M := M) (G := G1) (μ := μ) (ts.map fun t => (t.1, V.ref t.2.1)) (fun u hu => by
                    obtain ⟨t, ht, rfl⟩ := List.mem_map.mp hu
                    have ht' := t1.mem_iff.mp ht
                    obtain ⟨i, hi, e⟩ := List.getElem_of_mem ht'
                    rw [List.length_zip, List.length_map] at hi
                    rw [List.getElem_zip, List.getElem_map] at e
                    rw [← e]
                    have hG := hG (bs[i].1, kk[i].map kV) (List.mem_map.mpr ⟨(kk[i], bs[i]), by rw [List.mem_iff_getElem]; exact ⟨i, by rw [List.length_zip]; omega, List.getElem_zip⟩, rfl⟩)
                    have keyRD : ∀ k : List Key, RDs K M G1 μ (k.map kD) (k.map kV) := fun k => by
                      induction k with
                      | nil => exact .nil
                      | cons q k ih =>
                        cases q with
                        | inl i => exact .cons (.int i) ih
                        | inr x => exact .cons (.str x) ih
                    exact .tup hG (keyRD _))
                  rw [List.map_map, List.map_map] at this
                  exact this
                exact res_mkL (Res.mono g1 h) r1 qs p hp
          · exact h.elim
        · rename_i ks vs' hdc
          split at h
          · rename_i ns hi
            split at h
            · rename_i c
              have e0 := asInts_ok hi
              obtain ⟨a, rfl, hd⟩ := dctD_ok r q1 hdc
              rcases hd with ⟨t0, kk, ys, e1, e2, e3, e4⟩ | ⟨t1, _⟩
              · have e1 : ks = kk.map kD := e1
                have ek : kk = ns.map Sum.inl := by
                  have e5 : kk.map kD = ns.map D.int := by rw [← e1, e0]
                  have : ∀ (kk : List Key) (ns : List Int), kk.map kD = ns.map D.int → kk = ns.map Sum.inl := fun kk => by
                    induction kk with
                    | nil => intro ns h; cases ns with
                      | nil => rfl
                      | cons _ _ => cases h
                    | cons q kk ih =>
                      intro ns h
                      cases ns with
                      | nil => cases h
                      | cons n ns =>
                        rw [List.map_cons, List.map_cons] at h
                        injection h with h1 h2
                        cases q with
                        | inl i => cases h1; rw [List.map_cons, ih ns h2]
                        | inr x => cases h1
                  exact this _ _ e5
                refine .inr ⟨a, kk.zip ys, ns, rfl, e4, by rw [List.map_fst_zip (by omega)]; exact ek, c, fun ns' p hp hw hn => ?_⟩
                have e : ns' = sortI ns := sorted_unique (hp.trans (sortI_perm ns).symm) hw (sortI_sorted ns)
                subst e
                exact res_mkL h r (RDs.ints _) p hn
              · cases t1
            · exact h.elim
          · exact h.elim
        · exact h.elim
  · exact h.elim
end
theorem asStrs_eq : ∀ {xs : List D} {ys : List Str}, asStrs xs = some ys → xs = ys.map D.str
  | [], ys, h => by cases h; rfl
  | .str x :: r, ys, h => by
    unfold asStrs at h
    cases e : asStrs r with
    | none => rw [e] at h; cases h
    | some zs => rw [e] at h; cases h; rw [List.map_cons, asStrs_eq e]
  | .non :: _, _, h => by simp [asStrs] at h
  | .bl _ :: _, _, h => by simp [asStrs] at h
  | .int _ :: _, _, h => by simp [asStrs] at h
  | .tup _ :: _, _, h => by simp [asStrs] at h
  | .lst _ :: _, _, h => by simp [asStrs] at h
  | .scr _ :: _, _, h => by simp [asStrs] at h
  | .dct _ _ _ :: _, _, h => by simp [asStrs] at h
  | .obj _ _ _ :: _, _, h => by simp [asStrs] at h
  | .ref _ :: _, _, h => by simp [asStrs] at h
  | .fn _ :: _, _, h => by simp [asStrs] at h
section
variable {K : PySem.W.Frag} {M : Am} {W : WX} {σ : L2.St} {G Φ : Hp} {μ : Mu} {S : Sto} {H : Hp} {Q : VK}
theorem seqStrs_ok {d : D} {v : V} {ys : List Str} (r : Rel K M G Φ μ S H) (q : RD K M G μ d v) (h : (seqD S d).bind asStrs = some ys) : ∃ p, v = .ref p ∧ (SqL K H p (ys.map V.str) ∨ SqT K H p (ys.map V.str)) := by
  cases e : seqD S d with
  | none => rw [e] at h; cases h
  | some xs =>
    rw [e] at h
    have hx := asStrs_eq h
    subst hx
    obtain ⟨p, us, e1, h1, h2⟩ := seqD_ok r q e
    rw [RDs.of_strs h2] at h1
    exact ⟨p, e1, h1⟩
end
/-! ### methods that make a new list -/
def MF.T : MF → String
  | .split => "str"
def MF.x : MF → Str
  | .split => "split"
def MF.id : MF → String
  | .split => "str.split"
def uMf : MF → V → List V → Hp → VK → Prop
  | .split => fun x xs H Q => ∃ a b, x = .str a ∧ xs = [.str b] ∧ (b.length == 0) = false ∧ a.length + 2 ≤ sizeLine ∧ rNewStrs (Txt.split a b) H Q
theorem mt_uMf {X : Cx} : ∀ b : MF, MtR X b.id (uMf b)
  | .split => mt_split
section
variable {K : PySem.W.Frag} {M : Am} {W : WX} {σ : L2.St} {G Φ : Hp} {μ : Mu} {S : Sto} {H : Hp} {Q : VK}
theorem tyF_ok {b : MF} {x : D} {v : V} (q : RD K M G μ x v) (h : tyF b x = true) : tyV K b.T v H := by
  unfold tyF at h
  split at h
  · cases q; exact rfl
  · cases h
theorem RDs.strs : ∀ ns : List Str, RDs K M G μ (ns.map D.str) (ns.map V.str)
  | [] => .nil
  | n :: ns => .cons (.str n) (RDs.strs ns)
theorem mfD_ok {b : MF} {m : Bool} {x : D} {v : V} {ds : List D} {vs : List V} (r : Rel K M G Φ μ S H) (qx : RD K M G μ x v) (q : RDs K M G μ ds vs) (h : Res K M W σ G Φ μ (mfD b m x ds S) (rD K M) Q) : uMf b v vs H Q := by
  unfold mfD at h
  split at h
  · cases qx
    cases q with
    | cons q1 q2 =>
      cases q2; cases q1
      split at h
      · rename_i c
        exact ⟨_, _, rfl, rfl, c.1, c.2, res_mkL h r (RDs.strs _)⟩
      · exact h.elim
  · exact h.elim
end
/-! ### len(set(list of ints)) -/
theorem ints_of_vals : ∀ {ns : List Int} {us : List Value}, Vals (ns.map V.int) us → PyProof.Rows.IntsAre us ns
  | [], _, .nil => .nil
  | m :: ms, _, .cons h rest => by
    obtain ⟨tk, rfl⟩ := h
    exact .cons m tk (ints_of_vals rest)
def tLens (K : PySem.W.Frag) (te : TE) : TE := fun σ H Q => te σ H fun x H1 => ∃ (b : Addr) (ms : List Int), x = .ref b ∧ SqL K H1 b (ms.map V.int) ∧ ms.length < 4000 ∧ Q (.int ((PyProof.Rows.firstMet (fun i => ms.getD i 0) ms.length).length : Nat)) H1
theorem pe_lens {X : Cx} {a : Expr} {te : TE} {p1 p2 p3 p4 : Pos} (hc : X.calm = true) (g1 : Gl X "len") (m1 : X.mg "len" = none) (g2 : Gl X "set") (m2 : X.mg "set" = none) (he : PE X a te) (hn : starEach [a] X.env = (false, eval a X.env) :: starEach [] X.env) :
    PE X (.Call (.Name "len" p1) [.Call (.Name "set" p2) [a] [] p3] [] p4) (tLens X.K te) := by
  constructor
  intro pins s σ H Q I h
  refine Call_ (ld_blt I g1 m1 (show bootBuiltins "len" = some (.builtin "len") from by decide +kernel) (PyProof.Rows.callWith_builtin1 (PyProof.Rows.args_cons ?_ rfl) rfl rfl))
  refine Call_ (ld_blt I g2 m2 (show bootBuiltins "set" = some (.type "set") from by decide +kernel) (PyProof.Rows.callWith_type1 (PyProof.Rows.args_cons (thn (he.run pins s σ H _ I h) fun v t1 hv => PyProof.Rows.args_nil ?_) hn) hn rfl))
  obtain ⟨x, H1, J, rx, b, ms, rfl, hq, hl, q1⟩ := hv
  cases rx
  obtain ⟨its, rv, pl, _⟩ := J.list hq
  have sz : its.toArray.size = ms.length := by rw [List.size_toArray, ← rv.length, List.length_map]
  refine call_set_list (J.ok.hd hc) pl.isList (by rw [List.toList_toArray]; exact ints_of_vals rv) (by rw [sz]; unfold scanBound; omega) fun h' tk hS hk => PyProof.Rows.args_nil ?_
  rw [sz] at hS
  obtain ⟨o, es, ep, t, ho, hex, hd, _, _, hlt, hf, en⟩ := hS
  have J2 : Inv X pins σ H1 { t1 with heap := h', toks := tk } := J.kept fun c o' e => hk c o' (Heap.lt_size e) e
  refine call_len_set ho hex hd hf ?_ ⟨.int ((PyProof.Rows.firstMet (fun i => ms.getD i 0) ms.length).length : Nat), H1, J2.tok _, ⟨_, by rw [en]⟩, q1⟩
  unfold scanBound at hlt
  omega
/-! ### methods -/
def ME.T : ME → String
  | .append => "list" | .extend => "list" | .pop => "list" | .reverse => "list" | .index => "str" | .startswith => "str" | .find => "str" | .join => "str" | .get => "dict" | .count => "list" | .dpop => "dict"
def ME.x : ME → Str
  | .append => "append" | .extend => "extend" | .pop => "pop" | .reverse => "reverse" | .index => "index" | .startswith => "startswith" | .find => "find" | .join => "join" | .get => "get" | .count => "count" | .dpop => "pop"
def ME.id : ME → String
  | .append => "list.append" | .extend => "list.extend" | .pop => "list.pop" | .reverse => "list.reverse" | .index => "str.index" | .startswith => "str.startswith" | .find => "str.find" | .join => "str.join" | .get => "dict.get" | .count => "list.count" | .dpop => "dict.pop"
def rCountD (K : PySem.W.Frag) : V → List V → Hp → VK → Prop := fun x xs H Q => ∃ (a : Addr) (y : V) (d : PyData) (ds : List PyData), x = V.ref a ∧ xs = [y] ∧ Dp K H (V.ref a) (.list ds) ∧ Dp K H y d ∧
  SeqAt.shaped (.list ds) = true ∧ SeqAt.shaped d = true ∧ Q (.int (ds.countP fun z => PyData.eqv z d : Nat)) H
theorem mt_countD {X : Cx} (hu : X.A.units + 65 < cLine) : MtR X "list.count" (rCountD X.K) := by
  intro pins s σ H x xs v us Q I rx rxs h
  obtain ⟨a, y, d, ds, rfl, rfl, hl, hy, sl, sd, q⟩ := h
  cases rx
  cases rxs with
  | cons ry rt =>
    rename_i uy ut
    cases rt
    obtain ⟨bs, r1⟩ := Dp.reads I d y uy hy ry
    have hxs : PyData.canLayAll0 ds = true := SeqAt.canLay_of_shaped sl
    have hroom : X.A.units + 1 + min (PyData.depthAll ds) d.depth < cLine := room_in_shaped sd hu
    cases hl with
    | lst hs ha =>
      obtain ⟨its, rv, ⟨⟨cls, dd, data, sls⟩, n, ho, hc, hdn, hdt⟩, hlen⟩ := I.list hs
      simp only at hc hdt
      subst hc hdt
      obtain ⟨as, h4⟩ := Dp.readsAll I ds _ its ha rv
      have hmap : its.map (SeqAt.readOf s.heap) = ds := SeqAt.readsAll_map ds its as hxs h4
      have ec : its.toArray.toList.countP (fun u => PyData.eqv (SeqAt.readOf s.heap u) d) = ds.countP fun z => PyData.eqv z d := by
        rw [← hmap, List.countP_map] <;> rfl
      refine call_meets PySem.F.slot_list_count ⟨_, ho, rfl⟩ PySem.F.entry_list_count (PySem.F.args_list_count_2 _ _)
        (SeqAt.list_countAt a its.toArray n dd sls uy (fun u => PyData.eqv (SeqAt.readOf s.heap u) d)) ⟨ho, SeqAt.items_eqAt (vs := its.toArray) (show ReadsAll s.heap its.toArray.toList ds as from h4) r1 hxs (SeqAt.canLay_of_shaped sd) hroom, ?_⟩
      refine ⟨.int (ds.countP fun z => PyData.eqv z d : Nat), H, I.tok _, ⟨s.toks, ?_⟩, q⟩
      show Value.int ((its.toArray.toList.countP _ : Nat) : Int) s.toks = _
      rw [ec]
def rDPop : V → List V → Hp → VK → Prop := fun x xs H Q => ∃ (a : Addr) (kvs : List (Key × V)) (k : Key) (v : V), x = .ref a ∧ xs = [kV k] ∧ H a = some (.dK kvs) ∧ valV kvs k = some v ∧ Q v (upd H a (.dK (dropK kvs k)))
theorem mt_dpop {X : Cx} : MtR X "dict.pop" rDPop := by
  intro pins s σ H x xs v us Q I rx rxs h
  obtain ⟨a, kvs, k, w, rfl, rfl, e, l, q⟩ := h
  cases rx
  cases rxs with
  | cons ry rt =>
    cases rt
    exact d_pop I e ry l (.inl rfl) fun w' s' I' rw' => ⟨w, _, I', rw', q⟩
def uMe (K : PySem.W.Frag) : ME → V → List V → Hp → VK → Prop
  | .append => rAppend
  | .startswith => fun x xs H Q => ∃ a b, x = .str a ∧ xs = [.str b] ∧ Q (.bl (Txt.startswith a b)) H
  | .pop => rPopAt
  | .extend => rExtend
  | .find => fun x xs H Q => (∃ a b, x = .str a ∧ xs = [.str b] ∧ Q (.int (Txt.find a b)) H) ∨ ∃ (a b : Str) (i : Int), x = .str a ∧ xs = [.str b, .int i] ∧ Q (.int (Txt.find3 a b i)) H
  | .join => fun x xs H Q => ∃ a p, ∃ ys : List Str, x = .str a ∧ xs = [.ref p] ∧ (SqL K H p (ys.map V.str) ∨ SqT K H p (ys.map V.str)) ∧ (ys.map (·.length)).sum + ys.length * a.length ≤ 16777216 ∧ Q (.str (Txt.join a ys)) H
  | .get => fun x xs H Q => ∃ a y o, x = .ref a ∧ DGet H a y o ∧ ((xs = [y] ∧ Q (o.getD .non) H) ∨ ∃ d, xs = [y, d] ∧ Q (o.getD d) H)
  | .index => fun x xs H Q => ∃ a b i rest, x = .str a ∧ xs = [.str b] ∧ Builtin.Str.occurrences a b 0 a.length 1 = i :: rest ∧ Q (.int (i : Nat)) H
  | .count => rCountD K
  | .dpop => rDPop
  | .reverse => rReverse
theorem mt_uMe {X : Cx} (hu : X.A.units + 65 < cLine) : ∀ b : ME, MtR X b.id (uMe X.K b)
  | .append => mt_append
  | .startswith => mt_startswith
  | .extend => mt_extend
  | .pop => mt_popAt
  | .reverse => mt_reverse
  | .index => mt_sindex
  | .find => MtR.or mt_find mt_find3
  | .join => mt_join
  | .get => mt_get (by omega)
  | .count => mt_countD hu
  | .dpop => mt_dpop
/-- .. a dict may be locked, too -/
def tyV' (K : PySem.W.Frag) (T : String) (x : V) (H : Hp) : Prop := tyV K T x H ∨ (T = "dict" ∧ ∃ p, x = .ref p ∧ ((∃ kvs, Rd H p (.dK kvs)) ∨ ∃ kvs, Rd H p (.dT kvs)))
theorem tyV'_is {X : Cx} {pins : List (Addr × Obj)} {σ : L2.St} {H : Hp} {s : Shared} {T : String} {x : V} {v : Value} (I : Inv X pins σ H s) (r : RelV x v) (ty : tyV' X.K T x H) :
    s.TypeIs v T ∧ ∀ a, v = .ref a → ∃ ob, s.heap.get? a = some ob ∧ ob.dict = none := by
  rcases ty with ty | ⟨rfl, p, rfl, hk⟩
  · exact tyV_is I r ty
  · have fz : ∀ o, s.heap.get? p = some o → o.ExactDict → s.TypeIs v "dict" ∧ ∀ a, v = .ref a → ∃ ob, s.heap.get? a = some ob ∧ ob.dict = none := fun o e ex => by
      cases r
      refine ⟨⟨o, e, ex.1⟩, fun a e2 => ?_⟩
      cases e2
      exact ⟨o, e, ex.2.1⟩
    rcases hk with ⟨kvs, h | ⟨o, h⟩⟩ | ⟨kvs, h | ⟨o, h⟩⟩
    · exact tyV_is I r (.inr (.inr (.inl ⟨rfl, .inl ⟨_, h⟩⟩)))
    · obtain ⟨_, e, ex, _⟩ := I.frzK h
      exact fz _ e ex
    · exact tyV_is I r (.inr (.inr (.inl ⟨rfl, .inr ⟨_, h⟩⟩)))
    · obtain ⟨_, e, ex, _⟩ := I.frzT h
      exact fz _ e ex
def tBM' (K : PySem.W.Frag) (T : String) (r : V → List V → Hp → VK → Prop) (to : TE) (t : TA) : TE := fun σ H Q => to σ H fun x H1 => tyV' K T x H1 ∧ t σ H1 fun xs H2 => r x xs H2 Q
theorem pe_bm' {X : Cx} {o e : Expr} {es : List Expr} {to : TE} {t : TA} {name : Str} {apos cpos : Pos} {T id : String} {r : V → List V → Hp → VK → Prop} (pa : PlainAttrs T) (slot : Slot T name id) (hty : typeOf (.builtin id) = pure (.type "method_descriptor")) (hm : MtR X id r) (ho : PE X o to) (ha : PA X (e :: es) t)
    (hbase : attributeBase o name X.env (eval o X.env) = eval o X.env)
    (hfew : ((backTo cpos (starEach (e :: es) X.env)).all (fun x => !x.1) && (backToKw cpos (keywordEach [] X.env)).all (fun x => x.1.isSome)
      && decide ((e :: es).length + ([] : List Keyword).length + (if ([] : List Keyword).isEmpty then 0 else 1) < 30)) = true)
    (hline : (apos.endLine == cpos.line) = true) (hs : starEach (e :: es) X.env = (false, eval e X.env) :: starEach es X.env) (hplain : (backTo cpos (starEach es X.env)).any (·.1) = false) :
    PE X (.Call (.Attribute o name apos) (e :: es) [] cpos) (tBM' X.K T r to t) := by
  refine ⟨fun pins s σ H Q I h => ?_⟩
  refine wpAny_Call_method_late hbase hfew hline rfl (thn (ho.run pins s σ H _ I h) fun v s1 ⟨x, H1, I1, r1, ty, q1⟩ => ?_)
  obtain ⟨h1, h2⟩ := tyV'_is I1 r1 ty
  refine ⟨T, id, pa, slot, hty, h1, h2, ?_⟩
  have hA := ha.run cpos pins s1 σ H1 _ I1 q1
  rw [hs] at hA ⊢
  refine Calls.callWith_builtin (by show (false || (backTo cpos (starEach es X.env)).any (·.1)) = false; rw [hplain] <;> rfl) (Calls.evalArgs_plain ?_)
  exact thn hA fun us s2 ⟨vs, H2, I2, r2, q2⟩ => hm pins s2 σ H2 x vs v us Q I2 r1 r2 q2
section
variable {K : PySem.W.Frag} {M : Am} {W : WX} {σ : L2.St} {G Φ : Hp} {μ : Mu} {S : Sto} {H : Hp} {Q : VK}
theorem tyM_ok {b : ME} {x : D} {v : V} (r : Rel K M G Φ μ S H) (q : RD K M G μ x v) (h : tyM b x S = true) : tyV' K b.T v H := by
  unfold tyM at h
  split at h
  · rename_i n
    cases q with
    | ref hm =>
      cases hg : getL S n with
      | none => rw [hg] at h; cases h
      | some xs =>
        obtain ⟨ys, h1, h2⟩ := r.look (getL_of hg) hm
        exact .inl (.inl ⟨rfl, ys, SqL.of h1⟩)
  · rename_i n
    cases q with
    | ref hm =>
      cases hg : getL S n with
      | none => rw [hg] at h; cases h
      | some xs =>
        obtain ⟨ys, h1, h2⟩ := r.look (getL_of hg) hm
        exact .inl (.inl ⟨rfl, ys, SqL.of h1⟩)
  · rename_i n
    cases q with
    | ref hm =>
      cases hg : getL S n with
      | none => rw [hg] at h; cases h
      | some xs =>
        obtain ⟨ys, h1, h2⟩ := r.look (getL_of hg) hm
        exact .inl (.inl ⟨rfl, ys, SqL.of h1⟩)
  · cases q; exact .inl rfl
  · cases q; exact .inl rfl
  · cases q; exact .inl rfl
  · rename_i n
    cases hd : dctD S (.ref n) with
    | none => rw [hd] at h; cases h
    | some p =>
      cases q with
      | ref hm =>
        obtain ⟨t, ks, vs, hs, rfl⟩ := dctD_ref hd
        rcases dctR_ok r hm hs with ⟨t0, kk, ys, e1, l, q1, h⟩ | ⟨t0, kk, ys, e1, l, q1, h⟩
        · exact .inr ⟨rfl, _, rfl, .inl ⟨_, h⟩⟩
        · exact .inr ⟨rfl, _, rfl, .inr ⟨_, h⟩⟩
  · cases q with
    | dK e1 l q1 h => exact .inr ⟨rfl, _, rfl, .inl ⟨_, (r.g _ _ h).rd⟩⟩
    | dT e1 l q1 h => exact .inr ⟨rfl, _, rfl, .inr ⟨_, (r.g _ _ h).rd⟩⟩
  · cases q; exact .inl rfl
  · rename_i n
    cases q with
    | ref hm =>
      cases hg : getL S n with
      | none => rw [hg] at h; cases h
      | some xs =>
        obtain ⟨ys, h1, h2⟩ := r.look (getL_of hg) hm
        exact .inl (.inl ⟨rfl, ys, SqL.of h1⟩)
  · cases q with
    | lst h1 q => exact .inl (.inl ⟨rfl, _, SqL.of (r.g _ _ h1).lst⟩)
  · rename_i n
    cases hd : dctD S (.ref n) with
    | none => rw [hd] at h; cases h
    | some p =>
      cases q with
      | ref hm =>
        obtain ⟨t, ks, vs, hs, rfl⟩ := dctD_ref hd
        rcases dctR_ok r hm hs with ⟨t0, kk, ys, e1, l, q1, h⟩ | ⟨t0, kk, ys, e1, l, q1, h⟩
        · exact .inr ⟨rfl, _, rfl, .inl ⟨_, h⟩⟩
        · exact .inr ⟨rfl, _, rfl, .inr ⟨_, h⟩⟩
  · rename_i n
    cases q with
    | ref hm =>
      cases hg : getL S n with
      | none => rw [hg] at h; cases h
      | some xs =>
        obtain ⟨ys, h1, h2⟩ := r.look (getL_of hg) hm
        exact .inl (.inl ⟨rfl, ys, SqL.of h1⟩)
  · cases h
theorem meD_ok {b : ME} {x : D} {v : V} {ds : List D} {vs : List V} (r : Rel K M G Φ μ S H) (qx : RD K M G μ x v) (q : RDs K M G μ ds vs) (h : Res K M W σ G Φ μ (meD b x ds S) (rD K M) Q) : uMe K b v vs H Q := by
  unfold meD at h
  split at h
  · rename_i n y
    cases qx with
    | ref hm =>
      cases q with
      | cons q1 q2 =>
        cases q2
        split at h
        · rename_i zs hg
          split at h
          · rename_i c
            obtain ⟨ys, h1, h2⟩ := r.look (getL_of hg) hm
            have r' := r.write (getL_of hg) (fun z => nomatch z) hm (ob' := .lst (zs ++ [y])) (u := .lst (ys ++ [_])) ⟨_, upd_same, h2.append (.cons q1 .nil)⟩
            exact ⟨_, ys, _, rfl, rfl, h1, by rw [← h2.length]; exact c, h.now r' .non⟩
          · exact h.elim
        · exact h.elim
  · cases qx
    cases q with
    | cons q1 q2 => cases q2; cases q1; exact ⟨_, _, rfl, rfl, h.now r (.bl _)⟩
  · rename_i n i
    cases qx with
    | ref hm =>
      cases q with
      | cons q1 q2 =>
        cases q2; cases q1
        split at h
        · rename_i zs hg
          split at h
          · rename_i k hk
            split at h
            · rename_i y hy
              split at h
              · rename_i c
                obtain ⟨ys, h1, h2⟩ := r.look (getL_of hg) hm
                obtain ⟨v, hv, rv⟩ := h2.get hy
                obtain ⟨i1, i2, i3, i4⟩ := ixN_seq hk
                rw [sizeLine_eq] at c
                have r' := r.write (getL_of hg) (fun z => nomatch z) hm (ob' := .lst (zs.eraseIdx k)) (u := .lst (ys.eraseIdx k)) ⟨_, upd_same, h2.eraseIdx k⟩
                exact ⟨_, ys, i, k, v, rfl, rfl, h1, by omega, by omega, by rw [← h2.length]; exact i1, hv, h.now r' rv⟩
              · exact h.elim
            · exact h.elim
          · exact h.elim
        · exact h.elim
  · rename_i n d
    cases qx with
    | ref hm =>
      cases q with
      | cons q1 q2 =>
        cases q2
        split at h
        · rename_i zs ys hg hl
          split at h
          · rename_i c
            obtain ⟨us, h1, h2⟩ := r.look (getL_of hg) hm
            obtain ⟨b, ws, rfl, h3, h4⟩ := lstD_ok r q1 hl
            have r' := r.write (getL_of hg) (fun z => nomatch z) hm (ob' := .lst (zs ++ ys)) (u := .lst (us ++ ws)) ⟨_, upd_same, h2.append h4⟩
            exact ⟨_, b, us, ws, rfl, rfl, h1, h3, by rw [← h2.length, ← h4.length]; exact c, h.now r' .non⟩
          · exact h.elim
        · exact h.elim
  · cases qx
    cases q with
    | cons q1 q2 => cases q2; cases q1; exact .inl ⟨_, _, rfl, rfl, h.now r (.int _)⟩
  · cases qx
    cases q with
    | cons q1 q2 =>
      cases q2 with
      | cons q2 q3 => cases q3; cases q1; cases q2; exact .inr ⟨_, _, _, rfl, rfl, h.now r (.int _)⟩
  · rename_i a d
    cases qx
    cases q with
    | cons q1 q2 =>
      cases q2
      cases hs : (seqD S d).bind asStrs with
      | none => rw [hs] at h; exact h.elim
      | some ys =>
        rw [hs] at h
        dsimp only at h
        split at h
        · rename_i c
          obtain ⟨p, e, h1⟩ := seqStrs_ok r q1 hs
          exact ⟨_, p, ys, rfl, by rw [e], h1, c, h.now r (.str _)⟩
        · exact h.elim
  · rename_i y
    split at h
    · rename_i p hp
      cases q with
      | cons q1 q2 =>
        cases q2
        cases hg : dGet p y with
        | none => rw [hg] at h; exact h.elim
        | some o =>
          rw [hg] at h
          obtain ⟨a, pv, e1, e2, e3⟩ := dGet_ok r qx q1 hp hg
          exact ⟨a, _, pv, e1, e2, .inl ⟨rfl, h.now r (e3.getD .non)⟩⟩
    · exact h.elim
  · rename_i y d
    split at h
    · rename_i p hp
      cases q with
      | cons q1 q2 =>
        cases q2 with
        | cons q2 q3 =>
          cases q3
          cases hg : dGet p y with
          | none => rw [hg] at h; exact h.elim
          | some o =>
            rw [hg] at h
            obtain ⟨a, pv, e1, e2, e3⟩ := dGet_ok r qx q1 hp hg
            exact ⟨a, _, pv, e1, e2, .inr ⟨_, rfl, h.now r (e3.getD q2)⟩⟩
    · exact h.elim
  · cases qx
    cases q with
    | cons q1 q2 =>
      cases q2; cases q1
      split at h
      · rename_i i rest ho
        exact ⟨_, _, i, rest, rfl, rfl, ho, h.now r (.int _)⟩
      · exact h.elim
  · rename_i y
    cases q with
    | cons q1 q2 =>
      cases q2
      split at h
      · rename_i a b ha hb
        split at h
        · rename_i c
          have d1 := pd_dp r _ _ _ q1 ha
          have d2 := pd2_dp r qx hb
          obtain ⟨p, rfl⟩ : ∃ p, v = .ref p := by cases d2; exact ⟨_, rfl⟩
          exact ⟨p, _, a, b, rfl, rfl, d2, d1, c.2, c.1, h.now r (.int _)⟩
        · exact h.elim
      · exact h.elim
  · rename_i n y
    cases qx with
    | ref hm =>
      cases q with
      | cons q1 q2 =>
        cases q2
        split at h
        · rename_i ks vs hs
          split at h
          · rename_i k hk
            split at h
            · rename_i d hd
              rcases r.look hs hm with ⟨t0, kk, ys, e1, l, q1', hH⟩ | ⟨t0, _⟩
              · subst e1
                have ho := lookK_ok (G := G) kD_key k l q1'
                rcases ho with ⟨d', v', h1, h2, rv⟩ | ⟨h1, _⟩
                · rw [hd] at h1; cases h1
                  obtain ⟨kk', ys', f1, f2, f3, f4⟩ := delK_ok (G := G) kD_key k l q1'
                  have r' := r.write hs (fun z => nomatch z) hm (ob' := .dct 0 (delK kKey k (kk.map kD) vs).1 (delK kKey k (kk.map kD) vs).2) (u := .dK (dropK (kk.zip ys) k)) (.inl ⟨rfl, kk', ys', f1, f2, f3, by rw [upd_same, f4]⟩)
                  exact ⟨_, _, k, _, rfl, by rw [kKey_ok q1 hk], hH, h2, h.now r' rv⟩
                · rw [hd] at h1; cases h1
              · cases t0
            · exact h.elim
          · exact h.elim
        · exact h.elim
  · rename_i n
    cases qx with
    | ref hm =>
      cases q
      split at h
      · rename_i zs hg
        obtain ⟨ys, h1, h2⟩ := r.look (getL_of hg) hm
        have r' := r.write (getL_of hg) (fun z => nomatch z) hm (ob' := .lst zs.reverse) (u := .lst ys.reverse) ⟨_, upd_same, h2.reverse⟩
        exact ⟨_, ys, rfl, rfl, h1, h.now r' .non⟩
      · exact h.elim
  · exact h.elim
end
end Ip
/-! ## enumerate of a tuple -/
namespace Ip
open PySem PySem.Spec PyProof.Rows L2
open PySem.AutoSeq1 (wpAny_loadPart')
theorem meets_enum_tup (l : Addr) (items : Array Value) (n : Nat) (dct : Option Addr) (sl : Array (Option Value)) :
    Meets (Builtin.«enumerate.__new__» ⟨[.type "enumerate", .ref l], []⟩) (fun _ R s => s.heap.get? l = some { cls := .type "tuple", dict := dct, data := .seq items n, slots := sl } ∧
      R (.ok (.ret (.ref (s.heap.push { cls := .type "tuple_iterator", data := .fields #[.ref l, .int 0 0] }).objs.size)))
        { s with heap := (s.heap.push { cls := .type "tuple_iterator", data := .fields #[.ref l, .int 0 0] }).push { cls := .type "enumerate", data := .fields #[.none, .bool false, .ref s.heap.objs.size, rawInt 0, .none, .none] } }) :=
  .of_wp fun prog w A R s h => by
    obtain ⟨hp, g, d, tk, os⟩ := s
    obtain ⟨hl, h⟩ := h
    have hsub := sub_enumerate
    have hT : Heap.IsTuple (Shared.heap ⟨hp, g, d, tk, os⟩) l items := ⟨_, hl, rfl, n, rfl⟩
    wp_walk using wpAny_loadPart' hl
    refine wpAny_stack_any fun st => wpAny_pure ?_
    split
    · rename_i c _ _ _ _ _
      cases hcc : (c == Value.type "enumerate")
      · wp_walk using wpAny_loadPart' hl, wpAny_pyIter_tuple hT
        exact ⟨_, rfl, h⟩
      · wp_walk using wpAny_loadPart' hl, wpAny_pyIter_tuple hT
        exact ⟨_, rfl, h⟩
    · wp_walk using wpAny_loadPart' hl, wpAny_pyIter_tuple hT
      exact ⟨_, rfl, h⟩
section
variable {prog : Program} {w : World} {A : Around} {E : Value → Shared → Prop} {s : Shared}
theorem call_enum_tup {l : Addr} {items : Array Value} {Q : Value → Shared → Prop} (hL : s.heap.IsTuple l items)
    (h : ∀ h', IsEnum h' (s.heap.objs.size + 1) s.heap.objs.size 0 .none → h'.IsTupleIter s.heap.objs.size l 0 → h'.objs.size = s.heap.objs.size + 2 →
      (∀ b o, s.heap.get? b = some o → h'.get? b = some o) → Q (.ref (s.heap.objs.size + 1)) { s with heap := h' }) :
    wpAny (model prog w) A (call (.type "enumerate") [.ref l]) Q E s := by
  obtain ⟨⟨c, dct, dt, sl⟩, hl, hc, n, hd⟩ := hL
  replace hc : c = .type "tuple" := hc
  replace hd : dt = .seq items n := hd
  subst hc hd
  refine callType_new F.called_enumerate (by decide) (F.typeCall_enumerate_1 _) (F.newCall_enumerate_1 _) (fun obj => F.args_object_init_2 obj _) F.entry_enumerate_new
    (meets_enum_tup l items n dct sl) ⟨hl, ?_⟩
  have hz : (s.heap.push { cls := .type "tuple_iterator", data := .fields #[.ref l, .int 0 0] }).objs.size = s.heap.objs.size + 1 := Heap.size_push ..
  show _ ∧ _
  rw [hz]
  have he : IsEnum ((s.heap.push { cls := .type "tuple_iterator", data := .fields #[.ref l, .int 0 0] }).push
      { cls := .type "enumerate", data := .fields #[.none, .bool false, .ref s.heap.objs.size, rawInt 0, .none, .none] }) (s.heap.objs.size + 1) s.heap.objs.size 0 .none := by
    have q := Heap.get?_push_size (s.heap.push { cls := .type "tuple_iterator", data := .fields #[.ref l, .int 0 0] })
      (o := { cls := .type "enumerate", data := .fields #[.none, .bool false, .ref s.heap.objs.size, rawInt 0, .none, .none] }) rfl
    rw [hz] at q; exact q
  exact ⟨⟨_, he, rfl⟩, h _ he ⟨_, Heap.get?_push_of_some _ (Heap.get?_push_size _ rfl), rfl, rfl⟩ (by rw [Heap.size_push, hz]) fun b o x => Heap.get?_push_of_some _ (Heap.get?_push_of_some _ x)⟩
end
/-- the items of the tuple at a, each in a new pair -/
def Iet (K : PySem.W.Frag) (a : Addr) (n : Nat) : It :=
  ⟨fun i H => i < n ∧ ∃ (xs : List V) (x : V), SqT K H a xs ∧ xs[i]? = some x, fun i H v H' => ∃ T x, v = .ref T ∧ H T = none ∧ H' = upd H T (.tup [.int (i : Nat), x]) ∧ ∀ xs, SqT K H a xs → xs[i]? = some x, fun i H => n ≤ i ∧ ∃ xs : List V, SqT K H a xs ∧ xs.length = n⟩
theorem turn_iet {P : Program} {w : World} {K : PySem.W.Frag} {elts : List Expr} {kk : Nat} {tpos : Pos} (a e it : Addr) (n : Nat) :
    Turn P w K (.Tuple elts kk tpos) (Iet K a n) [e, it] e (fun i h => i ≤ n ∧ (∃ old, IsEnum h e it ((i : Nat) : Int) old) ∧ h.IsTupleIter it a i ∧ e ≠ it ∧ a ≠ it ∧ a ≠ e) where
  mem := by simp
  obj := fun i h st b hb => by
    obtain ⟨_, ⟨old, he⟩, ⟨o, ho, hc, hd⟩, _⟩ := st
    have e' : b = e ∨ b = it := by simpa using hb
    rcases e' with z | z
    · rw [z]; exact ⟨_, he, fun v q => nomatch q⟩
    · rw [z]; exact ⟨o, ho, fun v q => by rw [hd] at q; cases q⟩
  keep := fun i h h' st k => let ⟨hn, ⟨old, he⟩, hi, hne⟩ := st; ⟨hn, ⟨old, k e (by simp) _ he⟩, hi.at fun o q => k it (by simp) o q, hne⟩
  item := by
    intro X hP hw hK hc i pins s σ H E I hf st hg
    subst hP hw hK
    obtain ⟨_, ⟨old, he⟩, hit, hne, ha1, ha2⟩ := st
    obtain ⟨hin, xs, x, hq, hx⟩ := hg
    obtain ⟨its, rv, p, hz⟩ := I.tuple hq
    obtain ⟨u, hu, ru⟩ := rv.get hx
    have hel : e < s.heap.objs.size := Heap.lt_size he
    have hil : it < s.heap.objs.size := by obtain ⟨_, q, _⟩ := hit; exact Heap.lt_size q
    have hlt : i < its.toArray.size := by
      rw [List.size_toArray]; exact (List.getElem?_eq_some_iff.mp hu).1
    refine wpAny_pyNext_enum_itemD (Draws.tuple (A := X.A.in1) (I.ok.hd hc) it a ha1 its.toArray) he ⟨hit, show s.heap.IsTuple a its.toArray from p⟩ hlt hne (by simp; exact ⟨hne, fun z => ha2 z.symm⟩) fun x' h' tk hpx ho hst hT hsz hk => ?_
    have hxu : x' = u := by
      have : its[i]? = some x' := by simpa using hpx
      rw [hu] at this; exact (Option.some.inj this).symm
    subst hxu
    refine ⟨_, rfl, wpAny_letOwnedTupleGo_enum (s := { s with heap := h', toks := tk + 1 }) ho fun h'' he' sb => ?_⟩
    have hT2 : h''.get? s.heap.objs.size = some { cls := .type "tuple", data := .seq #[.int i tk, x'] } := (sb.2 _ (Nat.ne_of_gt hel)).trans hT
    have new : ObjOk X.prog X.w (upd H s.heap.objs.size (.tup [.int (i : Nat), x])) h'' s.heap.objs.size (.tup [.int (i : Nat), x]) :=
      ⟨by show 2 ≤ sizeLine; decide, [.int i tk, x'], .cons ⟨_, rfl⟩ (.cons ru .nil), ⟨_, hT2, rfl, _, rfl⟩⟩
    have I1 : Inv X pins σ (upd H s.heap.objs.size (.tup [.int (i : Nat), x])) { s with heap := h'', toks := tk + 1 } :=
      I.turnedNew (ch := [e, it]) (fun b ob hb q => (sb.2 b (fun z => hb (by simp [z]))).trans (hk b ob (fun z => hb (by simp [z])) (fun z => hb (by simp [z])) q)) hf (Nat.le_refl _) new
    refine ⟨.ref s.heap.objs.size, _, I1, rfl, ⟨_, x, rfl, I.hok.fresh (Nat.le_refl _), rfl, fun ys hy => by rw [I.tuple_inj hy hq]; exact hx⟩, ⟨hin, ⟨x', ?_⟩, hst.1.at fun o q => (sb.2 it (Ne.symm hne)).trans q, hne, ha1, ha2⟩, fun b hb => ?_⟩
    · have e1 : ((i + 1 : Nat) : Int) = (i : Int) + 1 := by omega
      rw [e1]; exact he'
    · have hb' : b < s.heap.objs.size := by
        have e' : b = e ∨ b = it := by simpa using hb
        rcases e' with z | z
        · rw [z]; exact hel
        · rw [z]; exact hil
      rw [upd_ne (Nat.ne_of_lt hb')]
      exact (hf b hb).1
  done := by
    intro X hP hw hK hc i pins s σ H E I hf st hg
    subst hP hw hK
    obtain ⟨hin, ⟨old, he⟩, hit, hne, ha1, ha2⟩ := st
    obtain ⟨hni, xs, hq, hx⟩ := hg
    obtain ⟨its, rv, p, hz⟩ := I.tuple hq
    obtain ⟨f0, f1, f2, f3, f4, f5⟩ := hf it (by simp)
    have hl := rv.length
    have hi : i = its.toArray.size := by rw [List.size_toArray]; omega
    subst hi
    exact wpAny_pyNext_enum_endD (Draws.tuple (A := X.A.in1) (I.ok.hd hc) it a ha1 its.toArray) he ⟨hit, show s.heap.IsTuple a its.toArray from p⟩ fun h' eb => ⟨rfl, I.turned (t' := s.toks) (fun b o hb q => eb b o hb q) f0 f1 f3 f4 f5⟩
  self := fun A i s Q E st h => let ⟨_, ⟨_, he⟩, _⟩ := st; wpAny_pyIter_enum he h
def iEnumT (K : PySem.W.Frag) (ta : TA) : TI := fun σ H R => ta σ H fun vs H1 => ∃ a xs, vs = [.ref a] ∧ SqT K H1 a xs ∧ R (Iet K a xs.length) H1
theorem pi_enumT {X : Cx} {e : Expr} {ta : TA} {p pos tpos : Pos} {elts : List Expr} {kk : Nat} (hg : Gl X "enumerate") (hm : X.mg "enumerate" = none) (ha : PA X [e] ta) (hs : starEach [e] X.env = [(false, eval e X.env)]) :
    PI X (.Tuple elts kk tpos) (.Call (.Name "enumerate" p) [e] [] pos) (iEnumT X.K ta) := by
  refine ⟨fun pins s σ H R I h => ?_⟩
  refine Call_ (ld_blt I hg hm boot_enumerate (PyProof.Rows.callWith_type1 (thn (ha.run pos pins s σ H _ I h) fun us s1 ⟨vs, H1, I1, r1, q1⟩ => ?_) hs rfl))
  obtain ⟨a, xs, ex, hq, q⟩ := q1
  subst ex
  cases r1 with
  | cons r rr =>
    cases rr
    cases r
    obtain ⟨its, rv, p', hz⟩ := I1.tuple hq
    have pt : s1.heap.IsTuple a its.toArray := p'
    have hal : a < s1.heap.objs.size := by obtain ⟨o, ho, _⟩ := pt; exact Heap.lt_size ho
    refine call_enum_tup pt fun h' he hit hsz hk => wpAny_pyIter_enum he ?_
    have I2 : Inv X pins σ H1 { s1 with heap := h' } := I1.kept (t' := s1.toks) hk
    refine ⟨s1.heap.objs.size + 1, [s1.heap.objs.size + 1, s1.heap.objs.size], _, _, H1, rfl, I2, turn_iet a (s1.heap.objs.size + 1) s1.heap.objs.size xs.length, ⟨Nat.zero_le _, ⟨.none, he⟩, hit, Nat.succ_ne_self _, Nat.ne_of_lt hal, Nat.ne_of_lt (Nat.lt_succ_of_lt hal)⟩, fun b hb => ?_, q⟩
    have e' : b = s1.heap.objs.size + 1 ∨ b = s1.heap.objs.size := by simpa using hb
    have hle : s1.heap.objs.size ≤ b := by
      rcases e' with z | z
      · rw [z]; exact Nat.le_add_right _ _
      · rw [z]; exact Nat.le_refl _
    exact I1.fpOk hle (I1.hok.fresh hle)
end Ip
/-! ## The text against the language; its meaning is the function's -/
namespace Ip
open PySem PySem.Spec PyProof.Rows L2

def Cst.v : Cst → V
  | .non => .non
  | .bl b => .bl b
  | .int i => .int i
  | .str x => .str x
structure Txt where
  F : List Fn
  T : Tab
  cn : List Str
  xn : List Str
  cl : List Cl
structure Sys extends Txt where
  M : Am
  fa : Nat → Addr
  fd : Nat → FuncData
def spI (Y : Sys) (K : PySem.W.Frag) (k i : Nat) : Sp := fun vs H Q E => ∃ G Φ μ S ds, Rel K Y.M G Φ μ S H ∧ RDs K Y.M G μ ds vs ∧ Res K Y.M (fun c d _ H => E c d H) [] G Φ μ (callK Y.F Y.T k i ds S) (rD K Y.M) Q
def bNames : List Str := ["len", "int", "str", "tuple", "sum", "all", "max", "min", "abs", "range", "isinstance", "bool", "enumerate", "list", "sorted", "set"]
structure Facts (Y : Sys) (P : Program) (w : World) (K : PySem.W.Frag) (mg : Str → Option Value) (base : Heap) (k : Nat) : Prop where
  fn : ∀ (i : Nat) (f : Fn), Y.F[i]? = some f → f.name ≠ ("" : Str) → mg f.name = some (.ref (Y.fa i)) ∧ PySem.W.keepIn K (.ref (Y.fa i)) = true ∧ Binds K (Y.fd i) f.ps []
  ok : ∀ (i : Nat) (f : Fn), Y.F[i]? = some f → FnOk P w K mg base (L2.CX P w) (2 * k) (Y.fa i) (Y.fd i) f.ps (spI Y K k i)
  cs : ∀ (i : Nat) (x : Str), Y.cn[i]? = some x → ∃ c : Cst, Y.T.consts[i]? = some c.d ∧ ∃ u, mg x = some u ∧ RelV c.v u
  xs : ∀ (i : Nat) (x : Str), Y.xn[i]? = some x → mg x = some (.ref (Y.M.exc i)) ∧ PySem.W.keepIn K (.ref (Y.M.exc i)) = true ∧ PySem.W.excIn K (Y.M.exc i) [.type "ValueError", .type "Exception", .type "BaseException", .type "object"] "ValueError.__new__" = true ∧
    PySem.W.subIn K (.ref (Y.M.exc i)) (.type "BaseException") = some true ∧ PySem.W.typeIn K (.ref (Y.M.exc i)) = some (.type "type")
  free : ∀ x ∈ bNames, mg x = none
  bd : ∀ (i : Nat) (f : Fn), Y.F[i]? = some f → Binds K (Y.fd i) f.ps []
  cl : ∀ (c : Nat) (q : Cl), Y.cl[c]? = some q → Cls K (Y.M.cls c) ∧ mg q.name = some (.ref (Y.M.cls c)) ∧ Mk K (Y.M.cls c) (Y.fa q.ini) ∧ (∀ f ∈ q.fs, NoAttr K (Y.M.cls c) f) ∧ ∀ m i, (m, i) ∈ q.ms → Meth K (Y.M.cls c) m (Y.fa i)
  fnm : ∀ i, Y.M.fn i = Y.fa i
  xm : ∀ (i j : Nat) (b : Bool), Y.T.sub i j = some b → PySem.W.exmOne K (.ref (Y.M.exc i)) (.ref (Y.M.exc j)) = some b ∧ PySem.W.kitOne K (.ref (Y.M.exc i)) (.ref (Y.M.exc j)) = some b ∧ ExcC K (Y.M.exc i)
structure XOk (Y : Sys) (k : Nat) (X : Cx) (W : WX) : Prop where
  calm : X.calm = true
  kind : X.env.scope.kind = .function
  nd : X.N.Nodup
  room : Room (2 * k + 1) X.A
  tk : Takes X W
  po : PassesOwn (model X.prog X.w) X.A X.env X.xe
  facts : Facts Y X.prog X.w X.K X.mg X.base k

/-! ### the checker -/
def meB : ME → Bool
  | .append => true
  | .startswith => true
  | .pop => true
  | .extend => true
  | .find => true
  | .join => true
  | .get => true
  | .index => true
  | .count => true
  | .dpop => true
  | .reverse => true
def glB (sc : Scope) (x : Str) : Bool := sc.names.lookup x == some .globalImplicit
def visB (sc : Scope) (x : Str) : Bool := match sc.names.lookup x with
  | some .local => true
  | some .cell => true
  | some .free => true
  | _ => false
def locB (sc : Scope) (x : Str) : Bool := match sc.names.lookup x with
  | some .local => true
  | some .cell => true
  | _ => false
def plainIxB : Expr → Bool
  | .Slice .. => false
  | _ => true
def noStar : Expr → Bool
  | .Starred .. => false
  | _ => true
def baseB : Expr → Bool
  | .Call .. => false
  | _ => true
def cstB : Cst → Const → Bool
  | .non, .none => true
  | .bl a, .bool b => a == b
  | .int a, .int b => a == b
  | .str a, .str b => a == b
  | _, _ => false
def Cst.key : Cst → Option Key
  | .int i => some (.inl i)
  | .str x => some (.inr x)
  | _ => none
def dctB (t : Nat) (ks vs : List Cst) : Bool := (ks.length == vs.length) && ((ks.isEmpty && decide (t ≤ 1)) || ((t == 0) && (ks.all (fun k => k.key.isSome) && (decide ((ks.map Cst.key).Nodup) && decide (ks.length ≤ 15)))))
def okKs : List Cst → List (Option Expr) → Bool
  | [], [] => true
  | k :: ks, some (.Constant c _ _) :: es => cstB k c && okKs ks es
  | _, _ => false
def okVs : List Cst → List Expr → Bool
  | [], [] => true
  | k :: ks, .Constant c _ _ :: es => cstB k c && okVs ks es
  | _, _ => false
def isTupE : Expr → Bool
  | .Tuple .. => true
  | _ => false
def nameIs (sc : Scope) (x : Str) : Expr → Bool
  | .Name y _ => y == x && glB sc x && !(x == ("__debug__" : Str))
  | _ => false
def notSet : Expr → Bool
  | .Set .. => false
  | _ => true
mutual
def Tg.slots : Tg → List Nat
  | .n i => [i]
  | .t ts => ts.slots
def Tgs.slots : Tgs → List Nat
  | .nil => []
  | .cons t r => t.slots ++ r.slots
end
def nmOk (x : Str) : Bool := !(x == ("__debug__" : Str)) && !(x == ("__classdict__" : Str))
mutual
def okT (N : List Str) (cb : Str → Bool) : Tg → Scope → Expr → Bool
  | .n i, sc, e => match e with
    | .Name x _ => decide (N[i]? = some x) && (decide (sc.names.lookup x = some .local) || (decide (sc.names.lookup x = some .cell) && cb x))
    | _ => false
  | .t ts, sc, e => match e with
    | .Tuple es _ _ => okTs N cb ts sc es
    | _ => false
def okTs (N : List Str) (cb : Str → Bool) : Tgs → Scope → List Expr → Bool
  | .nil, _, es => es.isEmpty
  | .cons t r, sc, es => match es with
    | e :: es => noStar e && okT N cb t sc e && okTs N cb r sc es
    | [] => false
end
/-- has the class the attribute, the method, this __init__? -/
def attB (Y : Txt) (c : Nat) (f : Str) : Bool := match Y.cl[c]? with
  | some q => q.fs.contains f
  | none => false
def mclB (Y : Txt) (c f : Nat) (m : Str) : Bool := match Y.cl[c]?, Y.F[f]? with
  | some q, some _ => q.ms.contains (m, f)
  | _, _ => false
def mkB (Y : Txt) (c f : Nat) (x : Str) : Bool := match Y.cl[c]?, Y.F[f]? with
  | some q, some _ => decide (q.name = x) && decide (q.ini = f)
  | _, _ => false
/-- a dict that is read without a step -/
def simpB : Ex → Bool
  | .v _ => true
  | .att _ (.v _) _ => true
  | _ => false
def isCall0 (m : Str) : Expr → Option Expr
  | .Call (.Attribute e x apos) [] [] cpos => if x = m ∧ baseB e = true ∧ (apos.endLine == cpos.line) = true then some e else none
  | _ => none
/-- what is walked, of the text -/
def okW (kd : DK) (tg it : Expr) : Option Expr := match kd with
  | .items => if isTupE tg then isCall0 "items" it else none
  | .vals => isCall0 "values" it
  | .keys => if notSet it then some it else none
mutual
def okE (Y : Txt) (N : List Str) : Ex → Scope → Expr → Bool
  | .c k, _, e => match e with
    | .Constant c _ _ => cstB k c
    | _ => false
  | .v i, sc, e => match e with
    | .Name x _ => decide (N[i]? = some x) && visB sc x && nmOk x
    | _ => false
  | .g n, sc, e => match e with
    | .Name x _ => decide (Y.cn[n]? = some x) && glB sc x && nmOk x
    | _ => false
  | .bin o _ a b, sc, e => match e with
    | .BinOp l op r _ => decide (op = o.op) && okE Y N a sc l && okE Y N b sc r
    | _ => false
  | .neg a, sc, e => match e with
    | .UnaryOp .USub l _ => okE Y N a sc l
    | _ => false
  | .cmp o a b, sc, e => match e with
    | .Compare l [op] [r] _ => decide (op = o.op) && okE Y N a sc l && okE Y N b sc r && notSet r
    | _ => false
  | .not a, sc, e => match e with
    | .UnaryOp .Not l _ => okE Y N a sc l
    | _ => false
  | .and a b, sc, e => match e with
    | .BoolOp .And [x, y] _ => okE Y N a sc x && okE Y N b sc y
    | .BoolOp .And (x :: y :: z :: r) pos => okE Y N a sc x && okE Y N b sc (.BoolOp .And (y :: z :: r) pos)
    | _ => false
  | .or a b, sc, e => match e with
    | .BoolOp .Or [x, y] _ => okE Y N a sc x && okE Y N b sc y
    | .BoolOp .Or (x :: y :: z :: r) pos => okE Y N a sc x && okE Y N b sc (.BoolOp .Or (y :: z :: r) pos)
    | _ => false
  | .ite t a b, sc, e => match e with
    | .IfExp c l r _ => okE Y N t sc c && okE Y N a sc l && okE Y N b sc r
    | _ => false
  | .tup es, sc, e => match e with
    | .Tuple xs _ _ => okEs Y N es sc xs
    | _ => false
  | .lst _ es, sc, e => match e with
    | .List xs _ => okEs Y N es sc xs
    | _ => false
  | .dct _ t ks vs, _, e => match e with
    | .Dict keys values _ => dctB t ks vs && (okKs ks keys && okVs vs values)
    | _ => false
  | .ix a i, sc, e => match e with
    | .Subscript l r _ => okE Y N a sc l && okE Y N i sc r && plainIxB r
    | _ => false
  | .sl _ a lo hi, sc, e => match e with
    | .Subscript l (.Slice x y none _) _ => okE Y N a sc l && okP Y N lo sc x && okP Y N hi sc y
    | _ => false
  | .call f _ es, sc, e => match e with
    | .Call (.Name x _) (y :: ys) [] _ => (match Y.F[f]? with
      | some fn => decide (fn.name = x) && !(x == ("" : Str))
      | none => false) && glB sc x && nmOk x && okEs Y N es sc (y :: ys)
    | _ => false
  | .bi b es, sc, e => match e with
    | .Call (.Name x _) (y :: ys) [] _ => decide (x = b.x) && glB sc x && okEs Y N es sc (y :: ys)
    | _ => false
  | .bf b _ es, sc, e => match e with
    | .Call (.Name x _) (y :: ys) [] _ => decide (x = b.x) && glB sc x && okEs Y N es sc (y :: ys)
    | _ => false
  | .me b o es, sc, e => match e with
    | .Call (.Attribute l x apos) (y :: ys) [] cpos => meB b && decide (x = b.x) && baseB l && (apos.endLine == cpos.line) && decide (ys.length < 29) && okE Y N o sc l && okEs Y N es sc (y :: ys)
    | .Call (.Attribute l x apos) [] [] cpos => meB b && decide (x = b.x) && baseB l && (apos.endLine == cpos.line) && okE Y N o sc l && okEs Y N es sc []
    | _ => false
  | .mf b _ o es, sc, e => match e with
    | .Call (.Attribute l x apos) (y :: ys) [] cpos => decide (x = b.x) && baseB l && (apos.endLine == cpos.line) && decide (ys.length < 29) && okE Y N o sc l && okEs Y N es sc (y :: ys)
    | _ => false
  | .lens a, sc, e => match e with
    | .Call (.Name x _) [.Call (.Name y _) [l] [] _] [] _ => decide (x = "len") && glB sc x && decide (y = "set") && glB sc y && noStar l && okE Y N a sc l
    | _ => false
  | .isi a t, sc, e => match e with
    | .Call (.Name x _) [l, .Name y _] [] _ => decide (x = "isinstance") && glB sc x && decide (y = PySem.Str.ofString t.n) && glB sc y && noStar l && okE Y N a sc l
    | _ => false
  | .att c o f, sc, e => match e with
    | .Attribute l x _ => decide (x = f) && baseB l && attB Y c f && okE Y N o sc l
    | _ => false
  | .mcl c f m _ o es, sc, e => match e with
    | .Call (.Attribute l x apos) ys [] cpos => decide (x = m) && baseB l && (apos.endLine == cpos.line) && decide (ys.length < 29) && mclB Y c f m && okE Y N o sc l && okEs Y N es sc ys
    | _ => false
  | .mk c f _ es, sc, e => match e with
    | .Call (.Name x _) (y :: ys) [] _ => mkB Y c f x && glB sc x && nmOk x && okEs Y N es sc (y :: ys)
    | _ => false
  | .fze x, sc, e => okE Y N x sc e
  | .fnv f, sc, e => match e with
    | .Name x _ => (match Y.F[f]? with
      | some fn => decide (fn.name = x) && !(x == ("" : Str))
      | none => false) && glB sc x && nmOk x
    | _ => false
  | .callv i _ fs es, sc, e => match e with
    | .Call (.Name x _) (y :: ys) [] _ => decide (N[i]? = some x) && visB sc x && nmOk x && (fs.all fun f => match Y.F[f]? with
      | some fn => !(fn.name == ("" : Str))
      | none => false) && okEs Y N es sc (y :: ys)
    | _ => false
  | .lcD _ own kd tg d cond x, sc, e => match e with
    | .ListComp elt [⟨t, iter, ifs, 0⟩] scope _ => blkC N sc scope own && notSet iter && (simpB d && match okW kd t iter with
        | some l => okE Y N d sc l
        | none => false) && okT N (fun x => scope.names.lookup x == some .cell) tg (relS scope sc) t && (tg.slots.all fun i => (own.map (·.2)).contains i) &&
        okC Y N cond (relS scope sc) ifs && okE Y N x (relS scope sc) elt
    | _ => false
  | .rev m x, sc, e => match e with
    | .Subscript l (.Slice none none (some (.UnaryOp .USub (.Constant (.int 1) _ _) _)) _) _ => okE Y N x sc l
    | _ => false
  | .lc _ own tg it cond x, sc, e => match e with
    | .ListComp elt [⟨t, iter, ifs, 0⟩] scope _ => blkC N sc scope own && notSet iter && okI Y N it sc iter t && okT N (fun x => scope.names.lookup x == some .cell) tg (relS scope sc) t && (tg.slots.all fun i => (own.map (·.2)).contains i) &&
        okC Y N cond (relS scope sc) ifs && okE Y N x (relS scope sc) elt
    | _ => false
  | .lc2 _ own tg it cond vs tg1 it1 cond1 x, sc, e => match e with
    | .ListComp elt [⟨t, iter, ifs, 0⟩, ⟨t1, iter1, ifs1, 0⟩] scope _ => blkC N sc scope own && notSet iter && okI Y N it sc iter t && okT N (fun x => scope.names.lookup x == some .cell) tg (relS scope sc) t && (tg.slots.all fun i => (own.map (·.2)).contains i) &&
        okC Y N cond (relS scope sc) ifs && (notSet iter1 && okI Y N it1 (relS scope sc) iter1 t1 && okT N (fun x => scope.names.lookup x == some .cell) tg1 (relS scope sc) t1 && (tg1.slots.all fun i => vs.contains i) && (vs.all fun i => (own.map (·.2)).contains i) &&
        okC Y N cond1 (relS scope sc) ifs1 && okE Y N x (relS scope sc) elt)
    | _ => false
def okEs (Y : Txt) (N : List Str) : Exs → Scope → List Expr → Bool
  | .nil, _, es => es.isEmpty
  | .cons x r, sc, es => match es with
    | e :: es => noStar e && okE Y N x sc e && okEs Y N r sc es
    | [] => false
def okP (Y : Txt) (N : List Str) : Oe → Scope → Option Expr → Bool
  | .no, _, e => e.isNone
  | .so x, sc, e => match e with
    | some e => okE Y N x sc e
    | none => false
def okC (Y : Txt) (N : List Str) : Oe → Scope → List Expr → Bool
  | .no, _, e => e.isEmpty
  | .so x, sc, e => match e with
    | [e] => okE Y N x sc e
    | _ => false
-- the iterable, and the target
def okI (Y : Txt) (N : List Str) : Itr → Scope → Expr → Expr → Bool
  | .of x, sc, e, _ => okE Y N x sc e
  | .rng1 a, sc, e, _ => match e with
    | .Call (.Name x _) [l] [] _ => decide (x = "range") && glB sc x && noStar l && okE Y N a sc l
    | _ => false
  | .rng2 a b, sc, e, _ => match e with
    | .Call (.Name x _) [l, r] [] _ => decide (x = "range") && glB sc x && noStar l && noStar r && okE Y N a sc l && okE Y N b sc r
    | _ => false
  | .enum a, sc, e, tg => match e with
    | .Call (.Name x _) [l] [] _ => decide (x = "enumerate") && glB sc x && noStar l && isTupE tg && okE Y N a sc l
    | _ => false
end
/-! ### small facts of syntax -/
theorem starEach_no {e : Expr} (h : noStar e = true) (es : List Expr) (env : Env) : starEach (e :: es) env = (false, eval e env) :: starEach es env := by
  cases e <;> first | rfl | cases h
theorem attributeBase_no {e : Expr} (h : baseB e = true) (f : Str) (env : Env) (w : Sem Value) : attributeBase e f env w = w := by
  cases e <;> first | rfl | cases h
theorem plainIx_no {e : Expr} (h : plainIxB e = true) : ∀ o i, subscripted e false o i = operate [o, i] (getItem o i) := by
  intro o i
  cases e <;> first | rfl | cases h
theorem marks_no {e : Expr} (h : notSet e = true) (op : CmpOp) : behindInMarks op e = false := by
  cases e <;> first | rfl | cases h
theorem folded_no {e : Expr} (h : notSet e = true) (env : Env) (x : Value) : foldedSetIterable e env x = pure x := by
  cases e <;> first | rfl | cases h
theorem glB_ok {X : Cx} {x : Str} (h : glB X.env.scope x = true) : Gl X x := beq_iff_eq.mp h
theorem visB_ok {sc : Scope} {x : Str} (h : visB sc x = true) : Vis sc x := by
  unfold visB at h
  split at h
  · rename_i e; exact .inl e
  · rename_i e; exact .inr (.inl e)
  · rename_i e; exact .inr (.inr e)
  · cases h
theorem nmOk_1 {x : Str} (h : nmOk x = true) : (x == ("__debug__" : Str)) = false := by
  unfold nmOk at h
  rw [Bool.and_eq_true] at h
  simpa using h.1
theorem nmOk_2 {x : Str} (h : nmOk x = true) : (x == ("__classdict__" : Str)) = false := by
  unfold nmOk at h
  rw [Bool.and_eq_true] at h
  simpa using h.2
def allNo : List Expr → Bool
  | [] => true
  | e :: es => noStar e && allNo es
theorem backTo_no : ∀ (es : List Expr) (env : Env) (pos : Pos), allNo es = true → (backTo pos (starEach es env)).any (·.1) = false
  | [], _, _, _ => rfl
  | e :: es, env, pos, h => by
    unfold allNo at h
    rw [Bool.and_eq_true] at h
    rw [starEach_no h.1]
    show (false || (backTo pos (starEach es env)).any (·.1)) = false
    rw [backTo_no es env pos h.2]
    rfl
theorem backTo_all : ∀ (es : List Expr) (env : Env) (pos : Pos), allNo es = true → (backTo pos (starEach es env)).all (fun x => !x.1) = true
  | [], _, _, _ => rfl
  | e :: es, env, pos, h => by
    unfold allNo at h
    rw [Bool.and_eq_true] at h
    rw [starEach_no h.1]
    show ((!false) && (backTo pos (starEach es env)).all (fun x => !x.1)) = true
    rw [backTo_all es env pos h.2]
    rfl
theorem okEs_no {Y : Txt} {N : List Str} {sc : Scope} : ∀ (xs : Exs) (es : List Expr), okEs Y N xs sc es = true → allNo es = true
  | .nil, es, h => by
    cases es with
    | nil => rfl
    | cons _ _ => simp [okEs] at h
  | .cons x r, es, h => by
    cases es with
    | nil => simp [okEs] at h
    | cons e es =>
      simp only [okEs, Bool.and_eq_true] at h
      unfold allNo
      rw [h.1.1, okEs_no r es h.2]
      rfl
theorem _root_.L2.PW.of_pt {X : Cx} {op : BoolOp} {es : List Expr} {pos : Pos} {t : TT} (h : PT X (.BoolOp op es pos) t) : PW X (.BoolOp op es pos) t := by
  refine ⟨fun whole pins s σ H Q I q => ?_⟩
  have := h.run pins s σ H Q I q
  rw [PySem.isTrue] at this ⊢
  exact this
theorem _root_.L2.PE.imp {X : Cx} {e : Expr} {t t' : TE} (h : PE X e t) (f : ∀ σ H Q, t' σ H Q → t σ H Q) : PE X e t' := ⟨fun pins s σ H Q I q => h.run pins s σ H Q I (f σ H Q q)⟩
theorem _root_.L2.PT.imp {X : Cx} {e : Expr} {t t' : TT} (h : PT X e t) (f : ∀ σ H Q, t' σ H Q → t σ H Q) : PT X e t' := ⟨fun pins s σ H Q I q => h.run pins s σ H Q I (f σ H Q q)⟩
theorem _root_.L2.PA.imp {X : Cx} {e : List Expr} {t t' : TA} (h : PA X e t) (f : ∀ σ H Q, t' σ H Q → t σ H Q) : PA X e t' := ⟨fun pos pins s σ H Q I q => h.run pos pins s σ H Q I (f σ H Q q)⟩
theorem _root_.L2.PI.imp {X : Cx} {tg e : Expr} {t t' : TI} (h : PI X tg e t) (f : ∀ σ H R, t' σ H R → t σ H R) : PI X tg e t' := ⟨fun pins s σ H R I q => h.run pins s σ H R I (f σ H R q)⟩
theorem _root_.L2.PI.or {X : Cx} {tg e : Expr} {t t' : TI} (h : PI X tg e t) (h' : PI X tg e t') : PI X tg e (fun σ H R => t σ H R ∨ t' σ H R) :=
  ⟨fun pins s σ H R I q => q.elim (h.run pins s σ H R I) (h'.run pins s σ H R I)⟩

/-! ### readings by the function -/
def tG (K : PySem.W.Frag) (M : Am) (W : WX) {α β : Type} (R : Hp → Mu → α → β → Prop) (ev : En → Sto → Option (Ro α)) : L2.St → Hp → (β → Hp → Prop) → Prop := fun σ H Q =>
  ∃ G Φ μ S env, Rel K M G Φ μ S H ∧ EnR K M G μ env σ ∧ Res K M W σ G Φ μ (ev env S) R Q
section
variable {K : PySem.W.Frag} {M : Am} {W : WX} {σ : L2.St} {H : Hp}
/-- what comes first, and what is left -/
theorem tG_bind {α β γ δ : Type} {Ra : Hp → Mu → α → β → Prop} {Rc : Hp → Mu → γ → δ → Prop} {ev : En → Sto → Option (Ro α)} {f : En → α → Sto → Option (Ro γ)} {Q : δ → Hp → Prop}
    (h : tG K M W Rc (fun env S => bnd (ev env S) (f env)) σ H Q) :
    tG K M W Ra ev σ H fun b H1 => ∃ G Φ μ S env a, Rel K M G Φ μ S H1 ∧ EnR K M G μ env σ ∧ Ra G μ a b ∧ Res K M W σ G Φ μ (f env a S) Rc Q := by
  obtain ⟨G, Φ, μ, S, env, r, er, res⟩ := h
  refine ⟨G, Φ, μ, S, env, r, er, res.bind.imp ?_⟩
  rintro b H1 ⟨G1, μ1, S1, a, gr, r1, ra, res1⟩
  exact ⟨G1, Φ, μ1, S1, env, a, r1, er.grow gr, ra, res1⟩
/-- the second part, the first one's value known -/
theorem tG_go {α γ β δ : Type} {G Φ : Hp} {μ : Mu} {S : Sto} {env : En} {Ra : Hp → Mu → α → β → Prop} {Rc : Hp → Mu → γ → δ → Prop} {ev : En → Sto → Option (Ro α)} {f : α → Sto → Option (Ro γ)} {Q : δ → Hp → Prop}
    (r : Rel K M G Φ μ S H) (er : EnR K M G μ env σ) (res : Res K M W σ G Φ μ (bnd (ev env S) f) Rc Q) : tG K M W Ra ev σ H (Mid K M W σ G Φ μ f Ra Rc Q) :=
  ⟨G, Φ, μ, S, env, r, er, res.bind⟩
end
abbrev tX (K : PySem.W.Frag) (M : Am) (W : WX) (ev : En → Sto → Option (Ro D)) : TE := tG K M W (rD K M) ev
abbrev tXs (K : PySem.W.Frag) (M : Am) (W : WX) (ev : En → Sto → Option (Ro (List D))) : TA := tG K M W (rDs K M) ev
abbrev tXt (K : PySem.W.Frag) (M : Am) (W : WX) (ev : En → Sto → Option (Ro Bool)) : TT := tG K M W rB ev
abbrev rO : Hp → Mu → Option Int → Option Int → Prop := fun _ _ a b => a = b
/-- J walks just these items -/
def Walks (K : PySem.W.Frag) (M : Am) (J : It) (G : Hp) (μ : Mu) (xs : List D) : Prop :=
  ∀ G1 Φ1 μ1 S1 H1, (∀ a u, G a = some u → G1 a = some u) → (∀ n a, μ n = some a → μ1 n = some a) → Rel K M G1 Φ1 μ1 S1 H1 → ∀ i,
    (i < xs.length → J.go i H1) ∧ (xs.length ≤ i → J.stop i H1) ∧ ∀ d v H2, xs[i]? = some d → J.yld i H1 v H2 → ∃ G2, Gr Φ1 G1 μ1 G2 μ1 ∧ Rel K M G2 Φ1 μ1 S1 H2 ∧ RD K M G2 μ1 d v
abbrev rW (K : PySem.W.Frag) (M : Am) : Hp → Mu → List D → It → Prop := fun G μ xs J => Walks K M J G μ xs
section
variable {K : PySem.W.Frag} {M : Am} {G Φ H : Hp} {μ : Mu} {S : Sto}
theorem walks_lst {a : Addr} {xs : List D} {ys : List V} (h : G a = some (.lst ys)) (q : RDs K M G μ xs ys) : Walks K M (Itl K a) G μ xs := by
  intro G1 Φ1 μ1 S1 H1 g m r i
  have h1 : H1 a = some (.lst ys) := (r.g _ _ (g _ _ h)).lst
  refine ⟨fun hi => ?_, fun hi => ⟨ys, SqL.of h1, by rw [← q.length]; exact hi⟩, fun d v H2 e hy => ?_⟩
  · obtain ⟨v, hv, _⟩ := q.get (List.getElem?_eq_getElem hi)
    exact ⟨ys, v, SqL.of h1, hv⟩
  · obtain ⟨rfl, hy⟩ := hy
    obtain ⟨v', hv, rv⟩ := q.get e
    rw [hy ys (SqL.of h1)] at hv
    cases hv
    exact ⟨G1, .refl, r, RD.grow g m _ _ rv⟩
theorem walks_tup {a : Addr} {xs : List D} {ys : List V} (h : G a = some (.tup ys)) (q : RDs K M G μ xs ys) : Walks K M (Itt K a) G μ xs := by
  intro G1 Φ1 μ1 S1 H1 g m r i
  have h1 : H1 a = some (.tup ys) := (r.g _ _ (g _ _ h)).tup
  refine ⟨fun hi => ?_, fun hi => ⟨ys, SqT.of h1, by rw [← q.length]; exact hi⟩, fun d v H2 e hy => ?_⟩
  · obtain ⟨v, hv, _⟩ := q.get (List.getElem?_eq_getElem hi)
    exact ⟨ys, v, SqT.of h1, hv⟩
  · obtain ⟨rfl, hy⟩ := hy
    obtain ⟨v', hv, rv⟩ := q.get e
    rw [hy ys (SqT.of h1)] at hv
    cases hv
    exact ⟨G1, .refl, r, RD.grow g m _ _ rv⟩
theorem walks_ent {a : Addr} {xs : List D} {ys : List V} (h : G a = some (.tup ys)) (q : RDs K M G μ xs ys) : Walks K M (Iet K a ys.length) G μ (enF 0 xs) := by
  intro G1 Φ1 μ1 S1 H1 g m r i
  have h1 : H1 a = some (.tup ys) := (r.g _ _ (g _ _ h)).tup
  rw [enF_len]
  refine ⟨fun hi => ?_, fun hi => ⟨by rw [← q.length]; exact hi, ys, SqT.of h1, rfl⟩, fun d v H2 e hy => ?_⟩
  · obtain ⟨v, hv, _⟩ := q.get (List.getElem?_eq_getElem hi)
    exact ⟨by rw [← q.length]; exact hi, ys, v, SqT.of h1, hv⟩
  · obtain ⟨T, x, rfl, hT, rfl, hy⟩ := hy
    rw [enF_get] at e
    cases hx : xs[i]? with
    | none => rw [hx] at e; cases e
    | some d' =>
      rw [hx] at e; cases e
      obtain ⟨v', hv, rv⟩ := q.get hx
      rw [hy ys (SqT.of h1)] at hv
      obtain rfl : x = v' := Option.some.inj hv
      obtain ⟨r', g'⟩ := r.still (u := .tup [.int (i : Nat), x]) hT
      refine ⟨_, g', r', .tup upd_same (.cons ?_ (.cons (RD.grow g'.g g'.m _ _ (RD.grow g m _ _ rv)) .nil))⟩
      rw [Nat.zero_add]
      exact .int _
theorem walks_enl {a : Addr} {xs : List D} {ys : List V} (h : G a = some (.lst ys)) (q : RDs K M G μ xs ys) : Walks K M (Ite K a) G μ (enF 0 xs) := by
  intro G1 Φ1 μ1 S1 H1 g m r i
  have h1 : H1 a = some (.lst ys) := (r.g _ _ (g _ _ h)).lst
  rw [enF_len]
  refine ⟨fun hi => ?_, fun hi => ⟨ys, SqL.of h1, by rw [← q.length]; exact hi⟩, fun d v H2 e hy => ?_⟩
  · obtain ⟨v, hv, _⟩ := q.get (List.getElem?_eq_getElem hi)
    exact ⟨ys, v, SqL.of h1, hv⟩
  · obtain ⟨T, x, rfl, hT, rfl, hy⟩ := hy
    rw [enF_get] at e
    cases hx : xs[i]? with
    | none => rw [hx] at e; cases e
    | some d' =>
      rw [hx] at e; cases e
      obtain ⟨v', hv, rv⟩ := q.get hx
      rw [hy ys (SqL.of h1)] at hv
      obtain rfl : x = v' := Option.some.inj hv
      obtain ⟨r', g'⟩ := r.still (u := .tup [.int (i : Nat), x]) hT
      refine ⟨_, g', r', .tup upd_same (.cons ?_ (.cons (RD.grow g'.g g'.m _ _ (RD.grow g m _ _ rv)) .nil))⟩
      rw [Nat.zero_add]
      exact .int _
theorem walks_str (z : Str) : Walks K M (Its z) G μ (z.cps.toList.map fun c => .str ⟨#[c]⟩) := by
  intro G1 Φ1 μ1 S1 H1 g m r i
  have hl : (z.cps.toList.map fun c => D.str ⟨#[c]⟩).length = z.cps.size := by simp
  refine ⟨fun hi => by rw [hl] at hi; exact hi, fun hi => by rw [hl] at hi; exact hi, fun d v H2 e hy => ?_⟩
  obtain ⟨rfl, c, hc, rfl⟩ := hy
  rw [List.getElem?_map, Array.getElem?_toList, hc] at e
  cases e
  exact ⟨G1, .refl, r, .str _⟩
theorem walks_rng {i j : Int} {xs : List D} (h : rngD i j = some xs) : (-(2 ^ 62) ≤ i ∧ i < 2 ^ 62 ∧ -(2 ^ 62) ≤ j ∧ j < 2 ^ 62) ∧ Walks K M (L2.Itr i (j - i).toNat) G μ xs := by
  unfold rngD at h
  split at h
  · rename_i c
    cases h
    refine ⟨c, fun G1 Φ1 μ1 S1 H1 g m r n => ?_⟩
    have hl : ((List.range (j - i).toNat).map fun (k : Nat) => D.int (i + k)).length = (j - i).toNat := by simp
    refine ⟨fun hi => by rw [hl] at hi; exact hi, fun hi => by rw [hl] at hi; exact hi, fun d v H2 e hy => ?_⟩
    obtain ⟨rfl, rfl⟩ := hy
    have hn : n < (j - i).toNat := by
      have := (List.getElem?_eq_some_iff.mp e).1
      rw [hl] at this; exact this
    rw [List.getElem?_map, List.getElem?_range hn] at e
    cases e
    exact ⟨G1, .refl, r, .int _⟩
  · cases h
end
/-! ### targets -/
mutual
def gT (K : PySem.W.Frag) : Tg → TG
  | .n i => gName i
  | .t ts => gTup K ts.len (gTs K ts)
def gTs (K : PySem.W.Frag) : Tgs → TGs
  | .nil => gNil
  | .cons t r => gCons (gT K t) (gTs K r)
def Tgs.len : Tgs → Nat
  | .nil => 0
  | .cons _ r => r.len + 1
end
theorem assignEach_no {e : Expr} (h : noStar e = true) (es : List Expr) (env : Env) : assignEach (e :: es) env = (false, assign e env) :: assignEach es env := by
  cases e <;> first | rfl | cases h
theorem okTs_len {N : List Str} {cb : Str → Bool} {sc : Scope} {env : Env} : ∀ (ts : Tgs) (es : List Expr), okTs N cb ts sc es = true → (assignEach es env).length = ts.len ∧ (assignEach es env).findIdx? (·.1) = none
  | .nil, es, h => by
    cases es with
    | nil => exact ⟨rfl, rfl⟩
    | cons _ _ => simp [okTs] at h
  | .cons t r, es, h => by
    cases es with
    | nil => simp [okTs] at h
    | cons e es =>
      simp only [okTs, Bool.and_eq_true] at h
      rw [assignEach_no h.1.1]
      obtain ⟨h1, h2⟩ := okTs_len (env := env) r es h.2
      exact ⟨by rw [List.length_cons, h1, Tgs.len], by rw [List.findIdx?_cons, h2]; rfl⟩
mutual
theorem sndT {X : Cx} {cb : Str → Bool} (hcb : ∀ x, cb x = true → X.fn x = true) (hc : X.calm = true) (nd : X.N.Nodup) : ∀ (t : Tg) (e : Expr), okT X.N cb t X.env.scope e = true → PG X e (gT X.K t)
  | .n i, e, h => by
    cases e with
    | Name x pos =>
      simp only [okT, Bool.and_eq_true, decide_eq_true_eq, Bool.or_eq_true] at h
      rw [gT]
      rcases h.2 with h2 | h2
      · exact pg_name nd h.1 (.inl h2) (.inr h2)
      · exact pg_name nd h.1 (.inr h2.1) (.inl (hcb _ h2.2))
    | _ => simp [okT] at h
  | .t ts, e, h => by
    cases e with
    | Tuple es k pos =>
      simp only [okT] at h
      rw [gT]
      exact pg_tup hc (sndTs hcb hc nd ts _ h) (okTs_len ts _ h).1 (okTs_len ts _ h).2
    | _ => simp [okT] at h
theorem sndTs {X : Cx} {cb : Str → Bool} (hcb : ∀ x, cb x = true → X.fn x = true) (hc : X.calm = true) (nd : X.N.Nodup) : ∀ (ts : Tgs) (es : List Expr), okTs X.N cb ts X.env.scope es = true → PGs X es (gTs X.K ts)
  | .nil, es, h => by
    cases es with
    | nil => rw [gTs]; exact pgs_nil
    | cons _ _ => simp [okTs] at h
  | .cons t r, es, h => by
    cases es with
    | nil => simp [okTs] at h
    | cons e es =>
      simp only [okTs, Bool.and_eq_true] at h
      rw [gTs]
      exact pgs_cons (sndT hcb hc nd t e h.1.2) (sndTs hcb hc nd r es h.2) (by rw [assignEach_no h.1.1]; rfl)
end
section
variable {K : PySem.W.Frag} {M : Am} {G Φ H : Hp} {μ : Mu} {S : Sto}
mutual
theorem gT_ok (r : Rel K M G Φ μ S H) : ∀ (t : Tg) (d : D) (v : V) (env env' : En) (σ : L2.St) (Q : L2.St → Hp → Prop), RD K M G μ d v → EnR K M G μ env σ → asgT t d env = some env' →
    (∀ σ', EnR K M G μ env' σ' → σ'.length = σ.length → (∀ j, j ∉ t.slots → σ'[j]? = σ[j]?) → Q σ' H) → gT K t v σ H Q
  | .n i, d, v, env, env', σ, Q, q, er, e, h => by
    rw [asgT] at e
    cases e
    rw [gT]
    exact h _ (er.set q) (List.length_set ..) fun j hj => by
      rw [Tg.slots, List.mem_singleton] at hj
      exact List.getElem?_set_ne (fun z => hj z.symm)
  | .t ts, d, v, env, env', σ, Q, q, er, e, h => by
    cases d with
    | tup xs =>
      rw [asgT] at e
      cases q with
      | tup h1 q =>
        rw [gT]
        have hl := gTs_len ts xs env env' e
        refine ⟨_, _, rfl, SqT.of (r.g _ _ h1).tup, by rw [← q.length]; exact hl, gTs_ok r ts xs _ env env' σ Q q er e fun σ' e' l f => h σ' e' l fun j hj => f j (by rw [Tg.slots] at hj; exact hj)⟩
    | _ => rw [asgT] at e <;> first | cases e | (intro xs hx; cases hx)
theorem gTs_ok (r : Rel K M G Φ μ S H) : ∀ (ts : Tgs) (ds : List D) (vs : List V) (env env' : En) (σ : L2.St) (Q : L2.St → Hp → Prop), RDs K M G μ ds vs → EnR K M G μ env σ → asgTs ts ds env = some env' →
    (∀ σ', EnR K M G μ env' σ' → σ'.length = σ.length → (∀ j, j ∉ ts.slots → σ'[j]? = σ[j]?) → Q σ' H) → gTs K ts vs σ H Q
  | .nil, ds, vs, env, env', σ, Q, q, er, e, h => by
    cases q with
    | nil => rw [asgTs] at e; cases e; rw [gTs]; exact ⟨rfl, h σ er rfl fun _ _ => rfl⟩
    | cons _ _ => rw [asgTs] at e <;> first | cases e | simp
  | .cons t r', ds, vs, env, env', σ, Q, q, er, e, h => by
    cases q with
    | nil => rw [asgTs] at e <;> first | cases e | simp
    | cons q1 q2 =>
      rw [asgTs] at e
      rename_i d ds v vs
      cases h1 : asgT t d env with
      | none => rw [h1] at e; cases e
      | some env1 =>
        rw [h1] at e
        rw [gTs]
        refine ⟨_, _, rfl, gT_ok r t d v env env1 σ _ q1 er h1 fun σ1 e1 l1 f1 => gTs_ok r r' ds vs env1 env' σ1 Q q2 e1 e fun σ2 e2 l2 f2 => h σ2 e2 (l2.trans l1) fun j hj => ?_⟩
        rw [Tgs.slots, List.mem_append, not_or] at hj
        rw [f2 j hj.2, f1 j hj.1]
theorem gTs_len : ∀ (ts : Tgs) (ds : List D) (env env' : En), asgTs ts ds env = some env' → ds.length = ts.len
  | .nil, [], _, _, _ => by rw [Tgs.len]; rfl
  | .nil, _ :: _, _, _, e => by rw [asgTs] at e <;> first | cases e | simp
  | .cons t r, [], _, _, e => by rw [asgTs] at e <;> first | cases e | simp
  | .cons t r, d :: ds, env, env', e => by
    rw [asgTs] at e
    cases h1 : asgT t d env with
    | none => rw [h1] at e; cases e
    | some env1 =>
      rw [h1] at e
      rw [List.length_cons, Tgs.len, gTs_len r ds env1 env' e]
end
end
end Ip
/-! ## Objects: their attributes, methods, making -/
namespace Ip
open PySem PySem.Spec PyProof.Rows L2

section
variable {X : Cx} {CX : CXT} {k : Nat} {f C : Addr} {fd : FuncData} {ps : List Str} {sp : Sp} {E : L2.St → XK} {x m : Str} {p pos apos : Pos} {e o : Expr} {es : List Expr} {ta : TE} {t : TA}
/-- o.m(..); what is raised is wished for at the caller's slots -/
def tMethS (C : Addr) (m : Str) (sp : Sp) (E : L2.St → XK) (ta : TE) (t : TA) : TE := fun σ H Q => ta σ H fun x H1 => ∃ a dx fs, x = .ref a ∧ H1 a = some (.ins C dx fs) ∧ fs.lookup m = none ∧
  t σ H1 fun vs H2 => sp (x :: vs) H2 Q (E σ)
def tMakeS (C : Addr) (sp : Sp) (E : L2.St → XK) (t : TA) : TE := fun σ H Q => t σ H fun vs H1 => ∀ x dx, H1 x = none → H1 dx = none → dx ≠ x →
  sp (.ref x :: vs) (upd (upd H1 dx (.own x)) x (.ins C dx [])) (fun v H2 => v = .non ∧ Q (.ref x) H2) (E σ)
theorem meth_tree {env : Env} {args : List Expr} (h : baseB o = true) (hl : (apos.endLine == pos.line) = true) (hf : methodCallForm (args.length + ([] : List Keyword).length) (backTo pos (starEach args env)) (backToKw pos (keywordEach [] env)) = true) :
    ∃ pl : Sem Bool, eval (.Call (.Attribute o m apos) args [] pos) env = (do
      let ov ← eval o env
      standAt apos.atName
      let (f, first) ← holding [ov] (getMethod ov m pl)
      callWith pos f first (backTo pos (starEach args env)) (backToKw pos (keywordEach [] env))) := by
  refine ⟨do return (← importBound o env).getD true, ?_⟩
  show (do
    let ov ← attributeBase o m env (eval o env)
    standAt apos.atName
    methodCall o m apos pos env ov (args.length + ([] : List Keyword).length) (backTo pos (starEach args env)) (backToKw pos (keywordEach [] env))) = _
  rw [attributeBase_no h]
  unfold methodCall
  rw [hf]
  unfold calleeOf methodCallPos
  rw [hl]
  rfl
theorem pe_methW (he : PE X o ta) (hbase : baseB o = true) (c : Cls X.K C) (hm : Meth X.K C m f) (F : FnOk X.prog X.w X.K X.mg X.base CX k f fd ps sp) (hr : Room k X.A) (hb : Binds X.K fd ps []) (hx : ∀ σ, PassesAt CX X σ (E σ)) (ha : PA X es t)
    (hl : (apos.endLine == pos.line) = true) (hf : methodCallForm (es.length + ([] : List Keyword).length) (backTo pos (starEach es X.env)) (backToKw pos (keywordEach [] X.env)) = true)
    (hst : es = [] ∧ t = tNil ∨ ∃ e r, es = e :: r ∧ starEach (e :: r) X.env = (false, eval e X.env) :: starEach r X.env ∧ (backTo pos (starEach r X.env)).any (·.1) = false) :
    PE X (.Call (.Attribute o m apos) es [] pos) (tMethS C m sp E ta t) := by
  refine ⟨fun pins s σ H Q I h => ?_⟩
  obtain ⟨pl, ht⟩ := meth_tree (m := m) (apos := apos) (pos := pos) (env := X.env) (args := es) hbase hl hf
  refine PySem.W.methodCall_KW (pl := pl) (thn (he.run pins s σ H _ I h) fun u s1 ⟨x, H1, I1, rx, a, dx, fs, ex, ea, l, q⟩ => ?_) ht
  subst ex
  obtain rfl : u = Value.ref a := rx
  refine getmeth_ok I1 ea c hm l ?_
  rcases hst with ⟨rfl, rfl⟩ | ⟨e, r, rfl, hst, hpl⟩
  · exact PySem.W.callWith_K0 (first := [.ref a]) I1.kIn hm.kp (run_fnS (us := [.ref a]) (vs := [.ref a]) F hr hb (hx σ) I1 (.cons rfl .nil) q)
  · refine PySem.W.callWith_K (first := [.ref a]) (h₀ := X.base) I1.ok.mod.kin hm.kp (thn (ha.run pos pins s1 σ H1 _ I1 q) fun us s2 ⟨vs, H2, I2, r, q2⟩ => ⟨I2.kIn, ?_⟩) hst hpl
    exact run_fnS (us := .ref a :: us) (vs := .ref a :: vs) F hr hb (hx σ) I2 (.cons rfl r) q2
theorem run_makeS {pins : List (Addr × Obj)} {σ : L2.St} {H : Hp} {s : Shared} {Q : VK} {us : List Value} {vs : List V} (M : Mk X.K C f) (F : FnOk X.prog X.w X.K X.mg X.base CX k f fd ps sp) (hr : Room (k + 1) X.A) (hb : Binds X.K fd ps [])
    (hx : PassesAt CX X σ (E σ)) (I : Inv X pins σ H s) (r : Vals vs us)
    (h : ∀ x dx, H x = none → H dx = none → dx ≠ x → sp (.ref x :: vs) (upd (upd H dx (.own x)) x (.ins C dx [])) (fun v H2 => v = .non ∧ Q (.ref x) H2) (E σ)) :
    wpAny (model X.prog X.w) X.A (call (.ref C) us) (EP X pins σ Q) X.xe s := by
  have hq := h (s.heap.objs.size + 1) s.heap.objs.size (I.hok.fresh (Nat.le_succ _)) (I.hok.fresh (Nat.le_refl _)) (Nat.ne_of_lt (Nat.lt_succ_self _))
  have I2 := Inv.made (C := C) I
  have r2 : Vals (V.ref (s.heap.objs.size + 1) :: vs) (Value.ref (s.heap.objs.size + 1) :: us) := .cons rfl r
  have hl : (Value.ref (s.heap.objs.size + 1) :: us ++ []).length = ps.length := by
    have e := r2.length
    rw [F.len _ _ _ _ hq] at e
    rw [List.append_nil]
    exact e.symm
  have hbb := hb _ (Value.ref (s.heap.objs.size + 1) :: us) I2.kIn hl
  rw [List.append_nil] at hbb
  refine wpAny_call (make_map (f := f) I.kIn M.makes M.init (beq_iff_eq.mp M.fn) (codeAny_mono (F.run _ X.stack _ _ ⟨Value.ref (s.heap.objs.size + 1) :: us, []⟩ (Value.ref (s.heap.objs.size + 1) :: us) _ _ (E σ) (hr.make C us [])
    (I2.env0.make C us []) hbb r2 hq) fun r s' hq' => ?_))
  cases r with
  | error e => exact hx pins _ _ e s' I2 hq'
  | ok fl =>
    cases fl with
    | ret u =>
      obtain ⟨v, H', I3, rv, ev, q3⟩ := I2.after hq'
      subst ev
      exact ⟨rv, ⟨V.ref (s.heap.objs.size + 1), H', I3, rfl, q3⟩⟩
    | next => exact False.elim hq'
    | brk => exact False.elim hq'
    | cont => exact False.elim hq'
theorem pe_makeS (M : Mk X.K C f) (F : FnOk X.prog X.w X.K X.mg X.base CX k f fd ps sp) (hr : Room (k + 1) X.A) (hg : Gl X x) (hm : X.mg x = some (.ref C)) (hb : Binds X.K fd ps []) (hx : ∀ σ, PassesAt CX X σ (E σ))
    (ha : PA X (e :: es) t) (hdb : (x == ("__debug__" : Str)) = false) (he : starEach (e :: es) X.env = (false, eval e X.env) :: starEach es X.env) (hpl : (backTo pos (starEach es X.env)).any (·.1) = false) :
    PE X (.Call (.Name x p) (e :: es) [] pos) (tMakeS C sp E t) := by
  refine ⟨fun pins s σ H Q I h => ?_⟩
  refine wpAny_Call_Name_kw (ld_glob I hg hm ?_ hdb)
  refine PySem.W.callWith_K (h₀ := X.base) I.ok.mod.kin M.kp (thn (ha.run pos pins s σ H _ I h) fun us s1 ⟨vs, H1, I1, r, q⟩ => ⟨I1.kIn, ?_⟩) he hpl
  exact run_makeS M F hr hb (hx σ) I1 r q
end

section
variable {K : PySem.W.Frag} {M : Am} {G Φ : Hp} {μ : Mu} {S : Sto} {H : Hp}
/-- a thing of the store stands still from now on -/
theorem Rel.freeze {n : Nat} {a : Addr} {ob : Ob} {u : HO} (r : Rel K M G Φ μ S H) (hs : S[n]? = some ob) (hd : ob ≠ .dead) (hn : μ n = some a) (hu : H a = some u) (hlk : ∀ t ks vs, ob ≠ .lck t ks vs := by exact fun _ _ _ z => nomatch z) :
    Rel K M (upd G a u) Φ μ (S.set n .dead) H ∧ Gr Φ G μ (upd G a u) μ := by
  obtain ⟨hg, hf⟩ := r.gm n a ob hs hd hn
  have hf := hf hlk
  have hl : n < S.length := (List.getElem?_eq_some_iff.mp hs).1
  have gg : ∀ b w, G b = some w → upd G a u b = some w := fun b w e => by
    rw [upd_ne (fun z => by rw [z, hg] at e; cases e)]; exact e
  refine ⟨⟨fun b w e => ?_, r.f, fun m o e => ?_, fun m b o e hd' em => ?_, r.inj, fun m b e => ?_, r.th, fun n a em h => r.fm n a em (gnone_of gg h), r.ft, fun b o e hg' => by
    by_cases hb : b = a
    · subst hb; rw [hf] at e; cases e
    · rw [upd_ne hb] at hg'; exact r.fg b o e hg', fun m b e em => by
    by_cases hm : n = m
    · subst hm
      rw [hn] at em; cases em
      rw [upd_same]; exact fun z => nomatch z
    · rw [List.getElem?_set_ne hm] at e
      by_cases hb : b = a
      · subst hb; rw [upd_same]; exact fun z => nomatch z
      · rw [upd_ne hb]; exact r.dg m b e em⟩, gg, fun b h1 h2 => ?_, fun _ _ h => h⟩
  · by_cases hb : b = a
    · subst hb; rw [upd_same] at e; cases e; exact .inl hu
    · rw [upd_ne hb] at e; exact r.g b w e
  · by_cases hm : n = m
    · subst hm
      rw [List.getElem?_set_self hl] at e; cases e
      exact ⟨a, hn, trivial⟩
    · rw [List.getElem?_set_ne hm] at e
      obtain ⟨b, em, h⟩ := r.s m o e
      exact ⟨b, em, h.grow gg (fun _ _ h => h)⟩
  · by_cases hm : n = m
    · subst hm
      rw [List.getElem?_set_self hl] at e; cases e
      exact absurd rfl hd'
    · rw [List.getElem?_set_ne hm] at e
      obtain ⟨h1, h2⟩ := r.gm m b o e hd' em
      have hb : b ≠ a := fun z => hm (r.inj n m a hn (by rw [em, z]))
      exact ⟨by rw [upd_ne hb]; exact h1, h2⟩
  · rw [List.length_set]; exact r.ub m b e
  · by_cases hb : b = a
    · subst hb; exact absurd hf h1
    · rw [upd_ne hb] at h2; exact h2
theorem mapF_ok {f : D → Sto → Option (D × Sto)}
    (hf : ∀ (d : D) (v : V) (S : Sto) (d' : D) (S' : Sto) (G : Hp), Rel K M G Φ μ S H → RD K M G μ d v → f d S = some (d', S') → ∃ G1, Gr Φ G μ G1 μ ∧ Rel K M G1 Φ μ S' H ∧ RD K M G1 μ d' v) :
    ∀ (ds : List D) (vs : List V) (S : Sto) (ds' : List D) (S' : Sto) (G : Hp), Rel K M G Φ μ S H → RDs K M G μ ds vs → mapF f ds S = some (ds', S') → ∃ G1, Gr Φ G μ G1 μ ∧ Rel K M G1 Φ μ S' H ∧ RDs K M G1 μ ds' vs
  | [], _, S, _, _, G, r, .nil, e => by
    rw [mapF] at e; cases e
    exact ⟨G, .refl, r, .nil⟩
  | d :: ds, v :: vs, S, ds', S', G, r, .cons q qs, e => by
    rw [mapF] at e
    split at e
    · rename_i d1 S1 h1
      obtain ⟨G1, g1, r1, q1⟩ := hf d v S _ _ G r q h1
      split at e
      · rename_i ds2 S2 h2
        cases e
        obtain ⟨G2, g2, r2, q2⟩ := mapF_ok hf ds vs S1 _ _ G1 r1 (RDs.grow g1.g g1.m _ _ qs) h2
        exact ⟨G2, g1.trans g2, r2, .cons (RD.grow g2.g g2.m _ _ q1) q2⟩
      · cases e
    · cases e
theorem frz_ok : ∀ (k : Nat) (d : D) (v : V) (S : Sto) (d' : D) (S' : Sto) (G : Hp), Rel K M G Φ μ S H → RD K M G μ d v → frz k d S = some (d', S') → ∃ G1, Gr Φ G μ G1 μ ∧ Rel K M G1 Φ μ S' H ∧ RD K M G1 μ d' v
  | 0, _, _, _, _, _, _, _, _, e => by rw [frz] at e; cases e
  | k + 1, d, v, S, d', S', G, r, q, e => by
    have still : (if d.pure then some (d, S) else none) = some (d', S') → ∃ G1, Gr Φ G μ G1 μ ∧ Rel K M G1 Φ μ S' H ∧ RD K M G1 μ d' v := fun e => by
      split at e
      · cases e; exact ⟨G, .refl, r, q⟩
      · cases e
    cases d with
    | ref n =>
      cases q with
      | ref hm =>
        rename_i a
        rw [frz] at e
        split at e
        · rename_i xs hs
          obtain ⟨ys, h1, h2⟩ := r.look hs hm
          split at e
          · rename_i zs S1 hz
            obtain ⟨G1, g1, r1, q1⟩ := mapF_ok (frz_ok k) _ _ _ _ _ _ r h2 hz
            split at e
            · rename_i ws hw
              cases e
              obtain ⟨r2, g2⟩ := r1.freeze hw (fun z => nomatch z) hm h1
              exact ⟨_, g1.trans g2, r2, .lst upd_same (RDs.grow g2.g g2.m _ _ q1)⟩
            · cases e
          · cases e
        · rename_i t ks xs hs
          split at e
          · rename_i zs S1 hz
            rcases r.look hs hm with ⟨t0, kk, ys, e1, l, h2, h1⟩ | ⟨t0, kk, ys, e1, l, h2, h1⟩
            · subst t0
              obtain ⟨G1, g1, r1, q1⟩ := mapF_ok (frz_ok k) _ _ _ _ _ _ r h2 hz
              split at e
              · rename_i ws hw
                cases e
                obtain ⟨r2, g2⟩ := r1.freeze hw (fun z => nomatch z) hm h1
                exact ⟨_, g1.trans g2, r2, .dK e1 l (RDs.grow g2.g g2.m _ _ q1) upd_same⟩
              · cases e
            · subst t0
              obtain ⟨G1, g1, r1, q1⟩ := mapF_ok (frz_ok k) _ _ _ _ _ _ r h2 hz
              split at e
              · rename_i ws hw
                cases e
                obtain ⟨r2, g2⟩ := r1.freeze hw (fun z => nomatch z) hm h1
                exact ⟨_, g1.trans g2, r2, .dT e1 l (RDs.grow g2.g g2.m _ _ q1) upd_same⟩
              · cases e
          · cases e
        · rename_i c ns xs hs
          obtain ⟨dx, ys, l, h2, h1⟩ := r.look hs hm
          split at e
          · rename_i zs S1 hz
            obtain ⟨G1, g1, r1, q1⟩ := mapF_ok (frz_ok k) _ _ _ _ _ _ r h2 hz
            split at e
            · rename_i ws hw
              cases e
              obtain ⟨r2, g2⟩ := r1.freeze hw (fun z => nomatch z) hm h1
              exact ⟨_, g1.trans g2, r2, .obj l (RDs.grow g2.g g2.m _ _ q1) upd_same⟩
            · cases e
          · cases e
        · cases e
    | lst xs =>
      rw [frz] at e
      cases q with
      | lst h1 h2 =>
        split at e
        · cases e; exact ⟨G, .refl, r, .lst h1 h2⟩
        · split at e
          · rename_i zs S1 hz
            cases e
            obtain ⟨G1, g1, r1, q1⟩ := mapF_ok (frz_ok k) _ _ _ _ _ _ r h2 hz
            exact ⟨G1, g1, r1, .lst (g1.g _ _ h1) q1⟩
          · cases e
    | tup xs =>
      rw [frz] at e
      cases q with
      | tup h1 h2 =>
        split at e
        · cases e; exact ⟨G, .refl, r, .tup h1 h2⟩
        · split at e
          · rename_i zs S1 hz
            cases e
            obtain ⟨G1, g1, r1, q1⟩ := mapF_ok (frz_ok k) _ _ _ _ _ _ r h2 hz
            exact ⟨G1, g1, r1, .tup (g1.g _ _ h1) q1⟩
          · cases e
    | non => exact still (by simpa only [frz] using e)
    | bl b => exact still (by simpa only [frz] using e)
    | int b => exact still (by simpa only [frz] using e)
    | str b => exact still (by simpa only [frz] using e)
    | scr b => exact still (by simpa only [frz] using e)
    | dct t ks vs => exact still (by simpa only [frz] using e)
    | obj c ns vs => exact still (by simpa only [frz] using e)
    | fn i => exact still (by simpa only [frz] using e)
/-! ### attributes -/
theorem insD_ok (r : Rel K M G Φ μ S H) {x : D} {v : V} {c : Nat} {ns : List Str} {vs : List D} (q : RD K M G μ x v) (e : insD S x = some (c, ns, vs)) : ∃ a dx ys, v = .ref a ∧ H a = some (.ins (M.cls c) dx (ns.zip ys)) ∧ ns.length = ys.length ∧ RDs K M G μ vs ys := by
  unfold insD at e
  split at e
  · cases e
    cases q with
    | obj l q h => exact ⟨_, _, _, rfl, (r.g _ _ h).ins, l, q⟩
  · rename_i n
    split at e
    · rename_i c' ns' vs' hs
      cases e
      cases q with
      | ref hm =>
        obtain ⟨dx, ys, l, q, h⟩ := r.look hs hm
        exact ⟨_, dx, ys, rfl, h, l, q⟩
    · cases e
  · cases e
theorem fldL_ok {f : Str} {d : D} : ∀ {ns : List Str} {vs : List D} {ys : List V}, RDs K M G μ vs ys → fldL f ns vs = some d → ∃ v, (ns.zip ys).lookup f = some v ∧ RD K M G μ d v
  | [], _, _, _, e => by rw [fldL] at e <;> first | cases e | simp
  | n :: ns, _, _, .nil, e => by rw [fldL] at e <;> first | cases e | simp
  | n :: ns, _, _, .cons q qs, e => by
    rw [fldL] at e
    rw [List.zip_cons_cons, List.lookup_cons]
    by_cases h : n = f
    · rw [if_pos h] at e
      cases e
      subst h
      rw [beq_self_eq_true]
      exact ⟨_, rfl, q⟩
    · rw [if_neg h] at e
      rw [show (f == n) = false from beq_eq_false_iff_ne.mpr fun z => h z.symm]
      exact fldL_ok qs e
theorem mth_no {m : Str} : ∀ {ns : List Str} {ys : List V}, (ns.all fun n => decide (n ≠ m)) = true → (ns.zip ys).lookup m = none
  | [], _, _ => rfl
  | n :: ns, [], _ => rfl
  | n :: ns, y :: ys, h => by
    rw [List.all_cons, Bool.and_eq_true, decide_eq_true_eq] at h
    rw [List.zip_cons_cons, List.lookup_cons, show (m == n) = false from beq_eq_false_iff_ne.mpr fun z => h.1 z.symm]
    exact mth_no h.2
theorem putA_ok {f : Str} {d : D} {v : V} (q : RD K M G μ d v) : ∀ {ns : List Str} {vs : List D} {ys : List V}, ns.length = ys.length → RDs K M G μ vs ys →
    ∃ zs, (putA f d ns vs).1.length = zs.length ∧ RDs K M G μ (putA f d ns vs).2 zs ∧ putF f v (ns.zip ys) = (putA f d ns vs).1.zip zs
  | [], [], [], _, .nil => ⟨[v], rfl, .cons q .nil, rfl⟩
  | n :: ns, x :: vs, y :: ys, hl, .cons h r => by
    obtain ⟨zs, h1, h2, h3⟩ := putA_ok q (ns := ns) (by simpa using hl) r
    rw [putA, List.zip_cons_cons, putF]
    by_cases e : n = f
    · rw [if_pos e, if_pos e]
      exact ⟨v :: ys, by simpa using hl, .cons q r, by rw [List.zip_cons_cons]⟩
    · rw [if_neg e, if_neg e]
      exact ⟨y :: zs, by simpa using h1, .cons h h2, by rw [h3, List.zip_cons_cons]⟩
  | [], _, _ :: _, hl, _ => by cases hl
  | _ :: _, _, [], hl, _ => by cases hl
end
end Ip
/-! ## Soundness of expressions -/
namespace Ip
open PySem PySem.Spec PyProof.Rows L2

section
variable {K : PySem.W.Frag} {M : Am} {G G' Φ : Hp} {μ μ' : Mu}
theorem RD.up {d : D} {v : V} (q : RD K M G μ d v) (g : Gr Φ G μ G' μ') : RD K M G' μ' d v := RD.grow g.g g.m _ _ q
theorem RDs.up {d : List D} {v : List V} (q : RDs K M G μ d v) (g : Gr Φ G μ G' μ') : RDs K M G' μ' d v := RDs.grow g.g g.m _ _ q
mutual
theorem RD.pure : ∀ (d : D) (v : V), RD K M G μ d v → d.pure = true → RD K M G μ' d v
  | .non, _, .non, _ => .non
  | .bl b, _, .bl _, _ => .bl b
  | .int i, _, .int _, _ => .int i
  | .str x, _, .str _, _ => .str x
  | .tup xs, _, .tup h r, p => .tup h (RDs.pure xs _ r (by rw [D.pure] at p; exact p))
  | .lst xs, _, .lst h r, p => .lst h (RDs.pure xs _ r (by rw [D.pure] at p; exact p))
  | .scr ns, _, .scr h, _ => .scr h
  | .dct _ ks vs, _, .dK e l r h, p => .dK e l (RDs.pure vs _ r (by rw [D.pure, Bool.and_eq_true] at p; exact p.2)) h
  | .dct _ ks vs, _, .dT e l r h, p => .dT e l (RDs.pure vs _ r (by rw [D.pure, Bool.and_eq_true] at p; exact p.2)) h
  | .obj c ns vs, _, .obj l r h, p => .obj l (RDs.pure vs _ r (by rw [D.pure] at p; exact p)) h
  | .ref n, _, .ref h, p => by rw [D.pure] at p; cases p
  | .fn i, _, .fn _, _ => .fn i
theorem RDs.pure : ∀ (ds : List D) (vs : List V), RDs K M G μ ds vs → pures ds = true → RDs K M G μ' ds vs
  | [], _, .nil, _ => .nil
  | d :: ds, _, .cons h r, p => by
    rw [pures, Bool.and_eq_true] at p
    exact .cons (RD.pure d _ h p.1) (RDs.pure ds _ r p.2)
end
end
theorem tG.imp {K : PySem.W.Frag} {M : Am} {W : WX} {α β : Type} {R : Hp → Mu → α → β → Prop} {ev : En → Sto → Option (Ro α)} {σ : L2.St} {H : Hp} {Q Q' : β → Hp → Prop} (h : tG K M W R ev σ H Q) (f : ∀ b H, Q b H → Q' b H) : tG K M W R ev σ H Q' := by
  obtain ⟨G, Φ, μ, S, env, r, er, res⟩ := h
  exact ⟨G, Φ, μ, S, env, r, er, res.imp f⟩
noncomputable abbrev Sys.Γ (Y : Sys) (k : Nat) : Gam := callK Y.F Y.T k
abbrev PEx (Y : Sys) (k : Nat) (X : Cx) (W : WX) (e : Expr) (x : Ex) : Prop := PE X e (tX X.K Y.M W (evalE (Y.Γ k) Y.T x))
abbrev PTx (Y : Sys) (k : Nat) (X : Cx) (W : WX) (e : Expr) (x : Ex) : Prop := PT X e (tXt X.K Y.M W (evalT (Y.Γ k) Y.T x))
abbrev PAx (Y : Sys) (k : Nat) (X : Cx) (W : WX) (e : List Expr) (x : Exs) : Prop := PA X e (tXs X.K Y.M W (evalEs (Y.Γ k) Y.T x))
abbrev POx (Y : Sys) (k : Nat) (X : Cx) (W : WX) (e : Option Expr) (x : Oe) : Prop := PO X e (tG X.K Y.M W rO (evalO (Y.Γ k) Y.T x))
abbrev PCx (Y : Sys) (k : Nat) (X : Cx) (W : WX) (e : List Expr) (x : Oe) : Prop := PTs X e (tXt X.K Y.M W (evalC (Y.Γ k) Y.T x))
abbrev PIx (Y : Sys) (k : Nat) (X : Cx) (W : WX) (tg e : Expr) (x : Itr) : Prop := PI X tg e (tG X.K Y.M W (rW X.K Y.M) (evalI (Y.Γ k) Y.T x))
section
variable {Y : Sys} {k : Nat} {X : Cx} {W : WX} {pos : Pos}
theorem s_now {ev : En → Sto → Option (Ro D)} {σ : L2.St} {H : Hp} {Q : VK} {c : Cst} (h : tX X.K Y.M W ev σ H Q) (e : ∀ env S, ev env S = some (.ok c.d S)) : Q c.v H := by
  obtain ⟨G, Φ, μ, S, env, r, er, res⟩ := h
  rw [e] at res
  refine res.now r ?_
  cases c with
  | non => exact .non
  | bl b => exact .bl b
  | int i => exact .int i
  | str x => exact .str x
theorem s_c {c : Cst} {q : Const} {j : Nat} (h : cstB c q = true) : PEx Y k X W (.Constant q j pos) (.c c) := by
  have im : ∀ {t : TE}, PE X (.Constant q j pos) t → (∀ σ H Q, Q c.v H → t σ H Q) → PEx Y k X W (.Constant q j pos) (.c c) := fun h1 h2 =>
    h1.imp fun σ H Q z => h2 σ H Q (s_now z fun env S => by rw [evalE])
  cases c with
  | non => cases q <;> first | exact im pe_non fun _ _ _ z => z | cases h
  | bl b =>
    cases q <;> first | cases h | skip
    obtain rfl := beq_iff_eq.mp h
    exact im pe_bl fun _ _ _ z => z
  | int b =>
    cases q <;> first | cases h | skip
    obtain rfl := beq_iff_eq.mp h
    exact im pe_int fun _ _ _ z => z
  | str b =>
    cases q <;> first | cases h | skip
    obtain rfl := beq_iff_eq.mp h
    exact im pe_str fun _ _ _ z => z
theorem s_v {i : Nat} {x : Str} (h1 : X.N[i]? = some x) (h2 : visB X.env.scope x = true) (h3 : nmOk x = true) : PEx Y k X W (.Name x pos) (.v i) :=
  (pe_var h1 (visB_ok h2) (nmOk_1 h3) (nmOk_2 h3)).imp fun σ H Q z => by
    obtain ⟨G, Φ, μ, S, env, r, er, res⟩ := z
    simp only [evalE] at res
    split at res
    · rename_i d e
      obtain ⟨v, hv, q⟩ := er.at_ i d e
      exact ⟨v, hv, res.now r q⟩
    · exact res.elim
theorem s_g (ok : XOk Y k X W) {i : Nat} {x : Str} (h1 : Y.cn[i]? = some x) (h2 : glB X.env.scope x = true) (h3 : nmOk x = true) : PEx Y k X W (.Name x pos) (.g i) := by
  obtain ⟨c, hc, u, hm, rv⟩ := ok.facts.cs i x h1
  exact (pe_glob (glB_ok h2) hm rv (nmOk_1 h3)).imp fun σ H Q z => s_now z fun env S => by rw [evalE, hc]; rfl
theorem s_bin {a b : Expr} {xa xb : Ex} {o : BOp} {m : Bool} (ha : PEx Y k X W a xa) (hb : PEx Y k X W b xb) : PEx Y k X W (.BinOp a o.op b pos) (.bin o m xa xb) :=
  (pe_op (op_uBin o) ha hb).imp fun σ H Q z => by
    simp only [tX, evalE] at z
    refine (tG_bind (Ra := rD X.K Y.M) z).imp ?_
    rintro v H1 ⟨G, Φ, μ, S, env, d, r, er, ra, res⟩
    refine (tG_go (Ra := rD X.K Y.M) r er res).imp ?_
    rintro u H2 ⟨G1, μ1, S1, d2, gr, r1, rb, res1⟩
    exact binD_ok r1 (ra.up gr) rb res1
theorem s_neg {a : Expr} {xa : Ex} (ha : PEx Y k X W a xa) : PEx Y k X W (.UnaryOp .USub a pos) (.neg xa) :=
  (pe_un un_neg ha).imp fun σ H Q z => by
    simp only [tX, evalE] at z
    refine (tG_bind (Ra := rD X.K Y.M) z).imp ?_
    rintro v H1 ⟨G, Φ, μ, S, env, d, r, er, ra, res⟩
    cases ra <;> first | exact res.elim | exact ⟨_, rfl, res.now r (.int _)⟩
theorem s_cmp (ok : XOk Y k X W) {a b : Expr} {xa xb : Ex} {o : COp} (ha : PEx Y k X W a xa) (hb : PEx Y k X W b xb) (hs : notSet b = true) : PEx Y k X W (.Compare a [o.op] [b] pos) (.cmp o xa xb) :=
  (pe_cmpR (op_uCmp (by have := ok.room.un; omega) o) ha hb (marks_no hs _)).imp fun σ H Q z => by
    simp only [tX, evalE] at z
    refine (tG_bind (Ra := rD X.K Y.M) z).imp ?_
    rintro v H1 ⟨G, Φ, μ, S, env, d, r, er, ra, res⟩
    refine (tG_go (Ra := rD X.K Y.M) r er res).imp ?_
    rintro u H2 ⟨G1, μ1, S1, d2, gr, r1, rb, res1⟩
    dsimp only at res1
    cases e : cmpD o d d2 S1 with
    | none => rw [e] at res1; exact res1.elim
    | some c => rw [e] at res1; exact cmpD_ok r1 (ra.up gr) rb e (res1.now r1 (.bl c))
theorem t_cmp (ok : XOk Y k X W) {a b : Expr} {xa xb : Ex} {o : COp} (ha : PEx Y k X W a xa) (hb : PEx Y k X W b xb) (hs : notSet b = true) : PTx Y k X W (.Compare a [o.op] [b] pos) (.cmp o xa xb) :=
  (pt_cmpR (op_uCmp (by have := ok.room.un; omega) o) ha hb (marks_no hs _)).imp fun σ H Q z => by
    simp only [tXt, evalT] at z
    refine (tG_bind (Ra := rD X.K Y.M) z).imp ?_
    rintro v H1 ⟨G, Φ, μ, S, env, d, r, er, ra, res⟩
    refine (tG_go (Ra := rD X.K Y.M) r er res).imp ?_
    rintro u H2 ⟨G1, μ1, S1, d2, gr, r1, rb, res1⟩
    dsimp only at res1
    cases e : cmpD o d d2 S1 with
    | none => rw [e] at res1; exact res1.elim
    | some c => rw [e] at res1; exact cmpD_ok r1 (ra.up gr) rb e ⟨c, rfl, res1.now r1 rfl⟩
theorem s_not {a : Expr} {xa : Ex} (ha : PEx Y k X W a xa) : PEx Y k X W (.UnaryOp .Not a pos) (.not xa) :=
  (pe_not ha).imp fun σ H Q z => by
    simp only [tX, evalE] at z
    refine (tG_bind (Ra := rD X.K Y.M) z).imp ?_
    rintro v H1 ⟨G, Φ, μ, S, env, d, r, er, ra, res⟩
    cases ra <;> first | exact res.elim | exact ⟨_, rfl, res.now r (.bl _)⟩
theorem t_not {a : Expr} {xa : Ex} (ha : PTx Y k X W a xa) : PTx Y k X W (.UnaryOp .Not a pos) (.not xa) :=
  (pt_not ha).imp fun σ H Q z => by
    simp only [tXt, evalT] at z
    refine (tG_bind (Ra := rB) z).imp ?_
    rintro v H1 ⟨G, Φ, μ, S, env, d, r, er, ra, res⟩
    have ra : d = v := ra
    subst ra
    exact res.now r rfl
theorem s_and {a b : Expr} {rest : List Expr} {xa xb : Ex} (ha : PEx Y k X W a xa) (hb : PEx Y k X W (.BoolOp .And (b :: rest) pos) xb) : PEx Y k X W (.BoolOp .And (a :: b :: rest) pos) (.and xa xb) :=
  (pe_and ha hb).imp fun σ H Q z => by
    simp only [tX, evalE] at z
    refine (tG_bind (Ra := rD X.K Y.M) z).imp ?_
    rintro v H1 ⟨G, Φ, μ, S, env, d, r, er, ra, res⟩
    cases ra <;> first | exact res.elim | skip
    rename_i c
    refine ⟨c, rfl, ?_⟩
    cases c with
    | true => exact ⟨G, Φ, μ, S, env, r, er, res⟩
    | false => exact res.now r (.bl false)
theorem s_or {a b : Expr} {rest : List Expr} {xa xb : Ex} (ha : PEx Y k X W a xa) (hb : PEx Y k X W (.BoolOp .Or (b :: rest) pos) xb) : PEx Y k X W (.BoolOp .Or (a :: b :: rest) pos) (.or xa xb) :=
  (pe_or ha hb).imp fun σ H Q z => by
    simp only [tX, evalE] at z
    refine (tG_bind (Ra := rD X.K Y.M) z).imp ?_
    rintro v H1 ⟨G, Φ, μ, S, env, d, r, er, ra, res⟩
    cases ra <;> first | exact res.elim | skip
    rename_i c
    refine ⟨c, rfl, ?_⟩
    cases c with
    | true => exact res.now r (.bl true)
    | false => exact ⟨G, Φ, μ, S, env, r, er, res⟩
theorem t_and {a b : Expr} {rest : List Expr} {xa xb : Ex} (ha : PTx Y k X W a xa) (hb : PW X (.BoolOp .And (b :: rest) pos) (tXt X.K Y.M W (evalT (Y.Γ k) Y.T xb))) : PTx Y k X W (.BoolOp .And (a :: b :: rest) pos) (.and xa xb) :=
  (pw_and ha hb).pt.imp fun σ H Q z => by
    simp only [tXt, evalT] at z
    refine (tG_bind (Ra := rB) z).imp ?_
    rintro v H1 ⟨G, Φ, μ, S, env, d, r, er, ra, res⟩
    have ra : d = v := ra
    subst ra
    cases d with
    | true => exact ⟨G, Φ, μ, S, env, r, er, res⟩
    | false => exact res.now r rfl
theorem t_or {a b : Expr} {rest : List Expr} {xa xb : Ex} (ha : PTx Y k X W a xa) (hb : PW X (.BoolOp .Or (b :: rest) pos) (tXt X.K Y.M W (evalT (Y.Γ k) Y.T xb))) : PTx Y k X W (.BoolOp .Or (a :: b :: rest) pos) (.or xa xb) :=
  (pw_or ha hb).pt.imp fun σ H Q z => by
    simp only [tXt, evalT] at z
    refine (tG_bind (Ra := rB) z).imp ?_
    rintro v H1 ⟨G, Φ, μ, S, env, d, r, er, ra, res⟩
    have ra : d = v := ra
    subst ra
    cases d with
    | true => exact res.now r rfl
    | false => exact ⟨G, Φ, μ, S, env, r, er, res⟩
theorem s_ite {c a b : Expr} {xc xa xb : Ex} (hc : PTx Y k X W c xc) (ha : PEx Y k X W a xa) (hb : PEx Y k X W b xb) : PEx Y k X W (.IfExp c a b pos) (.ite xc xa xb) :=
  (pe_ifExp hc ha hb).imp fun σ H Q z => by
    simp only [tX, evalE] at z
    refine (tG_bind (Ra := rB) z).imp ?_
    rintro v H1 ⟨G, Φ, μ, S, env, d, r, er, ra, res⟩
    have ra : d = v := ra
    subst ra
    cases d with
    | true => exact ⟨G, Φ, μ, S, env, r, er, res⟩
    | false => exact ⟨G, Φ, μ, S, env, r, er, res⟩
theorem s_tup {es : List Expr} {j : Nat} {xs : Exs} (h : PAx Y k X W es xs) : PEx Y k X W (.Tuple es j pos) (.tup xs) :=
  (pe_tup h).imp fun σ H Q z => by
    simp only [tX, evalE] at z
    refine (tG_bind (Ra := rDs X.K Y.M) z).imp ?_
    rintro v H1 ⟨G, Φ, μ, S, env, d, r, er, ra, res⟩
    have ra : RDs X.K Y.M G μ d v := ra
    split at res
    · rename_i c; exact ⟨by rw [← ra.length]; exact c, res_tup res r ra⟩
    · exact res.elim
theorem s_lst {es : List Expr} {m : Bool} {xs : Exs} (h : PAx Y k X W es xs) : PEx Y k X W (.List es pos) (.lst m xs) :=
  (pe_lst h).imp fun σ H Q z => by
    simp only [tX, evalE] at z
    refine (tG_bind (Ra := rDs X.K Y.M) z).imp ?_
    rintro v H1 ⟨G, Φ, μ, S, env, d, r, er, ra, res⟩
    have ra : RDs X.K Y.M G μ d v := ra
    split at res
    · rename_i c; exact ⟨by rw [← ra.length]; exact c, res_mkL res r ra⟩
    · exact res.elim
def tCst (c : Cst) : TE := fun _ H Q => Q c.v H
theorem p_c {c : Cst} {q : Const} {j : Nat} (h : cstB c q = true) : PE X (.Constant q j pos) (tCst c) := by
  cases c with
  | non => cases q <;> first | exact pe_non | cases h
  | bl b =>
    cases q <;> first | cases h | skip
    obtain rfl := beq_iff_eq.mp h
    exact pe_bl
  | int b =>
    cases q <;> first | cases h | skip
    obtain rfl := beq_iff_eq.mp h
    exact pe_int
  | str b =>
    cases q <;> first | cases h | skip
    obtain rfl := beq_iff_eq.mp h
    exact pe_str
theorem pps_c : ∀ {ks vs : List Cst} {keys : List (Option Expr)} {values : List Expr}, okKs ks keys = true → okVs vs values = true → ks.length = vs.length →
    PPs X pos keys values ((ks.zip vs).map fun q => (tCst q.1, tCst q.2)) ∧ keys.all (·.isSome) = true ∧ keys.length = ks.length ∧ values.length = vs.length
  | [], [], [], [], _, _, _ => ⟨pps_nil, rfl, rfl, rfl⟩
  | k :: ks, v :: vs, e :: keys, x :: values, h1, h2, hl => by
    unfold okKs at h1
    split at h1
    · rename_i q1 q2; cases q1
    · rename_i q1 q2
      cases q1; cases q2
      unfold okVs at h2
      split at h2
      · rename_i q1 q2; cases q1
      · rename_i q1 q2
        cases q1; cases q2
        rw [Bool.and_eq_true] at h1 h2
        obtain ⟨r1, r2, r3, r4⟩ := pps_c h1.2 h2.2 (by simpa using hl)
        refine ⟨pps_cons (p_c h1.1) (p_c h2.1) r1, ?_, by rw [List.length_cons, List.length_cons, r3], by rw [List.length_cons, List.length_cons, r4]⟩
        rw [List.all_cons, r2]; rfl
      · cases h2
    · cases h1
  | [], [], [], _ :: _, _, h, _ => by cases h
  | [], [], _ :: _, _, h, _, _ => by cases h
  | _ :: _, _ :: _, [], _, h, _, _ => by cases h
  | k :: ks, v :: vs, _ :: _, [], _, h, _ => by cases h
  | [], _ :: _, _, _, _, _, h => by simp at h
  | _ :: _, [], _, _, _, _, h => by simp at h
theorem tPairs_c : ∀ (l : List (Cst × Cst)) {σ : L2.St} {H : Hp} {Q : List (V × V) → Hp → Prop}, Q (l.map fun q => (q.1.v, q.2.v)) H → tPairs (l.map fun q => (tCst q.1, tCst q.2)) σ H Q
  | [], _, _, _, h => h
  | q :: l, σ, H, Q, h => tPairs_c l (Q := fun ps H3 => Q ((q.1.v, q.2.v) :: ps) H3) h
theorem mergeK_new : ∀ (more acc : List (Key × V)), ((acc ++ more).map (·.1)).Nodup → mergeK acc more = acc ++ more
  | [], acc, _ => by rw [List.append_nil]; rfl
  | p :: r, acc, h => by
    have hn : valV acc p.1 = none := by
      cases e : valV acc p.1 with
      | none => rfl
      | some v =>
        have hs : (acc.any fun kv => decide (kv.1 = p.1)) = true := by rw [valV_any, e]; rfl
        rw [List.any_eq_true] at hs
        obtain ⟨x, hx, hxe⟩ := hs
        rw [List.map_append, List.nodup_append] at h
        exact absurd (of_decide_eq_true hxe) (h.2.2 _ (List.mem_map_of_mem hx) _ (List.mem_map_of_mem (List.mem_cons_self ..)))
    show mergeK (putK acc p.1 p.2) r = _
    rw [putK_new p.2 hn, mergeK_new r (acc ++ [(p.1, p.2)]) (by rw [List.append_assoc]; exact h), List.append_assoc]; rfl
theorem keys_of : ∀ {ks : List Cst}, ks.all (fun k => k.key.isSome) = true → ∃ kk : List Key, ks.map Cst.key = kk.map some ∧ ks.map Cst.d = kk.map kD ∧ ks.map Cst.v = kk.map kV ∧ kk.length = ks.length
  | [], _ => ⟨[], rfl, rfl, rfl, rfl⟩
  | c :: ks, h => by
    rw [List.all_cons, Bool.and_eq_true] at h
    obtain ⟨kk, h1, h2, h3, h4⟩ := keys_of h.2
    cases c with
    | int i => exact ⟨.inl i :: kk, by rw [List.map_cons, h1]; rfl, by rw [List.map_cons, h2]; rfl, by rw [List.map_cons, h3]; rfl, by rw [List.length_cons, List.length_cons, h4]⟩
    | str i => exact ⟨.inr i :: kk, by rw [List.map_cons, h1]; rfl, by rw [List.map_cons, h2]; rfl, by rw [List.map_cons, h3]; rfl, by rw [List.length_cons, List.length_cons, h4]⟩
    | non => exact absurd h.1 (by decide)
    | bl b => exact absurd h.1 (fun z => by cases z)
theorem cst_RD {K : PySem.W.Frag} {M : Am} {G : Hp} {μ : Mu} (c : Cst) : RD K M G μ c.d c.v := by
  cases c with
  | non => exact .non
  | bl b => exact .bl b
  | int i => exact .int i
  | str x => exact .str x
theorem csts_RDs {K : PySem.W.Frag} {M : Am} {G : Hp} {μ : Mu} : ∀ cs : List Cst, RDs K M G μ (cs.map Cst.d) (cs.map Cst.v)
  | [] => .nil
  | c :: cs => .cons (cst_RD c) (csts_RDs cs)
theorem nodup_some {α : Type} : ∀ {l : List α}, (l.map some).Nodup → l.Nodup
  | [], _ => List.nodup_nil
  | x :: l, h => by
    rw [List.map_cons, List.nodup_cons] at h
    exact List.nodup_cons.mpr ⟨fun z => h.1 (List.mem_map_of_mem z), nodup_some h.2⟩
theorem upd_upd {H : Hp} {p : Addr} {u w : HO} : upd (upd H p u) p w = upd H p w := by
  funext a
  by_cases h : a = p
  · subst h; rw [upd_same, upd_same]
  · rw [upd_ne h, upd_ne h, upd_ne h]
theorem s_dct {m : Bool} {t : Nat} {ks vs : List Cst} {keys : List (Option Expr)} {values : List Expr} (hd : dctB t ks vs = true) (hk : okKs ks keys = true) (hv : okVs vs values = true) : PEx Y k X W (.Dict keys values pos) (.dct m t ks vs) := by
  unfold dctB at hd
  rw [Bool.and_eq_true, beq_iff_eq] at hd
  obtain ⟨hl, hd⟩ := hd
  obtain ⟨q1, q2, q3, q4⟩ := pps_c (X := X) (pos := pos) hk hv hl
  rw [Bool.or_eq_true] at hd
  cases ks with
  | nil =>
    cases vs with
    | cons _ _ => cases hl
    | nil =>
      cases keys with
      | cons _ _ => cases q3
      | nil =>
        cases values with
        | cons _ _ => cases q4
        | nil =>
          have ht : t = 0 ∨ t = 1 := by
            rcases hd with hd | hd
            · rw [Bool.and_eq_true, decide_eq_true_eq] at hd; omega
            · rw [Bool.and_eq_true, beq_iff_eq] at hd; exact .inl hd.1
          rcases ht with rfl | rfl
          · exact pe_dnewK.imp fun σ H Q z => by
              obtain ⟨G, Φ, μ, S, env, r, er, res⟩ := z
              simp only [evalE] at res
              exact res_mkD0 (kk := []) (ys := []) res r rfl .nil
          · exact pe_dnewT.imp fun σ H Q z => by
              obtain ⟨G, Φ, μ, S, env, r, er, res⟩ := z
              simp only [evalE] at res
              exact res_mkD1 (kk := []) (ys := []) res r rfl .nil
  | cons c ks =>
    have hd : t = 0 ∧ (c :: ks).all (fun k => k.key.isSome) = true ∧ ((c :: ks).map Cst.key).Nodup ∧ (c :: ks).length ≤ 15 := by
      rcases hd with hd | hd
      · exact absurd hd (by simp)
      · rw [Bool.and_eq_true, Bool.and_eq_true, Bool.and_eq_true, beq_iff_eq, decide_eq_true_eq, decide_eq_true_eq] at hd
        exact hd
    obtain ⟨rfl, h1, h2, h3⟩ := hd
    obtain ⟨kk, e1, e2, e3, e4⟩ := keys_of h1
    have hkl : kk.length = (vs.map Cst.v).length := by rw [List.length_map, e4, hl]
    refine (pe_disp q1 q2 (by rw [q3, q4, hl]) (fun z => by rw [z] at q3; cases q3) (by rw [q3]; exact h3)).imp fun σ H Q z => ?_
    obtain ⟨G, Φ, μ, S, env, r, er, res⟩ := z
    simp only [evalE] at res
    rw [e2] at res
    intro p hp
    refine tPairs_c _ ⟨upd_same, kk.zip (vs.map Cst.v), ?_, ?_, ?_⟩
    · have z1 : ∀ (ks : List Cst) (kk : List Key) (vs : List Cst), ks.map Cst.v = kk.map kV → (ks.zip vs).map (fun q => (q.1.v, q.2.v)) = (kk.zip (vs.map Cst.v)).map (fun kv => (kV kv.1, kv.2)) := by
        intro ks
        induction ks with
        | nil => intro kk vs h; cases kk with | nil => rfl | cons _ _ => cases h
        | cons c ks ih =>
          intro kk vs h
          cases kk with
          | nil => cases h
          | cons k kk =>
            rw [List.map_cons, List.map_cons] at h
            injection h with ha hb
            cases vs with
            | nil => rfl
            | cons v vs =>
              rw [List.zip_cons_cons, List.map_cons, List.map_cons, List.zip_cons_cons, List.map_cons, ih kk vs hb, ha]
      exact z1 _ _ _ e3
    · rw [List.length_zip]; omega
    · have nd : ((([] : List (Key × V)) ++ kk.zip (vs.map Cst.v)).map (·.1)).Nodup := by
        rw [List.nil_append, List.map_fst_zip (by omega)]
        rw [e1] at h2
        exact nodup_some h2
      rw [mergeK_new _ _ nd, List.nil_append, upd_upd]
      exact res_mkD0 res r hkl (csts_RDs vs) p hp
theorem s_ix (ok : XOk Y k X W) {a b : Expr} {xa xb : Ex} (ha : PEx Y k X W a xa) (hb : PEx Y k X W b xb) (hs : plainIxB b = true) : PEx Y k X W (.Subscript a b pos) (.ix xa xb) :=
  (pe_ix (ix_uIx (by have := ok.room.un; omega)) ha hb (plainIx_no hs)).imp fun σ H Q z => by
    simp only [tX, evalE] at z
    refine (tG_bind (Ra := rD X.K Y.M) z).imp ?_
    rintro v H1 ⟨G, Φ, μ, S, env, d, r, er, ra, res⟩
    refine (tG_go (Ra := rD X.K Y.M) r er res).imp ?_
    rintro u H2 ⟨G1, μ1, S1, d2, gr, r1, rb, res1⟩
    dsimp only at res1
    cases e : ixD S1 d d2 with
    | none => rw [e] at res1; exact res1.elim
    | some c => rw [e] at res1; exact ixD_ok r1 (ra.up gr) rb e fun z q => res1.now r1 q
theorem s_sl {a : Expr} {lo hi : Option Expr} {p2 : Pos} {xa : Ex} {xl xh : Oe} {m : Bool} (ha : PEx Y k X W a xa) (hl : POx Y k X W lo xl) (hh : POx Y k X W hi xh) : PEx Y k X W (.Subscript a (.Slice lo hi none p2) pos) (.sl m xa xl xh) :=
  (pe_slice sl_uSl ha hl hh).imp fun σ H Q z => by
    simp only [tX, evalE] at z
    refine (tG_bind (Ra := rD X.K Y.M) z).imp ?_
    rintro v H1 ⟨G, Φ, μ, S, env, d, r, er, ra, res⟩
    refine (tG_go (Ra := rO) r er res).imp ?_
    rintro l H2 ⟨G1, μ1, S1, l', gr, r1, rl, res1⟩
    have rl : l' = l := rl
    subst rl
    refine (tG_go (Ra := rO) r1 (er.grow gr) res1).imp ?_
    rintro h H3 ⟨G2, μ2, S2, h', gr2, r2, rh, res2⟩
    have rh : h' = h := rh
    subst rh
    exact slD_ok r2 ((ra.up gr).up gr2) res2
/-! ### calls -/
theorem pure_call {K : PySem.W.Frag} {M : Am} {W W' : WX} {σ σ' : L2.St} {G Φ : Hp} {μ : Mu} {S : Sto} {H : Hp} {Q : VK} {x : Option (Ro D)} (r : Rel K M G Φ μ S H)
    (hW : ∀ c H, W c none σ H → W' c none σ' H)
    (res : Res K M W σ G Φ μ (match x with
      | some (.ok d _) => if d.pure then some (.ok d S) else none
      | some (.ex c _) => some (.ex c S)
      | none => none) (rD K M) Q) :
    ∃ Φ1, Rel K M G Φ1 (fun _ => none) [] H ∧ Res K M W' σ' G Φ1 (fun _ => none) x (rD K M) Q := by
  classical
  let Φ1 : Hp := fun a => if (∃ n, μ n = some a) ∧ G a = none then H a else Φ a
  have f1 : ∀ n a, μ n = some a → G a = none → Φ1 a = H a := fun n a e h => if_pos ⟨⟨n, e⟩, h⟩
  have f2 : ∀ a o, Φ a = some o → Φ1 a = some o := fun a o e => by
    by_cases this : (∃ n, μ n = some a) ∧ G a = none
    · exact (f1 this.1.choose a this.1.choose_spec this.2).trans (r.f a o e)
    · show (if _ then _ else _) = _
      rw [if_neg this]; exact e
  have f3 : ∀ a o, Φ1 a = some o → H a = some o := fun a o e => by
    by_cases h : (∃ n, μ n = some a) ∧ G a = none
    · have : Φ1 a = H a := if_pos h
      rw [this] at e; exact e
    · have : Φ1 a = Φ a := if_neg h
      rw [this] at e; exact r.f a o e
  have back : ∀ G' μ' H' S', Gr Φ1 G (fun _ => none) G' μ' → Rel K M G' Φ1 μ' S' H' → Gr Φ G μ G' μ ∧ Rel K M G' Φ μ S H' := fun G' μ' H' S' g q => by
    have keep : ∀ n a, μ n = some a → G a = none → H' a = H a := fun n a e hg => by
      cases h : H a with
      | none => exact absurd h (r.th n a e)
      | some o => exact q.f a o ((f1 n a e hg).trans h)
    have gnn : ∀ a, Φ a ≠ none → G' a ≠ none → G a ≠ none := fun a h1 h2 => g.n a (fun z => by
      cases h : Φ a with
      | none => exact h1 h
      | some o => rw [f2 a o h] at z; cases z) h2
    have gup : ∀ a, G a ≠ none → G' a ≠ none := fun a h z => by
      cases e : G a with
      | none => exact h e
      | some u => rw [g.g a u e] at z; cases z
    refine ⟨⟨g.g, gnn, fun _ _ h => h⟩, q.g, fun a o e => q.f a o (f2 a o e), fun n ob e => ?_, fun n a ob e hd em => ⟨?_, (r.gm n a ob e hd em).2⟩, r.inj, r.ub, fun n a e => ?_, fun n a em h => r.fm n a em (gnone_of g.g h), r.ft, fun a o e hg' => r.fg a o e (gnn a (by rw [e]; exact fun z => nomatch z) hg'), fun n a e em => gup a (r.dg n a e em)⟩
    · obtain ⟨a, em, h⟩ := r.s n ob e
      refine ⟨a, em, ?_⟩
      by_cases hd : ob = .dead
      · subst hd; trivial
      · exact (h.grow g.g (fun _ _ h => h)).heap (keep n a em (r.gm n a ob e hd em).1)
    · have hg := (r.gm n a ob e hd em).1
      cases h : G' a with
      | none => rfl
      | some w =>
        exact absurd hg (g.n a (by rw [f1 n a em hg]; exact r.th n a em) (by rw [h]; exact fun z => nomatch z))
    · by_cases hg : G a = none
      · rw [keep n a e hg]; exact r.th n a e
      · cases h : G a with
        | none => exact absurd h hg
        | some u => exact (q.g a u (g.g a u h)).some_
  refine ⟨Φ1, ⟨r.g, f3, fun n ob e => (by simp at e), fun n a ob e => (by simp at e), fun _ _ _ e => (by cases e), fun _ _ e => (by cases e), fun _ _ e => (by cases e), fun _ _ e => (by cases e), fun a xs e => ?_, fun a o e hg => ?_, fun n a e => (by simp at e)⟩, ?_⟩
  · by_cases h : (∃ n, μ n = some a) ∧ G a = none
    · obtain ⟨⟨n, em⟩, hg⟩ := h
      have e : H a = some (.tup xs) := (f1 n a em hg).symm.trans e
      have hl := r.ub n a em
      have hs : S[n]? = some S[n] := List.getElem?_eq_getElem hl
      generalize S[n] = ob at hs
      obtain ⟨b, eb, h⟩ := r.s n ob hs
      rw [em] at eb; cases eb
      cases ob with
      | lst xs => obtain ⟨ys, h1, _⟩ := h; rw [e] at h1; cases h1
      | dct t ks vs =>
        rcases h with ⟨_, _, _, _, _, _, h⟩ | ⟨_, _, _, _, _, _, h⟩ <;> rw [e] at h <;> cases h
      | ins c ns vs => obtain ⟨_, _, _, _, h⟩ := h; rw [e] at h; cases h
      | lck t ks vs =>
        rcases h with ⟨_, _, _, _, _, _, _, h⟩ | ⟨_, _, _, _, _, _, _, h⟩ <;> rw [e] at h <;> cases h
      | dead => exact r.dg n a hs em hg
    · have : Φ1 a = Φ a := if_neg h
      rw [this] at e; exact r.ft a xs e
  · have : Φ1 a = Φ a := if_neg fun z => hg z.2
    rw [this] at e; exact r.fg a o e hg
  cases x with
  | none => exact res
  | some z =>
    cases z with
    | ok d S1 =>
      simp only at res
      split at res
      · rename_i hp
        intro G' μ' H' v g q rd
        obtain ⟨g2, r2⟩ := back G' μ' H' S1 g q
        exact res G' μ H' v g2 r2 (RD.pure d v rd hp)
      · exact res.elim
    | ex c S1 =>
      intro G' μ' H' g q
      obtain ⟨g2, r2⟩ := back G' μ' H' S1 g q
      exact hW _ _ (res G' μ H' g2 r2)
theorem Res.wish {K : PySem.W.Frag} {M : Am} {W W' : WX} {σ σ' : L2.St} {G Φ : Hp} {μ : Mu} {α β : Type} {r : Option (Ro α)} {R : Hp → Mu → α → β → Prop} {Q : β → Hp → Prop} (h : Res K M W σ G Φ μ r R Q) (hW : ∀ c H, W c none σ H → W' c none σ' H) : Res K M W' σ' G Φ μ r R Q := by
  cases r with
  | none => exact h
  | some z =>
    cases z with
    | ok a S => exact h
    | ex c S => exact fun G' μ' H' g r => hW _ _ (h G' μ' H' g r)
theorem Res.unfrz {K : PySem.W.Frag} {M : Am} {W : WX} {σ : L2.St} {G Φ : Hp} {μ : Mu} {H : Hp} {Q : VK} {r : Option (Ro D)} (h : Res K M W σ G Φ μ (frzR r) (rD K M) Q) : Res K M W σ G Φ μ r (rD K M) Q := by
  cases r with
  | none => exact h
  | some z =>
    cases z with
    | ex c S => exact h
    | ok d S =>
      intro G' μ' H' v g r' q
      unfold frzR at h
      rw [bnd_ok] at h
      cases hz : frz 9 d S with
      | none => rw [hz] at h; exact h.elim
      | some w =>
        rw [hz] at h
        obtain ⟨G3, g3, r3, q3⟩ := frz_ok 9 _ _ _ _ _ _ r' q hz
        exact h G3 μ' H' _ (g.trans g3) r3 q3
theorem spI_of {f : Nat} {p : Bool} {K : PySem.W.Frag} {σ : L2.St} {G Φ : Hp} {μ : Mu} {S : Sto} {H : Hp} {Q : VK} {ds : List D} {vs : List V} (r : Rel K Y.M G Φ μ S H) (q : RDs K Y.M G μ ds vs) (res : Res K Y.M W σ G Φ μ (callP (Y.Γ k) p f ds S) (rD K Y.M) Q) :
    spI Y K k f vs H Q (WE W σ) := by
  cases p with
  | false => exact ⟨G, Φ, μ, S, ds, r, q, Res.wish (σ' := []) res fun _ _ h => h⟩
  | true =>
    simp only [callP] at res
    split at res
    · rename_i hp
      obtain ⟨Φ1, r1, res1⟩ := pure_call (W' := fun c d _ H => WE W σ c d H) (σ' := []) r (fun _ _ h => h) res
      exact ⟨G, Φ1, _, [], ds, r1, RDs.pure _ _ q hp, Res.unfrz (H := H) res1⟩
    · exact res.elim
theorem s_call (ok : XOk Y k X W) {f : Nat} {fn : Fn} {p : Bool} {x : Str} {pn : Pos} {e : Expr} {es : List Expr} {xs : Exs} (hf : Y.F[f]? = some fn) (hx : fn.name = x) (hne : x ≠ ("" : Str)) (hg : glB X.env.scope x = true) (hn : nmOk x = true) (hs : allNo (e :: es) = true)
    (h : PAx Y k X W (e :: es) xs) : PEx Y k X W (.Call (.Name x pn) (e :: es) [] pos) (.call f p xs) := by
  subst hx
  obtain ⟨h1, h2, h3⟩ := ok.facts.fn f fn hf hne
  unfold allNo at hs
  rw [Bool.and_eq_true] at hs
  exact (pe_callS (ok.facts.ok f fn hf) (ok.room.mono (by omega)) (glB_ok hg) h1 h2 h3 (fun σ => passAt ok.tk σ) h (nmOk_1 hn) (starEach_no hs.1 _ _) (backTo_no _ _ _ hs.2)).imp fun σ H Q z => by
    simp only [tX, evalE] at z
    refine (tG_bind (Ra := rDs X.K Y.M) z).imp ?_
    rintro v H1 ⟨G, Φ, μ, S, env, d, r, er, ra, res⟩
    exact spI_of r ra res
/-- a call of a local name that holds a def; what is raised is wished for at the caller's slots -/
theorem pe_callLS {CX : CXT} {kk i : Nat} {f : Addr} {fd : FuncData} {ps : List Str} {sp : Sp} {E : L2.St → XK} {x : Str} {p : Pos} {e : Expr} {es : List Expr} {t : TA} (F : FnOk X.prog X.w X.K X.mg X.base CX kk f fd ps sp) (hr : Room kk X.A) (hN : X.N[i]? = some x) (hv : Vis X.env.scope x) (hk : PySem.W.keepIn X.K (.ref f) = true)
    (hb : Binds X.K fd ps []) (hx : ∀ σ, PassesAt CX X σ (E σ)) (ha : PA X (e :: es) t) (hdb : (x == ("__debug__" : Str)) = false) (hcd : (x == ("__classdict__" : Str)) = false)
    (he : starEach (e :: es) X.env = (false, eval e X.env) :: starEach es X.env) (hpl : (backTo pos (starEach es X.env)).any (·.1) = false) :
    PE X (.Call (.Name x p) (e :: es) [] pos) (fun σ H Q => σ[i]? = some (some (.ref f)) ∧ t σ H fun vs H1 => sp vs H1 Q (E σ)) := by
  refine ⟨fun pins s σ H Q I h => ?_⟩
  obtain ⟨hs, ht⟩ := h
  refine wpAny_Call_Name_kw (thn ((pe_var (pos := p) hN hv hdb hcd).run pins s σ H (fun v H1 => v = .ref f ∧ H1 = H) I ⟨.ref f, hs, rfl, rfl⟩) fun u s1 ⟨v, H1, I1, r1, q1⟩ => ?_)
  obtain ⟨rfl, rfl⟩ := q1
  cases r1
  refine PySem.W.callWith_K (h₀ := X.base) I.ok.mod.kin hk (thn (ha.run pos pins s1 σ _ _ I1 ht) fun us s2 ⟨vs, H2, I2, r, q⟩ => ⟨I2.kIn, ?_⟩) he hpl
  exact run_fnS F hr hb (hx σ) I2 r q
theorem s_callv (ok : XOk Y k X W) {i : Nat} {fs : List Nat} {p : Bool} {x : Str} {pn : Pos} {e : Expr} {es : List Expr} {xs : Exs} (hN : X.N[i]? = some x) (hv : visB X.env.scope x = true) (hn : nmOk x = true) (hs : allNo (e :: es) = true)
    (hfs : (fs.all fun f => match Y.F[f]? with
      | some fn => !(fn.name == ("" : Str))
      | none => false) = true)
    (h : PAx Y k X W (e :: es) xs) : PEx Y k X W (.Call (.Name x pn) (e :: es) [] pos) (.callv i p fs xs) := by
  unfold allNo at hs
  rw [Bool.and_eq_true] at hs
  refine ⟨fun pins s σ H Q I z => ?_⟩
  obtain ⟨G, Φ, μ, S, env, r, er, res⟩ := z
  simp only [evalE] at res
  split at res
  · rename_i f hf
    split at res
    · rename_i hm
      have hc := List.all_eq_true.mp hfs f hm
      split at hc
      · rename_i fn hfn
        have hne : fn.name ≠ ("" : Str) := by simpa using hc
        obtain ⟨h1, h2, h3⟩ := ok.facts.fn f fn hfn hne
        obtain ⟨v, hv', q⟩ := er.at_ i _ hf
        cases q
        refine (pe_callLS (i := i) (ok.facts.ok f fn hfn) (ok.room.mono (by omega)) hN (visB_ok hv) h2 h3 (fun σ => passAt ok.tk σ) h (nmOk_1 hn) (nmOk_2 hn) (starEach_no hs.1 _ _) (backTo_no _ _ _ hs.2)).run pins s σ H Q I ⟨by rw [hv', ok.facts.fnm], ?_⟩
        refine (tG_go (Ra := rDs X.K Y.M) r er res).imp ?_
        rintro v H1 ⟨G1, μ1, S1, d, gr, r1, ra, res1⟩
        exact spI_of r1 ra res1
      · cases hc
    · exact res.elim
  · exact res.elim
theorem s_fnv (ok : XOk Y k X W) {f : Nat} {fn : Fn} {x : Str} (hf : Y.F[f]? = some fn) (hx : fn.name = x) (hne : x ≠ ("" : Str)) (hg : glB X.env.scope x = true) (hn : nmOk x = true) : PEx Y k X W (.Name x pos) (.fnv f) := by
  subst hx
  obtain ⟨h1, h2, h3⟩ := ok.facts.fn f fn hf hne
  refine (pe_glob (v := .ref (Y.fa f)) (glB_ok hg) h1 rfl (nmOk_1 hn)).imp fun σ H Q z => ?_
  obtain ⟨G, Φ, μ, S, env, r, er, res⟩ := z
  simp only [evalE] at res
  exact res.now r (by rw [← ok.facts.fnm]; exact .fn f)
theorem attB_ok (ok : XOk Y k X W) {c : Nat} {f : Str} (h : attB Y.toTxt c f = true) : Cls X.K (Y.M.cls c) ∧ NoAttr X.K (Y.M.cls c) f := by
  unfold attB at h
  split at h
  · rename_i q hq
    obtain ⟨h1, _, _, h4, _⟩ := ok.facts.cl c q hq
    exact ⟨h1, h4 f (List.contains_iff_mem.mp h)⟩
  · cases h
theorem s_att (ok : XOk Y k X W) {c : Nat} {o : Expr} {xo : Ex} {f : Str} (hb : baseB o = true) (ha : attB Y.toTxt c f = true) (ho : PEx Y k X W o xo) : PEx Y k X W (.Attribute o f pos) (.att c xo f) := by
  obtain ⟨c1, c2⟩ := attB_ok ok ha
  exact (pe_fld ho (attributeBase_no hb _ _ _)).imp fun σ H Q z => by
    simp only [tX, evalE] at z
    refine (tG_bind (Ra := rD X.K Y.M) z).imp ?_
    rintro v H1 ⟨G, Φ, μ, S, env, d, r, er, ra, res⟩
    try dsimp only at res
    unfold fldD at res
    split at res
    · rename_i c' ns vs hi
      split at res
      · rename_i hc
        subst hc
        obtain ⟨a, dx, ys, rfl, h1, l, q⟩ := insD_ok r ra hi
        cases hf : fldL f ns vs with
        | none => rw [hf] at res; exact res.elim
        | some d' =>
          rw [hf] at res
          obtain ⟨w, h2, q2⟩ := fldL_ok q hf
          exact ⟨a, _, dx, _, w, rfl, h1, c1, c2, h2, res.now r q2⟩
      · exact res.elim
    · exact res.elim
theorem form_ok {es : List Expr} {env : Env} {cpos : Pos} (h29 : es.length < 29) (hs : allNo es = true) : methodCallForm (es.length + ([] : List Keyword).length) (backTo cpos (starEach es env)) (backToKw cpos (keywordEach [] env)) = true := by
  unfold methodCallForm
  rw [backTo_all _ _ _ hs]
  simp only [keywordEach, backToKw, List.map_nil, List.all_nil, List.length_nil, List.isEmpty_nil, if_true, Bool.true_and, Nat.add_zero, decide_eq_true_eq]
  omega
theorem s_mcl (ok : XOk Y k X W) {c f : Nat} {m : Str} {p : Bool} {o : Expr} {xo : Ex} {es : List Expr} {xs : Exs} {apos cpos : Pos} (hb : baseB o = true) (hl : (apos.endLine == cpos.line) = true) (h29 : es.length < 29) (hm : mclB Y.toTxt c f m = true) (hs : okEs Y.toTxt X.N xs X.env.scope es = true)
    (ho : PEx Y k X W o xo) (h : PAx Y k X W es xs) : PEx Y k X W (.Call (.Attribute o m apos) es [] cpos) (.mcl c f m p xo xs) := by
  unfold mclB at hm
  split at hm
  · rename_i q fn hq hf
    obtain ⟨c1, _, _, _, c5⟩ := ok.facts.cl c q hq
    have M := c5 m f (List.contains_iff_mem.mp hm)
    have hs0 := okEs_no xs es hs
    have go : ∀ {t : TA}, PA X es t → (es = [] ∧ t = tNil ∨ ∃ e r, es = e :: r ∧ starEach (e :: r) X.env = (false, eval e X.env) :: starEach r X.env ∧ (backTo cpos (starEach r X.env)).any (·.1) = false) →
        (∀ σ H Q, tXs X.K Y.M W (evalEs (Y.Γ k) Y.T xs) σ H Q → t σ H Q) → PEx Y k X W (.Call (.Attribute o m apos) es [] cpos) (.mcl c f m p xo xs) := fun {t} hpa hst him => by
      refine (pe_methW (E := WE W) ho hb c1 M (ok.facts.ok f fn hf) (ok.room.mono (by omega)) (ok.facts.bd f fn hf) (fun σ => passAt ok.tk σ) hpa hl (form_ok h29 hs0) hst).imp fun σ H Q z => ?_
      simp only [tX, evalE] at z
      refine (tG_bind (Ra := rD X.K Y.M) z).imp ?_
      rintro v H1 ⟨G, Φ, μ, S, env, d, r, er, ra, res⟩
      try dsimp only at res
      split at res
      · rename_i hmt
        unfold mthD at hmt
        split at hmt
        · rename_i c' ns vs hi
          rw [Bool.and_eq_true, decide_eq_true_eq] at hmt
          obtain ⟨hc, hmt⟩ := hmt
          subst hc
          obtain ⟨a, dx, ys, rfl, h1, l, q⟩ := insD_ok r ra hi
          refine ⟨a, dx, _, rfl, h1, mth_no hmt, him _ _ _ ((tG_go (Ra := rDs X.K Y.M) r er res).imp ?_)⟩
          rintro u H2 ⟨G1, μ1, S1, d2, gr, r1, rb, res1⟩
          exact spI_of r1 (.cons (RD.up ra gr) rb) res1
        · cases hmt
      · exact res.elim
    cases es with
    | nil =>
      cases xs with
      | nil =>
        refine go (t := tNil) pa_nil (.inl ⟨rfl, rfl⟩) fun σ H Q z => ?_
        obtain ⟨G, Φ, μ, S, env, r, er, res⟩ := z
        rw [evalEs] at res
        exact res.now r .nil
      | cons _ _ => simp [okEs] at hs
    | cons e es =>
      have hs1 := hs0
      unfold allNo at hs1
      rw [Bool.and_eq_true] at hs1
      exact go h (.inr ⟨e, es, rfl, starEach_no hs1.1 _ _, backTo_no _ _ _ hs1.2⟩) fun σ H Q z => z
  · cases hm
/-- a new object -/
theorem new_obj {K : PySem.W.Frag} {M : Am} {G Φ : Hp} {μ : Mu} {S : Sto} {H : Hp} {c : Nat} {x dx : Addr} (r : Rel K M G Φ μ S H) (hx : H x = none) (hd : H dx = none) (hn : dx ≠ x) :
    Rel K M (upd G dx (.own x)) Φ (muAdd μ S.length x) (S ++ [.ins c [] []]) (upd (upd H dx (.own x)) x (.ins (M.cls c) dx [])) ∧ Gr Φ G μ (upd G dx (.own x)) (muAdd μ S.length x) := by
  obtain ⟨r1, g1⟩ := r.still (u := .own x) hd
  obtain ⟨r2, g2⟩ := r1.fresh (p := x) (u := .ins (M.cls c) dx []) (ob := .ins c [] []) (by rw [upd_ne (fun z => hn z.symm)]; exact hx) ⟨dx, [], rfl, .nil, upd_same⟩
  exact ⟨r2, g1.trans g2⟩
theorem mkR_ok {K : PySem.W.Frag} {W : WX} {σ : L2.St} {f c : Nat} {z : Bool} {G Φ : Hp} {μ : Mu} {S : Sto} {H : Hp} {Q : VK} {ds : List D} {vs : List V} {x dx : Addr} (r : Rel K Y.M G Φ μ S H) (q : RDs K Y.M G μ ds vs)
    (res : Res K Y.M W σ G Φ μ (mkR (Y.Γ k) f c z ds S) (rD K Y.M) Q) (hx : H x = none) (hd : H dx = none) (hn : dx ≠ x) :
    spI Y K k f (.ref x :: vs) (upd (upd H dx (.own x)) x (.ins (Y.M.cls c) dx [])) (fun v H2 => v = .non ∧ Q (.ref x) H2) (WE W σ) := by
  obtain ⟨r2, g2⟩ := new_obj (c := c) r hx hd hn
  have hm : muAdd μ S.length x S.length = some x := by unfold muAdd; rw [if_pos rfl]
  refine ⟨_, Φ, _, _, .ref S.length :: ds, r2, .cons (.ref hm) (RDs.up q g2), ?_⟩
  unfold mkR at res
  cases e : callK Y.F Y.T k f (.ref S.length :: ds) (S ++ [.ins c [] []]) with
  | none =>
    have e' : Y.Γ k f (.ref S.length :: ds) (S ++ [.ins c [] []]) = none := e
    rw [e'] at res; exact res.elim
  | some w =>
    have e' : Y.Γ k f (.ref S.length :: ds) (S ++ [.ins c [] []]) = some w := e
    rw [e'] at res
    cases w with
    | ex cc S1 => exact fun G' μ' H' g' r' => res G' μ' H' (g2.trans g') r'
    | ok d S1 =>
      intro G' μ' H' v g' r' qv
      rw [bnd_ok] at res
      cases d with
      | non =>
        cases qv
        refine ⟨rfl, ?_⟩
        have qr : RD K Y.M G' μ' (.ref S.length) (.ref x) := .ref (g'.m _ _ hm)
        cases z with
        | false => exact res G' μ' H' _ (g2.trans g') r' qr
        | true =>
          dsimp only at res
          cases hz : frz 9 (.ref S.length) S1 with
          | none => rw [hz] at res; exact res.elim
          | some w =>
            rw [hz] at res
            obtain ⟨G3, g3, r3, q3⟩ := frz_ok 9 _ _ _ _ _ _ r' qr hz
            exact res G3 μ' H' _ ((g2.trans g').trans g3) r3 q3
      | _ => exact res.elim
theorem spI_mk {f c : Nat} {m : Bool} {K : PySem.W.Frag} {σ : L2.St} {G Φ : Hp} {μ : Mu} {S : Sto} {H : Hp} {Q : VK} {ds : List D} {vs : List V} {x dx : Addr} (r : Rel K Y.M G Φ μ S H) (q : RDs K Y.M G μ ds vs) (res : Res K Y.M W σ G Φ μ (mkC (Y.Γ k) f c m ds S) (rD K Y.M) Q)
    (hx : H x = none) (hd : H dx = none) (hn : dx ≠ x) : spI Y K k f (.ref x :: vs) (upd (upd H dx (.own x)) x (.ins (Y.M.cls c) dx [])) (fun v H2 => v = .non ∧ Q (.ref x) H2) (WE W σ) := by
  cases m with
  | true => exact mkR_ok (z := false) r q res hx hd hn
  | false =>
    simp only [mkC] at res
    split at res
    · rename_i hp
      obtain ⟨Φ1, r1, res1⟩ := pure_call (W' := W) (σ' := σ) r (fun _ _ h => h) res
      exact mkR_ok r1 (RDs.pure _ _ q hp) res1 hx hd hn
    · exact res.elim
theorem s_mk (ok : XOk Y k X W) {c f : Nat} {m : Bool} {x : Str} {pn : Pos} {e : Expr} {es : List Expr} {xs : Exs} (hm : mkB Y.toTxt c f x = true) (hg : glB X.env.scope x = true) (hn : nmOk x = true) (hs : allNo (e :: es) = true)
    (h : PAx Y k X W (e :: es) xs) : PEx Y k X W (.Call (.Name x pn) (e :: es) [] pos) (.mk c f m xs) := by
  unfold mkB at hm
  split at hm
  · rename_i q fn hq hf
    rw [Bool.and_eq_true, decide_eq_true_eq, decide_eq_true_eq] at hm
    obtain ⟨rfl, rfl⟩ := hm
    obtain ⟨_, c2, c3, _, _⟩ := ok.facts.cl c q hq
    unfold allNo at hs
    rw [Bool.and_eq_true] at hs
    exact (pe_makeS (E := WE W) c3 (ok.facts.ok q.ini fn hf) ok.room (glB_ok hg) c2 (ok.facts.bd q.ini fn hf) (fun σ => passAt ok.tk σ) h (nmOk_1 hn) (starEach_no hs.1 _ _) (backTo_no _ _ _ hs.2)).imp fun σ H Q z => by
      simp only [tX, evalE] at z
      refine (tG_bind (Ra := rDs X.K Y.M) z).imp ?_
      rintro v H1 ⟨G, Φ, μ, S, env, d, r, er, ra, res⟩
      exact fun x dx hx hd hn => spI_mk r ra res hx hd hn
  · cases hm
/-- what a call has made, from now on standing still -/
theorem s_rev {m : Bool} {a : Expr} {xa : Ex} {k1 : Nat} {p1 p2 p3 : Pos} (ha : PEx Y k X W a xa) : PEx Y k X W (.Subscript a (.Slice none none (some (.UnaryOp .USub (.Constant (.int 1) k1 p1) p2)) p3) pos) (.rev m xa) :=
  (pe_revL ha).imp fun σ H Q z => by
    simp only [tX, evalE] at z
    refine (tG_bind (Ra := rD X.K Y.M) z).imp ?_
    rintro v H1 ⟨G, Φ, μ, S, env, d, r, er, ra, res⟩
    cases h : lstD S d with
    | none => rw [h] at res; exact res.elim
    | some xs =>
      rw [h] at res
      obtain ⟨p, ys, rfl, h1, h2⟩ := lstD_ok r ra h
      exact ⟨p, ys, rfl, SqL.of h1, res_mkL res r h2.reverse⟩
theorem s_fze {e : Expr} {x : Ex} (h : PEx Y k X W e x) : PEx Y k X W e (.fze x) := h.imp fun σ H Q z => by
  simp only [tX, evalE] at z
  refine (tG_bind (Ra := rD X.K Y.M) z).imp ?_
  rintro v H1 ⟨G, Φ, μ, S, env, d, r, er, ra, res⟩
  try dsimp only at res
  cases hz : frz 9 d S with
  | none => rw [hz] at res; exact res.elim
  | some w =>
    rw [hz] at res
    obtain ⟨G3, g3, r3, q3⟩ := frz_ok 9 _ _ _ _ _ _ r ra hz
    exact res G3 μ H1 v g3 r3 q3
theorem boot_bi : ∀ b : BI, bootBuiltins b.x = some b.v
  | .len => by decide +kernel
  | .int => by decide +kernel
  | .str => by decide +kernel
  | .tuple => by decide +kernel
  | .sum => by decide +kernel
  | .all => by decide +kernel
  | .max => by decide +kernel
  | .min => by decide +kernel
  | .abs => by decide +kernel
theorem bi_name (b : BI) : b.x ≠ ("__name__" : Str) ∧ (b.x == ("__debug__" : Str)) = false ∧ b.x ∈ bNames := by cases b <;> decide
theorem s_bi (ok : XOk Y k X W) {b : BI} {pn : Pos} {e : Expr} {es : List Expr} {xs : Exs} (hg : glB X.env.scope b.x = true) (hs : allNo (e :: es) = true)
    (h : PAx Y k X W (e :: es) xs) : PEx Y k X W (.Call (.Name b.x pn) (e :: es) [] pos) (.bi b xs) := by
  unfold allNo at hs
  rw [Bool.and_eq_true] at hs
  obtain ⟨n1, n2, n3⟩ := bi_name b
  have im : ∀ {t : TE}, PE X (.Call (.Name b.x pn) (e :: es) [] pos) t → (∀ σ H Q, tCB (uBi X.K b) (tXs X.K Y.M W (evalEs (Y.Γ k) Y.T xs)) σ H Q → t σ H Q) → PEx Y k X W (.Call (.Name b.x pn) (e :: es) [] pos) (.bi b xs) := fun h1 h2 =>
    h1.imp fun σ H Q z => h2 σ H Q (by
      simp only [tX, evalE] at z
      refine (tG_bind (Ra := rDs X.K Y.M) z).imp ?_
      rintro v H1 ⟨G, Φ, μ, S, env, d, r, er, ra, res⟩
      exact biD_ok r ra res)
  have hm := ok.facts.free _ n3
  have hb := boot_bi b
  have hc := call_uBi ok.calm b
  cases b with
  | len => exact im (pe_callB hc (glB_ok hg) hm hb h n1 n2 (starEach_no hs.1 _ _) (backTo_no _ _ _ hs.2)) fun _ _ _ z => z
  | sum => exact im (pe_callB hc (glB_ok hg) hm hb h n1 n2 (starEach_no hs.1 _ _) (backTo_no _ _ _ hs.2)) fun _ _ _ z => z
  | all => exact im (pe_callB hc (glB_ok hg) hm hb h n1 n2 (starEach_no hs.1 _ _) (backTo_no _ _ _ hs.2)) fun _ _ _ z => z
  | max => exact im (pe_callB hc (glB_ok hg) hm hb h n1 n2 (starEach_no hs.1 _ _) (backTo_no _ _ _ hs.2)) fun _ _ _ z => z
  | min => exact im (pe_callB hc (glB_ok hg) hm hb h n1 n2 (starEach_no hs.1 _ _) (backTo_no _ _ _ hs.2)) fun _ _ _ z => z
  | abs => exact im (pe_callB hc (glB_ok hg) hm hb h n1 n2 (starEach_no hs.1 _ _) (backTo_no _ _ _ hs.2)) fun _ _ _ z => z
  | int => exact im (pe_callTy hc (glB_ok hg) hm hb h n1 n2 (starEach_no hs.1 _ _) (backTo_no _ _ _ hs.2)) fun _ _ _ z => z
  | str => exact im (pe_callTy hc (glB_ok hg) hm hb h n1 n2 (starEach_no hs.1 _ _) (backTo_no _ _ _ hs.2)) fun _ _ _ z => z
  | tuple => exact im (pe_callTy hc (glB_ok hg) hm hb h n1 n2 (starEach_no hs.1 _ _) (backTo_no _ _ _ hs.2)) fun _ _ _ z => z
theorem boot_bf : ∀ b : BF, bootBuiltins b.x = some b.v
  | .list => by decide +kernel
  | .sorted => by decide +kernel
theorem bf_name (b : BF) : b.x ≠ ("__name__" : Str) ∧ (b.x == ("__debug__" : Str)) = false ∧ b.x ∈ bNames := by cases b <;> decide
theorem s_bf (ok : XOk Y k X W) {b : BF} {m : Bool} {pn : Pos} {e : Expr} {es : List Expr} {xs : Exs} (hg : glB X.env.scope b.x = true) (hs : allNo (e :: es) = true)
    (h : PAx Y k X W (e :: es) xs) : PEx Y k X W (.Call (.Name b.x pn) (e :: es) [] pos) (.bf b m xs) := by
  unfold allNo at hs
  rw [Bool.and_eq_true] at hs
  obtain ⟨n1, n2, n3⟩ := bf_name b
  have im : ∀ {t : TE}, PE X (.Call (.Name b.x pn) (e :: es) [] pos) t → (∀ σ H Q, tCB (uBf X.K b) (tXs X.K Y.M W (evalEs (Y.Γ k) Y.T xs)) σ H Q → t σ H Q) → PEx Y k X W (.Call (.Name b.x pn) (e :: es) [] pos) (.bf b m xs) := fun h1 h2 =>
    h1.imp fun σ H Q z => h2 σ H Q (by
      simp only [tX, evalE] at z
      refine (tG_bind (Ra := rDs X.K Y.M) z).imp ?_
      rintro v H1 ⟨G, Φ, μ, S, env, d, r, er, ra, res⟩
      exact bfD_ok r ra res)
  have hm := ok.facts.free _ n3
  have hb := boot_bf b
  have hc := call_uBf (X := X) ok.calm (by have := ok.room.un; omega) b
  cases b with
  | sorted => exact im (pe_callB hc (glB_ok hg) hm hb h n1 n2 (starEach_no hs.1 _ _) (backTo_no _ _ _ hs.2)) fun _ _ _ z => z
  | list => exact im (pe_callTy hc (glB_ok hg) hm hb h n1 n2 (starEach_no hs.1 _ _) (backTo_no _ _ _ hs.2)) fun _ _ _ z => z
theorem s_isi (ok : XOk Y k X W) {t : TyN} {pn py : Pos} {a : Expr} {xa : Ex} (hg : glB X.env.scope "isinstance" = true) (hg2 : glB X.env.scope (PySem.Str.ofString t.n) = true) (hs : noStar a = true) (ha : PEx Y k X W a xa) :
    PEx Y k X W (.Call (.Name "isinstance" pn) [a, .Name (PySem.Str.ofString t.n) py] [] pos) (.isi xa t) := by
  have hb : bootBuiltins (PySem.Str.ofString t.n) = some (.type t.n) := by cases t <;> decide +kernel
  have hnn : PySem.Str.ofString t.n ∈ bNames ∧ PySem.Str.ofString t.n ≠ ("__name__" : Str) ∧ (PySem.Str.ofString t.n == ("__debug__" : Str)) = false := by cases t <;> decide +kernel
  exact (pe_callB call_isi (glB_ok hg) (ok.facts.free _ (by decide)) (by decide +kernel) (pa_cons ha (pa_cons (pe_bltn (v := .ty t.n) (glB_ok hg2) (ok.facts.free _ hnn.1) hb rfl hnn.2.1 hnn.2.2) pa_nil rfl) (starEach_no hs _ _)) (by decide) (by decide) (starEach_no hs _ _) rfl).imp fun σ H Q z => by
    simp only [tX, evalE] at z
    refine (tG_bind (Ra := rD X.K Y.M) z).imp ?_
    rintro v H1 ⟨G, Φ, μ, S, env, d, r, er, ra, res⟩
    show rIsi X.K [v, .ty t.n] H1 Q
    cases e : isiD S d t with
    | none => rw [e] at res; exact res.elim
    | some c => rw [e] at res; exact isiD_ok r ra e (res.now r (.bl c))
theorem s_me (ok : XOk Y k X W) {b : ME} {apos cpos : Pos} {o e : Expr} {es : List Expr} {xo : Ex} {xs : Exs} (hb : baseB o = true) (hl : (apos.endLine == cpos.line) = true) (h29 : es.length < 29) (hs : allNo (e :: es) = true)
    (pa : PlainAttrs b.T) (slot : Slot b.T b.x b.id) (ty : typeOf (.builtin b.id) = pure (.type "method_descriptor")) (ho : PEx Y k X W o xo) (h : PAx Y k X W (e :: es) xs) : PEx Y k X W (.Call (.Attribute o b.x apos) (e :: es) [] cpos) (.me b xo xs) := by
  have hs' := hs
  unfold allNo at hs
  rw [Bool.and_eq_true] at hs
  refine (pe_bm' pa slot ty (mt_uMe (by have := ok.room.un; omega) b) ho h (attributeBase_no hb _ _ _) ?_ hl (starEach_no hs.1 _ _) (backTo_no _ _ _ hs.2)).imp fun σ H Q z => ?_
  · rw [backTo_all _ _ _ hs']
    simp only [List.length_cons, keywordEach, backToKw, List.map_nil, List.all_nil, List.length_nil, List.isEmpty_nil, if_true, Bool.true_and, Nat.add_zero, decide_eq_true_eq]
    omega
  · simp only [tX, evalE] at z
    refine (tG_bind (Ra := rD X.K Y.M) z).imp ?_
    rintro v H1 ⟨G, Φ, μ, S, env, d, r, er, ra, res⟩
    split at res
    · rename_i c
      refine ⟨tyM_ok r ra c, (tG_go (Ra := rDs X.K Y.M) r er res).imp ?_⟩
      rintro u H2 ⟨G1, μ1, S1, d2, gr, r1, rb, res1⟩
      exact meD_ok r1 (RD.up ra gr) rb res1
    · exact res.elim
def tBM0' (K : PySem.W.Frag) (T : String) (r : V → List V → Hp → VK → Prop) (to : TE) : TE := fun σ H Q => to σ H fun x H1 => tyV' K T x H1 ∧ r x [] H1 Q
theorem pe_bm0' {o : Expr} {to : TE} {name : Str} {apos cpos : Pos} {T id : String} {r : V → List V → Hp → VK → Prop} (pa : PlainAttrs T) (slot : Slot T name id) (hty : typeOf (.builtin id) = pure (.type "method_descriptor")) (hm : MtR X id r) (ho : PE X o to)
    (hbase : attributeBase o name X.env (eval o X.env) = eval o X.env) (hline : (apos.endLine == cpos.line) = true) : PE X (.Call (.Attribute o name apos) [] [] cpos) (tBM0' X.K T r to) := by
  refine ⟨fun pins s σ H Q I h => ?_⟩
  refine wpAny_Call_method0_late hbase hline (thn (ho.run pins s σ H _ I h) fun v s1 ⟨x, H1, I1, r1, ty, q1⟩ => ?_)
  obtain ⟨h1, h2⟩ := tyV'_is I1 r1 ty
  exact ⟨T, id, pa, slot, hty, h1, h2, Calls.callWith_builtin rfl (PySem.evalArgs_none (hm pins s1 σ H1 x [] v [] Q I1 r1 .nil q1))⟩
theorem s_me0 (ok : XOk Y k X W) {b : ME} {apos cpos : Pos} {o : Expr} {xo : Ex} (hb : baseB o = true) (hl : (apos.endLine == cpos.line) = true)
    (pa : PlainAttrs b.T) (slot : Slot b.T b.x b.id) (ty : typeOf (.builtin b.id) = pure (.type "method_descriptor")) (ho : PEx Y k X W o xo) : PEx Y k X W (.Call (.Attribute o b.x apos) [] [] cpos) (.me b xo .nil) := by
  refine (pe_bm0' pa slot ty (mt_uMe (by have := ok.room.un; omega) b) ho (attributeBase_no hb _ _ _) hl).imp fun σ H Q z => ?_
  simp only [tX, evalE] at z
  refine (tG_bind (Ra := rD X.K Y.M) z).imp ?_
  rintro v H1 ⟨G, Φ, μ, S, env, d, r, er, ra, res⟩
  split at res
  · rename_i c
    refine ⟨tyM_ok r ra c, ?_⟩
    simp only [evalEs, bnd_ok] at res
    exact meD_ok r ra .nil res
  · exact res.elim
theorem s_mf (ok : XOk Y k X W) {b : MF} {m : Bool} {apos cpos : Pos} {o e : Expr} {es : List Expr} {xo : Ex} {xs : Exs} (hb : baseB o = true) (hl : (apos.endLine == cpos.line) = true) (h29 : es.length < 29) (hs : allNo (e :: es) = true)
    (pa : PlainAttrs b.T) (slot : Slot b.T b.x b.id) (ty : typeOf (.builtin b.id) = pure (.type "method_descriptor")) (ho : PEx Y k X W o xo) (h : PAx Y k X W (e :: es) xs) : PEx Y k X W (.Call (.Attribute o b.x apos) (e :: es) [] cpos) (.mf b m xo xs) := by
  have hs' := hs
  unfold allNo at hs
  rw [Bool.and_eq_true] at hs
  refine (pe_bm pa slot ty (mt_uMf b) ho h (attributeBase_no hb _ _ _) ?_ hl (starEach_no hs.1 _ _) (backTo_no _ _ _ hs.2)).imp fun σ H Q z => ?_
  · rw [backTo_all _ _ _ hs']
    simp only [List.length_cons, keywordEach, backToKw, List.map_nil, List.all_nil, List.length_nil, List.isEmpty_nil, if_true, Bool.true_and, Nat.add_zero, decide_eq_true_eq]
    omega
  · simp only [tX, evalE] at z
    refine (tG_bind (Ra := rD X.K Y.M) z).imp ?_
    rintro v H1 ⟨G, Φ, μ, S, env, d, r, er, ra, res⟩
    split at res
    · rename_i c
      refine ⟨tyF_ok ra c, (tG_go (Ra := rDs X.K Y.M) r er res).imp ?_⟩
      rintro u H2 ⟨G1, μ1, S1, d2, gr, r1, rb, res1⟩
      exact mfD_ok r1 (RD.up ra gr) rb res1
    · exact res.elim
theorem s_lens (ok : XOk Y k X W) {p1 p2 p3 : Pos} {a : Expr} {xa : Ex} (g1 : glB X.env.scope "len" = true) (g2 : glB X.env.scope "set" = true) (hs : noStar a = true) (ha : PEx Y k X W a xa) :
    PEx Y k X W (.Call (.Name "len" p1) [.Call (.Name "set" p2) [a] [] p3] [] pos) (.lens xa) :=
  (pe_lens ok.calm (glB_ok g1) (ok.facts.free _ (by decide)) (glB_ok g2) (ok.facts.free _ (by decide)) ha (starEach_no hs _ _)).imp fun σ H Q z => by
    simp only [tX, evalE] at z
    refine (tG_bind (Ra := rD X.K Y.M) z).imp ?_
    rintro v H1 ⟨G, Φ, μ, S, env, d, r, er, ra, res⟩
    cases hs : (lstD S d).bind asInts with
    | none => simp only [hs] at res; exact res.elim
    | some ns =>
      simp only [hs] at res
      split at res
      · rename_i c
        obtain ⟨b, rfl, h1⟩ := lstInts_ok r ra hs
        exact ⟨b, ns, rfl, h1, c, res.now r (.int _)⟩
      · exact res.elim
/-- a value's test -/
theorem t_of {e : Expr} {x : Ex} (h : PEx Y k X W e x) (he : ∀ whole, PySem.isTrue e X.env whole = (do let v ← whole; standAt e.pos; holding [v] (truthy v)))
    (ht : ∀ env S, evalT (Y.Γ k) Y.T x env S = bnd (evalE (Y.Γ k) Y.T x env S) fun d S1 => okO (truD S1 d) S1) : PTx Y k X W e x :=
  (pt_truth h he).imp fun σ H Q z => by
    simp only [tXt, show evalT (Y.Γ k) Y.T x = (fun env S => bnd (evalE (Y.Γ k) Y.T x env S) fun d S1 => okO (truD S1 d) S1) from funext fun env => funext fun S => ht env S] at z
    refine (tG_bind (Ra := rD X.K Y.M) z).imp ?_
    rintro v H1 ⟨G, Φ, μ, S, env, d, r, er, ra, res⟩
    cases e : truD S d with
    | none => rw [e] at res; exact res.elim
    | some c => rw [e] at res; exact ⟨c, truD_ok r ra e, res.now r rfl⟩
theorem t_none {e : Expr} {x : Ex} (ht : ∀ env S, evalT (Y.Γ k) Y.T x env S = none) : PTx Y k X W e x :=
  ⟨fun pins s σ H Q I z => by
    obtain ⟨G, Φ, μ, S, env, r, er, res⟩ := z
    rw [ht] at res
    exact res.elim⟩
end
end Ip
/-! ## Comprehensions, iterables; soundness of all expressions -/
namespace Ip
open PySem PySem.Spec PyProof.Rows L2

theorem wipeE_rel {K : PySem.W.Frag} {M : Am} {G : Hp} {μ : Mu} {env : En} {σ : L2.St} (er : EnR K M G μ env σ) : ∀ vs : List Nat, EnR K M G μ (wipeE env vs) (wipe σ vs)
  | [] => er
  | v :: vs => by
    rw [wipeE, wipe]
    exact (wipeE_rel er vs).unset
theorem wipe_idem {σ σ2 : L2.St} : ∀ vs : List Nat, σ2.length = σ.length → (∀ j, j ∉ vs → σ2[j]? = σ[j]?) → wipe σ2 vs = wipe σ vs := by
  intro vs hl hf
  apply List.ext_getElem?
  intro i
  by_cases hi : i ∈ vs
  · have key : ∀ (τ : L2.St) (vs : List Nat), i ∈ vs → i < τ.length → (wipe τ vs)[i]? = some none := fun τ vs hm hlt => by
      induction vs with
      | nil => cases hm
      | cons v vs ih =>
        rw [wipe]
        by_cases h : v = i
        · subst h; exact List.getElem?_set_self (by rw [wipe_length]; exact hlt)
        · rw [List.getElem?_set_ne h]
          exact ih (by rcases List.mem_cons.mp hm with e | e; exact absurd e.symm h; exact e)
    by_cases hlt : i < σ.length
    · rw [key σ2 vs hi (by omega), key σ vs hi hlt]
    · rw [List.getElem?_eq_none (by rw [wipe_length]; omega), List.getElem?_eq_none (by rw [wipe_length]; omega)]
  · rw [wipe_out hi, wipe_out hi]
    exact hf i hi
section
variable {Y : Sys} {k : Nat} {X : Cx} {W : WX} {pos : Pos}
abbrev Wno : WX := fun _ _ _ _ => False
theorem XOk.blk (ok : XOk Y k X W) (s : Shared) (H : Hp) (scope : Scope) (cenv : Env) (fp : List Addr) (hk : cenv.scope.kind = .function) : XOk Y k (X.blk s H scope cenv fp) Wno :=
  ⟨ok.calm, hk, ok.nd, ok.room, takes0, PassesOwn.never, ok.facts⟩
/-- one turn of a comprehension -/
noncomputable def lcTurn (Γ : Gam) (T : Tab) (tg : Tg) (cond : Oe) (e : Ex) (vs : List Nat) (env : En) (x : D) (S : Sto) : Option (Ro (Option D)) := match asgT tg x (wipeE env vs) with
  | some env1 => bnd (evalC Γ T cond env1 S) fun b S2 => match b with
    | true => bnd (evalE Γ T e env1 S2) fun y S3 => some (.ok (some y) S3)
    | false => some (.ok none S2)
  | none => none
theorem lcLoop_cons {turn : D → Sto → Option (Ro (Option D))} {x : D} {xs : List D} {S : Sto} {acc : List D} (h : ∃ ys S', lcLoop turn (x :: xs) S acc = some (.ok ys S')) :
    (∃ y S1, turn x S = some (.ok (some y) S1) ∧ lcLoop turn (x :: xs) S acc = lcLoop turn xs S1 (acc ++ [y])) ∨ ∃ S1, turn x S = some (.ok none S1) ∧ lcLoop turn (x :: xs) S acc = lcLoop turn xs S1 acc := by
  obtain ⟨ys, S', h⟩ := h
  rw [lcLoop] at h ⊢
  cases e : turn x S with
  | none => rw [e] at h; cases h
  | some z =>
    rw [e] at h
    cases z with
    | ex c S => cases h
    | ok o S1 =>
      cases o with
      | some y => exact .inl ⟨y, S1, rfl, rfl⟩
      | none => exact .inr ⟨S1, rfl, rfl⟩
theorem lcLoop_noex {turn : D → Sto → Option (Ro (Option D))} : ∀ (xs : List D) (S : Sto) (acc : List D) (c : Nat) (S' : Sto), lcLoop turn xs S acc ≠ some (.ex c S')
  | [], _, _, _, _ => fun h => by rw [lcLoop] at h; cases h
  | x :: xs, S, acc, c, S' => fun h => by
    rw [lcLoop] at h
    split at h
    · exact lcLoop_noex xs _ _ c S' h
    · exact lcLoop_noex xs _ _ c S' h
    · cases h
/-- J walks just these items, while Φ is the frame -/
def WalksF (K : PySem.W.Frag) (M : Am) (J : It) (G Φ : Hp) (μ : Mu) (xs : List D) : Prop :=
  ∀ G1 μ1 S1 H1, (∀ a u, G a = some u → G1 a = some u) → (∀ n a, μ n = some a → μ1 n = some a) → Rel K M G1 Φ μ1 S1 H1 → ∀ i,
    (i < xs.length → J.go i H1) ∧ (xs.length ≤ i → J.stop i H1) ∧ ∀ d v H2, xs[i]? = some d → J.yld i H1 v H2 → ∃ G2, Gr Φ G1 μ1 G2 μ1 ∧ Rel K M G2 Φ μ1 S1 H2 ∧ RD K M G2 μ1 d v
/-- the turns of a comprehension -/
theorem lc_turns (ok : XOk Y k X W) {own : List (Str × Nat)} {m : Bool} {tg : Tg} {cond : Oe} {x : Ex} {σ : L2.St} {H1 : Hp} {Q : VK} {J : It} {G Φ : Hp} {μ : Mu} {S : Sto} {env : En} {xs : List D} (hsl : (tg.slots.all fun i => (own.map (·.2)).contains i) = true)
    (wk : ∀ p accV, H1 p = none → WalksF X.K Y.M J G (upd Φ p (.lst accV)) μ xs) (r : Rel X.K Y.M G Φ μ S H1) (er : EnR X.K Y.M G μ env σ) (hz : xs.length ≤ sizeLine)
    (res : Res X.K Y.M W σ G Φ μ (bnd (lcLoop (lcTurn (Y.Γ k) Y.T tg cond x (own.map (·.2)) env) xs S []) fun ys S2 => mkL m ys S2) (rD X.K Y.M) Q) (p : Addr) (hp : H1 p = none) :
    ∃ Wf : Nat → Nat → Hp → Prop, (∃ m, Wf 0 m (upd H1 p (.lst []))) ∧ ∀ i m H, Wf i m H →
      (J.stop i H ∧ Q (.ref p) H) ∨ (J.go i H ∧ ∃ Nx : Hp → Prop, (∀ H', Nx H' → ∃ m', m' < m ∧ Wf (i + 1) m' H') ∧ ∀ v H', J.yld i H v H' → (gT X.K tg) v (wipe σ (own.map (·.2))) H' fun σ2 H2 => wipe σ2 (own.map (·.2)) = wipe σ (own.map (·.2)) ∧ (tXt X.K Y.M Wno (evalC (Y.Γ k) Y.T cond)) σ2 H2 fun b H3 =>
        if b = true then (tX X.K Y.M Wno (evalE (Y.Γ k) Y.T x)) σ2 H3 fun y H4 => ∃ acc, H4 p = some (.lst acc) ∧ acc.length < sizeLine ∧ Nx (upd H4 p (.lst (acc ++ [y]))) else Nx H3) := by
  generalize ht : lcTurn (Y.Γ k) Y.T tg cond x (own.map (·.2)) env = turn at res
  have tot : ∃ ys S', lcLoop turn xs S [] = some (.ok ys S') := by
    cases e : lcLoop turn xs S [] with
    | none => rw [e] at res; exact res.elim
    | some z =>
      cases z with
      | ok ys S' => exact ⟨ys, S', rfl⟩
      | ex c S' => exact absurd e (lcLoop_noex xs S [] c S')
  have hg := r.gnew hp
  have hf := r.fnew hp
  refine ⟨fun i m' H => m' = xs.length - i ∧ i ≤ xs.length ∧ ∃ G' μ' S' acc accV, Gr Φ G μ G' μ' ∧ G' p = none ∧ Rel X.K Y.M G' (upd Φ p (.lst accV)) μ' S' H ∧ RDs X.K Y.M G' μ' acc accV ∧ acc.length ≤ i ∧ lcLoop turn (xs.drop i) S' acc = lcLoop turn xs S [],
    ⟨xs.length, by omega, by omega, G, μ, S, [], [], .refl, hg, r.frame hp, .nil, by simp, rfl⟩, ?_⟩
  rintro i m' H2 ⟨rfl, hle, G', μ', S', acc, accV, g', hg', r', qa, hal, hlo⟩
  obtain ⟨w1, w2, w3⟩ := wk p accV hp G' μ' S' H2 g'.g g'.m r' i
  by_cases hi : i < xs.length
  · refine .inr ⟨w1 hi, fun H' => ∃ m'', m'' < xs.length - i ∧ _, fun H' h => h, ?_⟩
    intro v H3 hy
    have hd : xs[i]? = some xs[i] := List.getElem?_eq_getElem hi
    obtain ⟨G2, g2, r2, q2⟩ := w3 _ v H3 hd hy
    have hdrop : xs.drop i = xs[i] :: xs.drop (i + 1) := (List.drop_eq_getElem_cons hi)
    rw [hdrop] at hlo
    have tot' : ∃ ys S'', lcLoop turn (xs[i] :: xs.drop (i + 1)) S' acc = some (.ok ys S'') := by rw [hlo]; exact tot
    have hst := lcLoop_cons tot'
    have hturn : turn xs[i] S' = lcTurn (Y.Γ k) Y.T tg cond x (own.map (·.2)) env xs[i] S' := by rw [← ht]
    cases ha : asgT tg xs[i] (wipeE env (own.map (·.2))) with
    | none =>
      have : turn xs[i] S' = none := by rw [hturn, lcTurn, ha]
      rw [this] at hst
      rcases hst with ⟨_, _, e, _⟩ | ⟨_, e, _⟩ <;> cases e
    | some env1 =>
      have hturn2 : turn xs[i] S' = bnd (evalC (Y.Γ k) Y.T cond env1 S') fun b S2 => match b with
          | true => bnd (evalE (Y.Γ k) Y.T x env1 S2) fun y S3 => some (.ok (some y) S3)
          | false => some (.ok none S2) := by rw [hturn, lcTurn, ha]
      refine gT_ok r2 tg _ v _ env1 _ _ q2 (wipeE_rel ((er.grow g').grow g2) _) ha fun σ2 e2 l2 f2 => ⟨?_, ?_⟩
      · have : wipe σ2 (own.map (·.2)) = wipe (wipe σ (own.map (·.2))) (own.map (·.2)) := wipe_idem _ l2 fun j hj => f2 j fun hm => by
          have := List.all_eq_true.mp hsl j hm
          exact hj (by simpa using this)
        rw [this]
        exact wipe_idem _ (wipe_length _ _) fun j hj => wipe_out hj
      · refine ⟨G2, upd Φ p (.lst accV), μ', S', env1, r2, e2, ?_⟩
        cases hcv : evalC (Y.Γ k) Y.T cond env1 S' with
        | none => rw [hturn2, hcv] at hst; rcases hst with ⟨_, _, e, _⟩ | ⟨_, e, _⟩ <;> cases e
        | some z1 =>
          cases z1 with
          | ex c S1 => rw [hturn2, hcv] at hst; rcases hst with ⟨_, _, e, _⟩ | ⟨_, e, _⟩ <;> cases e
          | ok b S1 =>
            intro G3 μ3 H4 b' g3 r3 hbb
            have hbb : b = b' := hbb
            subst hbb
            rw [hturn2, hcv, bnd_ok] at hst
            cases b with
            | false =>
              rw [if_neg (by decide)]
              rcases hst with ⟨_, _, e, _⟩ | ⟨S5, e, hl⟩
              · cases e
              · cases e
                refine ⟨xs.length - (i + 1), by omega, rfl, by omega, G3, μ3, S1, acc, accV, (g'.trans g2.of_upd).trans g3.of_upd, g3.gnone (g2.gnone hg'), r3, (qa.up g2).up g3, by omega, ?_⟩
                rw [← hl]; exact hlo
            | true =>
              rw [if_pos rfl]
              refine ⟨G3, upd Φ p (.lst accV), μ3, S1, env1, r3, e2.grow g3, ?_⟩
              dsimp only at hst
              cases hev : evalE (Y.Γ k) Y.T x env1 S1 with
              | none => rw [hev] at hst; rcases hst with ⟨_, _, e, _⟩ | ⟨_, e, _⟩ <;> cases e
              | some z2 =>
                cases z2 with
                | ex c S2 => rw [hev] at hst; rcases hst with ⟨_, _, e, _⟩ | ⟨_, e, _⟩ <;> cases e
                | ok y S2 =>
                  intro G4 μ4 H5 u g4 r4 qu
                  rw [hev, bnd_ok] at hst
                  rcases hst with ⟨y', S5, e, hl⟩ | ⟨_, e, _⟩
                  · cases e
                    have hal' : accV.length = acc.length := qa.length.symm
                    refine ⟨accV, r4.f _ _ upd_same, by omega, xs.length - (i + 1), by omega, rfl, by omega, G4, μ4, S2, acc ++ [y], accV ++ [u], ((g'.trans g2.of_upd).trans g3.of_upd).trans g4.of_upd, g4.gnone (g3.gnone (g2.gnone hg')), r4.reframe (g4.gnone (g3.gnone (g2.gnone hg'))), (((qa.up g2).up g3).up g4).append (.cons qu .nil), by simp; omega, ?_⟩
                    rw [← hl]; exact hlo
                  · cases e
  · have hi' : i = xs.length := by omega
    refine .inl ⟨w2 (by omega), ?_⟩
    rw [hi', List.drop_length, lcLoop] at hlo
    rw [← hlo, bnd_ok] at res
    cases m with
    | false =>
      obtain ⟨r3, g3⟩ := r'.toStill hg' hf
      exact res _ _ _ _ (g'.trans g3) r3 (.lst upd_same (qa.up g3))
    | true =>
      obtain ⟨r3, g3⟩ := r'.toStore (ob := .lst acc) hg' hf ⟨accV, r'.f _ _ upd_same, qa.up (Gr.mk (fun _ _ h => h) (fun _ _ h => h) (fun n a e => by
        unfold muAdd; rw [if_neg (fun z => by have := r'.ub n a e; omega)]; exact e) : Gr Φ G' μ' G' (muAdd μ' S'.length p))⟩
      exact res _ _ _ _ (g'.trans g3) r3 (.ref (by unfold muAdd; rw [if_pos rfl]))
/-- a comprehension's reading, from what the function gives -/
theorem lc_reads (ok : XOk Y k X W) {scope : Scope} {own : List (Str × Nat)} {m : Bool} {tg : Tg} {it : Itr} {cond : Oe} {x : Ex} {tgt : Expr} {σ : L2.St} {H : Hp} {Q : VK} (hb : blkC X.N X.env.scope scope own = true)
    (hT : okT X.N (fun x => scope.names.lookup x == some .cell) tg (relS scope X.env.scope) tgt = true) (hsl : (tg.slots.all fun i => (own.map (·.2)).contains i) = true)
    (z : tX X.K Y.M W (evalE (Y.Γ k) Y.T (.lc m own tg it cond x)) σ H Q) :
    tLc (tG X.K Y.M W (rW X.K Y.M) (evalI (Y.Γ k) Y.T it)) (gT X.K tg) (tXt X.K Y.M Wno (evalC (Y.Γ k) Y.T cond)) (tX X.K Y.M Wno (evalE (Y.Γ k) Y.T x)) (own.map (·.2)) σ H Q := by
  have ze : tX X.K Y.M W (evalE (Y.Γ k) Y.T (.lc m own tg it cond x)) σ H Q = tG X.K Y.M W (rD X.K Y.M) (fun env S => bnd (evalI (Y.Γ k) Y.T it env S) fun xs S1 => if xs.length ≤ sizeLine then bnd (lcLoop (lcTurn (Y.Γ k) Y.T tg cond x (own.map (·.2)) env) xs S1 []) fun ys S2 => mkL m ys S2 else none) σ H Q := by
    rfl
  rw [ze] at z
  refine (tG_bind (Ra := rW X.K Y.M) z).imp ?_
  rintro J H1 ⟨G, Φ, μ, S, env, xs, r, er, wk, res⟩ p hp
  have wk : Walks X.K Y.M J G μ xs := wk
  split at res
  · rename_i hz
    exact lc_turns ok hsl (fun p accV hp G1 μ1 S1 H1 g m r i => wk G1 (upd Φ p (.lst accV)) μ1 S1 H1 g m r i) r er hz res p hp
  · exact res.elim
theorem s_lc (ok : XOk Y k X W) {elt tgt iter : Expr} {ifs : List Expr} {scope : Scope} {own : List (Str × Nat)} {m : Bool} {tg : Tg} {it : Itr} {cond : Oe} {x : Ex} (hb : blkC X.N X.env.scope scope own = true) (hs : notSet iter = true)
    (hi : PIx Y k X W tgt iter it) (hT : okT X.N (fun x => scope.names.lookup x == some .cell) tg (relS scope X.env.scope) tgt = true) (hsl : (tg.slots.all fun i => (own.map (·.2)).contains i) = true)
    (hc : ∀ (s : Shared) (H : Hp) (C : Addr) (cl : List (Str × Addr)) (fp : List Addr), PCx Y k (X.blk s H scope (compEnvC scope cl C X.env) fp) Wno ifs cond)
    (he : ∀ (s : Shared) (H : Hp) (C : Addr) (cl : List (Str × Addr)) (fp : List Addr), PEx Y k (X.blk s H scope (compEnvC scope cl C X.env) fp) Wno elt x) :
    PEx Y k X W (.ListComp elt [⟨tgt, iter, ifs, 0⟩] scope pos) (.lc m own tg it cond x) := by
  exact (pe_lc (own := own) (g := gT X.K tg) (tt := tXt X.K Y.M Wno (evalC (Y.Γ k) Y.T cond)) (te := tX X.K Y.M Wno (evalE (Y.Γ k) Y.T x)) ok.calm ok.nd hi (blkOk_by hb) (fun s H C cl fp => sndT (X := X.blk s H scope (compEnvC scope cl C X.env) fp) (fun _ h => h) ok.calm ok.nd tg tgt hT) hc he (folded_no hs _)).imp fun σ H Q z => lc_reads ok hb hT hsl z
/-! ### comprehensions with two fors -/
noncomputable def lc2Turn (Γ : Gam) (T : Tab) (tg : Tg) (cond : Oe) (vs : List Nat) (tg1 : Tg) (it1 : Itr) (cond1 : Oe) (e : Ex) (vs1 : List Nat) (env : En) (x : D) (S : Sto) (acc : List D) : Option (Ro (List D)) := match asgT tg x (wipeE env vs) with
  | some env1 => bnd (evalC Γ T cond env1 S) fun b S2 => match b with
    | true => bnd (evalI Γ T it1 env1 S2) fun ys S3 => if acc.length + ys.length ≤ sizeLine then lcLoop (lcTurn Γ T tg1 cond1 e vs1 env1) ys S3 acc else none
    | false => some (.ok acc S2)
  | none => none
theorem lcLoop2_cons {turn : D → Sto → List D → Option (Ro (List D))} {x : D} {xs : List D} {S : Sto} {acc : List D} (h : ∃ ys S', lcLoop2 turn (x :: xs) S acc = some (.ok ys S')) :
    ∃ a S1, turn x S acc = some (.ok a S1) ∧ lcLoop2 turn (x :: xs) S acc = lcLoop2 turn xs S1 a := by
  obtain ⟨ys, S', h⟩ := h
  rw [lcLoop2] at h ⊢
  cases e : turn x S acc with
  | none => rw [e] at h; cases h
  | some z =>
    rw [e] at h
    cases z with
    | ex c S => cases h
    | ok a S1 => exact ⟨a, S1, rfl, rfl⟩
theorem lcLoop2_noex {turn : D → Sto → List D → Option (Ro (List D))} : ∀ (xs : List D) (S : Sto) (acc : List D) (c : Nat) (S' : Sto), lcLoop2 turn xs S acc ≠ some (.ex c S')
  | [], _, _, _, _ => fun h => by rw [lcLoop2] at h; cases h
  | x :: xs, S, acc, c, S' => fun h => by
    rw [lcLoop2] at h
    split at h
    · exact lcLoop2_noex xs _ _ c S' h
    · cases h
theorem wipe_turn {σ σ2 : L2.St} {vs : List Nat} {sl : List Nat} (hsl : (sl.all fun i => vs.contains i) = true) (l2 : σ2.length = (wipe σ vs).length) (f2 : ∀ j, j ∉ sl → σ2[j]? = (wipe σ vs)[j]?) : wipe σ2 vs = wipe σ vs := by
  have : wipe σ2 vs = wipe (wipe σ vs) vs := wipe_idem _ l2 fun j hj => f2 j fun hm => by
    have := List.all_eq_true.mp hsl j hm
    exact hj (by simpa using this)
  rw [this]
  exact wipe_idem _ (wipe_length _ _) fun j hj => wipe_out hj
theorem lc2_reads (ok : XOk Y k X W) {scope : Scope} {own : List (Str × Nat)} {m : Bool} {tg tg1 : Tg} {it it1 : Itr} {cond cond1 : Oe} {x : Ex} {tgt tgt1 : Expr} {vs1 : List Nat} {σ : L2.St} {H : Hp} {Q : VK}
    (hsl : (tg.slots.all fun i => (own.map (·.2)).contains i) = true) (hsl1 : (tg1.slots.all fun i => vs1.contains i) = true)
    (z : tX X.K Y.M W (evalE (Y.Γ k) Y.T (.lc2 m own tg it cond vs1 tg1 it1 cond1 x)) σ H Q) :
    tLc2 (tG X.K Y.M W (rW X.K Y.M) (evalI (Y.Γ k) Y.T it)) (gT X.K tg) (tXt X.K Y.M Wno (evalC (Y.Γ k) Y.T cond)) (tG X.K Y.M Wno (rW X.K Y.M) (evalI (Y.Γ k) Y.T it1)) (gT X.K tg1) (tXt X.K Y.M Wno (evalC (Y.Γ k) Y.T cond1)) (tX X.K Y.M Wno (evalE (Y.Γ k) Y.T x)) (own.map (·.2)) vs1 σ H Q := by
  have ze : tX X.K Y.M W (evalE (Y.Γ k) Y.T (.lc2 m own tg it cond vs1 tg1 it1 cond1 x)) σ H Q = tG X.K Y.M W (rD X.K Y.M) (fun env S => bnd (evalI (Y.Γ k) Y.T it env S) fun xs S1 => bnd (lcLoop2 (lc2Turn (Y.Γ k) Y.T tg cond (own.map (·.2)) tg1 it1 cond1 x vs1 env) xs S1 []) fun ys S2 => mkL m ys S2) σ H Q := by
    rfl
  rw [ze] at z
  refine (tG_bind (Ra := rW X.K Y.M) z).imp ?_
  rintro J H1 ⟨G, Φ, μ, S, env, xs, r, er, wk, res⟩ p hp
  have wk : Walks X.K Y.M J G μ xs := wk
  generalize ht : lc2Turn (Y.Γ k) Y.T tg cond (own.map (·.2)) tg1 it1 cond1 x vs1 env = turn at res
  have tot : ∃ ys S', lcLoop2 turn xs S [] = some (.ok ys S') := by
    cases e : lcLoop2 turn xs S [] with
    | none => rw [e] at res; exact res.elim
    | some z =>
      cases z with
      | ok ys S' => exact ⟨ys, S', rfl⟩
      | ex c S' => exact absurd e (lcLoop2_noex xs S [] c S')
  have hg := r.gnew hp
  have hf := r.fnew hp
  refine ⟨fun i m' H => m' = xs.length - i ∧ i ≤ xs.length ∧ ∃ G' μ' S' acc accV, Gr Φ G μ G' μ' ∧ G' p = none ∧ Rel X.K Y.M G' (upd Φ p (.lst accV)) μ' S' H ∧ RDs X.K Y.M G' μ' acc accV ∧ lcLoop2 turn (xs.drop i) S' acc = lcLoop2 turn xs S [],
    ⟨xs.length, by omega, by omega, G, μ, S, [], [], .refl, hg, r.frame hp, .nil, rfl⟩, ?_⟩
  rintro i m' H2 ⟨rfl, hle, G', μ', S', acc, accV, g', hg', r', qa, hlo⟩
  obtain ⟨w1, w2, w3⟩ := wk G' (upd Φ p (.lst accV)) μ' S' H2 g'.g g'.m r' i
  by_cases hi : i < xs.length
  · refine .inr ⟨w1 hi, fun H' => ∃ m'', m'' < xs.length - i ∧ _, fun H' h => h, ?_⟩
    intro v H3 hy
    have hd : xs[i]? = some xs[i] := List.getElem?_eq_getElem hi
    obtain ⟨G2, g2, r2, q2⟩ := w3 _ v H3 hd hy
    have hdrop : xs.drop i = xs[i] :: xs.drop (i + 1) := (List.drop_eq_getElem_cons hi)
    rw [hdrop] at hlo
    have tot' : ∃ ys S'', lcLoop2 turn (xs[i] :: xs.drop (i + 1)) S' acc = some (.ok ys S'') := by rw [hlo]; exact tot
    obtain ⟨a, S9, hst, hl9⟩ := lcLoop2_cons tot'
    rw [← ht] at hst
    unfold lc2Turn at hst
    cases ha : asgT tg xs[i] (wipeE env (own.map (·.2))) with
    | none => rw [ha] at hst; cases hst
    | some env1 =>
      rw [ha] at hst
      dsimp only at hst
      refine gT_ok r2 tg _ v _ env1 _ _ q2 (wipeE_rel ((er.grow g').grow g2) _) ha fun σ2 e2 l2 f2 => ⟨wipe_turn hsl l2 f2, ?_⟩
      refine ⟨G2, upd Φ p (.lst accV), μ', S', env1, r2, e2, ?_⟩
      cases hcv : evalC (Y.Γ k) Y.T cond env1 S' with
      | none => rw [hcv] at hst; cases hst
      | some z1 =>
        cases z1 with
        | ex c S1 => rw [hcv] at hst; cases hst
        | ok b S1 =>
          intro G3 μ3 H4 b' g3 r3 hbb
          have hbb : b = b' := hbb
          subst hbb
          rw [hcv, bnd_ok] at hst
          cases b with
          | false =>
            rw [if_neg (by decide)]
            cases hst
            refine ⟨xs.length - (i + 1), by omega, rfl, by omega, G3, μ3, _, _, accV, (g'.trans g2.of_upd).trans g3.of_upd, g3.gnone (g2.gnone hg'), r3, (qa.up g2).up g3, ?_⟩
            rw [← hl9]; exact hlo
          | true =>
            rw [if_pos rfl]
            dsimp only at hst
            refine ⟨G3, upd Φ p (.lst accV), μ3, S1, env1, r3, e2.grow g3, ?_⟩
            cases hev : evalI (Y.Γ k) Y.T it1 env1 S1 with
            | none => rw [hev] at hst; cases hst
            | some z2 =>
              cases z2 with
              | ex c S2 => rw [hev] at hst; cases hst
              | ok ys S2 =>
                intro G4 μ4 H5 J1 g4 r4 wk1
                have wk1 : Walks X.K Y.M J1 G4 μ4 ys := wk1
                rw [hev, bnd_ok] at hst
                split at hst
                · rename_i hz
                  have gA : Gr Φ G μ G4 μ4 := ((g'.trans g2.of_upd).trans g3.of_upd).trans g4.of_upd
                  have hg4 : G4 p = none := g4.gnone (g3.gnone (g2.gnone hg'))
                  generalize ht1 : lcTurn (Y.Γ k) Y.T tg1 cond1 x vs1 env1 = turn1 at hst
                  have e4 := (e2.grow g3).grow g4
                  refine ⟨fun j k' H => k' = ys.length - j ∧ j ≤ ys.length ∧ ∃ G5 μ5 S5 acc5 accV5, Gr Φ G4 μ4 G5 μ5 ∧ G5 p = none ∧ Rel X.K Y.M G5 (upd Φ p (.lst accV5)) μ5 S5 H ∧ RDs X.K Y.M G5 μ5 acc5 accV5 ∧ acc5.length ≤ acc.length + j ∧ lcLoop turn1 (ys.drop j) S5 acc5 = lcLoop turn1 ys S2 acc,
                    ⟨ys.length, by omega, by omega, G4, μ4, S2, acc, accV, .refl, hg4, r4, ((qa.up g2).up g3).up g4, by omega, rfl⟩, ?_⟩
                  rintro j k' H6 ⟨rfl, hle5, G5, μ5, S5, acc5, accV5, g5, hg5, r5, qa5, hal5, hlo5⟩
                  obtain ⟨v1, v2, v3⟩ := wk1 G5 (upd Φ p (.lst accV5)) μ5 S5 H6 g5.g g5.m r5 j
                  by_cases hj : j < ys.length
                  · refine .inr ⟨v1 hj, fun H' => ∃ m'', m'' < ys.length - j ∧ _, fun H' h => h, ?_⟩
                    intro u H7 hy7
                    have hd7 : ys[j]? = some ys[j] := List.getElem?_eq_getElem hj
                    obtain ⟨G7, g7, r7, q7⟩ := v3 _ u H7 hd7 hy7
                    have hdrop7 : ys.drop j = ys[j] :: ys.drop (j + 1) := (List.drop_eq_getElem_cons hj)
                    rw [hdrop7] at hlo5
                    have tot7 : ∃ zs S'', lcLoop turn1 (ys[j] :: ys.drop (j + 1)) S5 acc5 = some (.ok zs S'') := by rw [hlo5]; exact ⟨_, _, hst⟩
                    have hst7 := lcLoop_cons tot7
                    have hturn : turn1 ys[j] S5 = lcTurn (Y.Γ k) Y.T tg1 cond1 x vs1 env1 ys[j] S5 := by rw [← ht1]
                    cases ha7 : asgT tg1 ys[j] (wipeE env1 vs1) with
                    | none =>
                      have : turn1 ys[j] S5 = none := by rw [hturn, lcTurn, ha7]
                      rw [this] at hst7
                      rcases hst7 with ⟨_, _, e, _⟩ | ⟨_, e, _⟩ <;> cases e
                    | some env2 =>
                      have hturn2 : turn1 ys[j] S5 = bnd (evalC (Y.Γ k) Y.T cond1 env2 S5) fun b S2 => match b with
                          | true => bnd (evalE (Y.Γ k) Y.T x env2 S2) fun y S3 => some (.ok (some y) S3)
                          | false => some (.ok none S2) := by rw [hturn, lcTurn, ha7]
                      refine gT_ok r7 tg1 _ u _ env2 _ _ q7 (wipeE_rel ((e4.grow g5).grow g7) _) ha7 fun σ3 e3 l3 f3 => ⟨wipe_turn hsl1 l3 f3, ?_⟩
                      refine ⟨G7, upd Φ p (.lst accV5), μ5, S5, env2, r7, e3, ?_⟩
                      cases hcv7 : evalC (Y.Γ k) Y.T cond1 env2 S5 with
                      | none => rw [hturn2, hcv7] at hst7; rcases hst7 with ⟨_, _, e, _⟩ | ⟨_, e, _⟩ <;> cases e
                      | some z7 =>
                        cases z7 with
                        | ex c S1 => rw [hturn2, hcv7] at hst7; rcases hst7 with ⟨_, _, e, _⟩ | ⟨_, e, _⟩ <;> cases e
                        | ok b7 S7 =>
                          intro G8 μ8 H8 b8 g8 r8 hb8
                          have hb8 : b7 = b8 := hb8
                          subst hb8
                          rw [hturn2, hcv7, bnd_ok] at hst7
                          cases b7 with
                          | false =>
                            rw [if_neg (by decide)]
                            rcases hst7 with ⟨_, _, e, _⟩ | ⟨S10, e, hl⟩
                            · cases e
                            · cases e
                              refine ⟨ys.length - (j + 1), by omega, rfl, by omega, G8, μ8, S7, acc5, accV5, (g5.trans g7.of_upd).trans g8.of_upd, g8.gnone (g7.gnone hg5), r8, (qa5.up g7).up g8, by omega, ?_⟩
                              rw [← hl]; exact hlo5
                          | true =>
                            rw [if_pos rfl]
                            refine ⟨G8, upd Φ p (.lst accV5), μ8, S7, env2, r8, e3.grow g8, ?_⟩
                            dsimp only at hst7
                            cases hev7 : evalE (Y.Γ k) Y.T x env2 S7 with
                            | none => rw [hev7] at hst7; rcases hst7 with ⟨_, _, e, _⟩ | ⟨_, e, _⟩ <;> cases e
                            | some z9 =>
                              cases z9 with
                              | ex c S2 => rw [hev7] at hst7; rcases hst7 with ⟨_, _, e, _⟩ | ⟨_, e, _⟩ <;> cases e
                              | ok y S11 =>
                                intro G9 μ9 H9 u9 g9 r9 qu
                                rw [hev7, bnd_ok] at hst7
                                rcases hst7 with ⟨y', S10, e, hl⟩ | ⟨_, e, _⟩
                                · cases e
                                  have hal' : accV5.length = acc5.length := qa5.length.symm
                                  refine ⟨accV5, r9.f _ _ upd_same, by omega, ys.length - (j + 1), by omega, rfl, by omega, G9, μ9, S11, acc5 ++ [y], accV5 ++ [u9], ((g5.trans g7.of_upd).trans g8.of_upd).trans g9.of_upd, g9.gnone (g8.gnone (g7.gnone hg5)), r9.reframe (g9.gnone (g8.gnone (g7.gnone hg5))), (((qa5.up g7).up g8).up g9).append (.cons qu .nil), by simp; omega, ?_⟩
                                  rw [← hl]; exact hlo5
                                · cases e
                  · have hj' : j = ys.length := by omega
                    refine .inl ⟨v2 (by omega), ?_⟩
                    rw [hj', List.drop_length, lcLoop] at hlo5
                    rw [← hlo5] at hst
                    cases hst
                    refine ⟨xs.length - (i + 1), by omega, rfl, by omega, G5, μ5, _, _, accV5, gA.trans g5, hg5, r5, qa5, ?_⟩
                    rw [← hl9]; exact hlo
                · cases hst
  · have hi' : i = xs.length := by omega
    refine .inl ⟨w2 (by omega), ?_⟩
    rw [hi', List.drop_length, lcLoop2] at hlo
    rw [← hlo, bnd_ok] at res
    cases m with
    | false =>
      obtain ⟨r3, g3⟩ := r'.toStill hg' hf
      exact res _ _ _ _ (g'.trans g3) r3 (.lst upd_same (qa.up g3))
    | true =>
      obtain ⟨r3, g3⟩ := r'.toStore (ob := .lst acc) hg' hf ⟨accV, r'.f _ _ upd_same, qa.up (Gr.mk (fun _ _ h => h) (fun _ _ h => h) (fun n a e => by
        unfold muAdd; rw [if_neg (fun z => by have := r'.ub n a e; omega)]; exact e) : Gr Φ G' μ' G' (muAdd μ' S'.length p))⟩
      exact res _ _ _ _ (g'.trans g3) r3 (.ref (by unfold muAdd; rw [if_pos rfl]))
theorem s_lc2 (ok : XOk Y k X W) {elt tgt iter tgt1 iter1 : Expr} {ifs ifs1 : List Expr} {scope : Scope} {own : List (Str × Nat)} {m : Bool} {tg tg1 : Tg} {it it1 : Itr} {cond cond1 : Oe} {x : Ex} {vs1 : List Nat} (hb : blkC X.N X.env.scope scope own = true) (hs : notSet iter = true) (hs1 : notSet iter1 = true)
    (hi : PIx Y k X W tgt iter it) (hT : okT X.N (fun x => scope.names.lookup x == some .cell) tg (relS scope X.env.scope) tgt = true) (hsl : (tg.slots.all fun i => (own.map (·.2)).contains i) = true)
    (hT1 : okT X.N (fun x => scope.names.lookup x == some .cell) tg1 (relS scope X.env.scope) tgt1 = true) (hsl1 : (tg1.slots.all fun i => vs1.contains i) = true) (hv : (vs1.all fun i => (own.map (·.2)).contains i) = true)
    (hc : ∀ (s : Shared) (H : Hp) (C : Addr) (cl : List (Str × Addr)) (fp : List Addr), PCx Y k (X.blk s H scope (compEnvC scope cl C X.env) fp) Wno ifs cond)
    (hi1 : ∀ (s : Shared) (H : Hp) (C : Addr) (cl : List (Str × Addr)) (fp : List Addr), PIx Y k (X.blk s H scope (compEnvC scope cl C X.env) fp) Wno tgt1 iter1 it1)
    (hc1 : ∀ (s : Shared) (H : Hp) (C : Addr) (cl : List (Str × Addr)) (fp : List Addr), PCx Y k (X.blk s H scope (compEnvC scope cl C X.env) fp) Wno ifs1 cond1)
    (he : ∀ (s : Shared) (H : Hp) (C : Addr) (cl : List (Str × Addr)) (fp : List Addr), PEx Y k (X.blk s H scope (compEnvC scope cl C X.env) fp) Wno elt x) :
    PEx Y k X W (.ListComp elt [⟨tgt, iter, ifs, 0⟩, ⟨tgt1, iter1, ifs1, 0⟩] scope pos) (.lc2 m own tg it cond vs1 tg1 it1 cond1 x) := by
  exact (pe_lc2 (own := own) (vs1 := vs1) (g := gT X.K tg) (g1 := gT X.K tg1) (tt := tXt X.K Y.M Wno (evalC (Y.Γ k) Y.T cond)) (tt1 := tXt X.K Y.M Wno (evalC (Y.Γ k) Y.T cond1)) (te := tX X.K Y.M Wno (evalE (Y.Γ k) Y.T x)) ok.calm ok.nd hi (blkOk_by hb)
    (fun i hm => by have := List.all_eq_true.mp hv i hm; simpa using this)
    (fun s H C cl fp => sndT (X := X.blk s H scope (compEnvC scope cl C X.env) fp) (fun _ h => h) ok.calm ok.nd tg tgt hT) hc hi1
    (fun s H C cl fp => sndT (X := X.blk s H scope (compEnvC scope cl C X.env) fp) (fun _ h => h) ok.calm ok.nd tg1 tgt1 hT1) hc1 he (folded_no hs _) (fun env => folded_no hs1 env)).imp fun σ H Q z => lc2_reads (tgt := tgt) (tgt1 := tgt1) (scope := scope) ok hsl hsl1 z
/-! ### what is walked -/
/-! ### dicts that are walked -/
/-- reads a value that is the same when a dict is locked -/
def SimpR (Y : Sys) (k : Nat) (X : Cx) (e : Expr) (x : Ex) : Prop := ∃ td : TE, PE X e td ∧ ∀ G Φ μ S env σ H, Rel X.K Y.M G Φ μ S H → EnR X.K Y.M G μ env σ → ∀ r, evalE (Y.Γ k) Y.T x env S = some r →
  ∃ d v, r = .ok d S ∧ RD X.K Y.M G μ d v ∧ ∀ H' : Hp, (∀ a C dx fs, H a = some (.ins C dx fs) → H' a = some (.ins C dx fs)) → ∀ Q : VK, Q v H' → td σ H' Q
theorem simp_v {i : Nat} {x : Str} (h1 : X.N[i]? = some x) (h2 : visB X.env.scope x = true) (h3 : nmOk x = true) : SimpR Y k X (.Name x pos) (.v i) := by
  refine ⟨_, pe_var h1 (visB_ok h2) (nmOk_1 h3) (nmOk_2 h3), fun G Φ μ S env σ H r er z hz => ?_⟩
  simp only [evalE] at hz
  split at hz
  · rename_i d e
    cases hz
    obtain ⟨v, hv, q⟩ := er.at_ i d e
    exact ⟨d, v, rfl, q, fun H' _ Q hq => ⟨v, hv, hq⟩⟩
  · cases hz
theorem simp_att (ok : XOk Y k X W) {c : Nat} {o : Expr} {xo : Ex} {f : Str} (hb : baseB o = true) (ha : attB Y.toTxt c f = true) (ho : SimpR Y k X o xo) : SimpR Y k X (.Attribute o f pos) (.att c xo f) := by
  obtain ⟨c1, c2⟩ := attB_ok ok ha
  obtain ⟨td, he, h⟩ := ho
  refine ⟨_, pe_fld he (attributeBase_no hb _ _ _), fun G Φ μ S env σ H r er z hz => ?_⟩
  rw [evalE] at hz
  cases hx : evalE (Y.Γ k) Y.T xo env S with
  | none => rw [hx] at hz; cases hz
  | some w =>
    obtain ⟨d, v, rfl, q, rd⟩ := h G Φ μ S env σ H r er w hx
    rw [hx, bnd_ok] at hz
    unfold fldD at hz
    split at hz
    · rename_i c' ns vs hi
      split at hz
      · rename_i hc
        subst hc
        obtain ⟨a, dx, ys, rfl, h1, l, q1⟩ := insD_ok r q hi
        cases hf : fldL f ns vs with
        | none => rw [hf] at hz; cases hz
        | some d' =>
          rw [hf] at hz
          cases hz
          obtain ⟨w, h2, q2⟩ := fldL_ok q1 hf
          exact ⟨d', w, rfl, q2, fun H' hi' Q hq => rd H' hi' _ ⟨a, _, dx, _, w, rfl, hi' _ _ _ _ h1, c1, c2, h2, hq⟩⟩
      · cases hz
    · cases hz
theorem RD_key {K : PySem.W.Frag} {M : Am} {G : Hp} {μ : Mu} (k : Key) : RD K M G μ (kD k) (kV k) := by
  cases k with
  | inl i => exact .int i
  | inr x => exact .str x
theorem walkF_items {K : PySem.W.Frag} {M : Am} {G Φ : Hp} {μ : Mu} {a : Addr} {od : Obj} {kk : List Key} {vs : List D} {ys : List V} (hl : kk.length = ys.length) (q : RDs K M G μ vs ys) :
    WalksF K M (Iti a od (kk.zip ys)) G (L2.upd Φ a (.frz od (.dK (kk.zip ys)))) μ (dWalk .items (kk.map kD) vs) := by
  intro G1 μ1 S1 H1 g m r i
  have hH := r.f a _ upd_same
  have len : (dWalk .items (kk.map kD) vs).length = (kk.zip ys).length := by
    unfold dWalk
    rw [List.length_zipWith, List.length_map, List.length_zip, q.length]
  refine ⟨fun hi => ⟨hH, by rw [← len]; exact hi⟩, fun hi => ⟨hH, by rw [← len]; exact hi⟩, fun d v H2 e hy => ?_⟩
  obtain ⟨T, k, w, hkv, rfl, hT, rfl⟩ := hy
  rw [List.getElem?_zip_eq_some] at hkv
  obtain ⟨hk, hw⟩ := hkv
  obtain ⟨dv, hdv, rv⟩ := q.getV hw
  have ed : d = .tup [kD k, dv] := by
    unfold dWalk at e
    rw [List.getElem?_zipWith, List.getElem?_map, hk, hdv] at e
    exact (Option.some.inj e).symm
  subst ed
  obtain ⟨r2, g2⟩ := r.still (u := .tup [kV k, w]) hT
  exact ⟨_, g2, r2, .tup upd_same (.cons (RD_key k) (.cons (RD.grow g2.g (fun _ _ h => h) _ _ (RD.grow g m _ _ rv)) .nil))⟩
theorem walkF_vals {K : PySem.W.Frag} {M : Am} {G Φ : Hp} {μ : Mu} {a : Addr} {od : Obj} {kk : List Key} {vs : List D} {ys : List V} (hl : kk.length = ys.length) (q : RDs K M G μ vs ys) :
    WalksF K M (Itd a od (kk.zip ys)) G (L2.upd Φ a (.frz od (.dK (kk.zip ys)))) μ (dWalk .vals (kk.map kD) vs) := by
  intro G1 μ1 S1 H1 g m r i
  have hH := r.f a _ upd_same
  have len : (dWalk .vals (kk.map kD) vs).length = (kk.zip ys).length := by
    show vs.length = _
    rw [List.length_zip, q.length]; omega
  refine ⟨fun hi => ⟨hH, by rw [← len]; exact hi⟩, fun hi => ⟨hH, by rw [← len]; exact hi⟩, fun d v H2 e hy => ?_⟩
  obtain ⟨rfl, k, hkv⟩ := hy
  rw [List.getElem?_zip_eq_some] at hkv
  obtain ⟨hk, hw⟩ := hkv
  obtain ⟨dv, hdv, rv⟩ := q.getV hw
  have ed : d = dv := by
    have e : vs[i]? = some d := e
    rw [hdv] at e
    exact (Option.some.inj e).symm
  subst ed
  exact ⟨G1, .refl, r, RD.grow g m _ _ rv⟩
theorem walkF_keys {K : PySem.W.Frag} {M : Am} {G Φ : Hp} {μ : Mu} {a : Addr} {od : Obj} {kk : List Key} {vs : List D} {ys : List V} (hl : kk.length = ys.length) :
    WalksF K M (Itk a od (kk.zip ys)) G (L2.upd Φ a (.frz od (.dK (kk.zip ys)))) μ (dWalk .keys (kk.map kD) vs) := by
  intro G1 μ1 S1 H1 g m r i
  have hH := r.f a _ upd_same
  have len : (dWalk .keys (kk.map kD) vs).length = (kk.zip ys).length := by
    show (kk.map kD).length = _
    rw [List.length_map, List.length_zip]; omega
  refine ⟨fun hi => ⟨hH, by rw [← len]; exact hi⟩, fun hi => ⟨hH, by rw [← len]; exact hi⟩, fun d v H2 e hy => ?_⟩
  obtain ⟨rfl, k, w, hkv, rfl⟩ := hy
  rw [List.getElem?_zip_eq_some] at hkv
  obtain ⟨hk, hw⟩ := hkv
  have ed : d = kD k := by
    have e : (kk.map kD)[i]? = some d := e
    rw [List.getElem?_map, hk] at e
    exact (Option.some.inj e).symm
  subst ed
  exact ⟨G1, .refl, r, RD_key k⟩
/-- the dict's content, in the heap -/
def DO (K : PySem.W.Frag) (M : Am) (G : Hp) (μ : Mu) (t : Nat) (ks vs : List D) (u : HO) : Prop :=
  (t = 0 ∧ ∃ (kk : List Key) (ys : List V), ks = kk.map kD ∧ kk.length = ys.length ∧ RDs K M G μ vs ys ∧ u = .dK (kk.zip ys)) ∨
  t = 1 ∧ ∃ (kk : List (List Key)) (ys : List V), ks = kk.map (fun k => .tup (k.map kD)) ∧ kk.length = ys.length ∧ RDs K M G μ vs ys ∧ u = .dT (kk.zip ys)
theorem DO.isD {K : PySem.W.Frag} {M : Am} {G : Hp} {μ : Mu} {t : Nat} {ks vs : List D} {u : HO} (h : DO K M G μ t ks vs u) : (∃ k, u = .dK k) ∨ ∃ k, u = .dT k := by
  rcases h with ⟨_, _, _, _, _, _, rfl⟩ | ⟨_, _, _, _, _, _, rfl⟩
  · exact .inl ⟨_, rfl⟩
  · exact .inr ⟨_, rfl⟩
theorem DO.ins {K : PySem.W.Frag} {M : Am} {G : Hp} {μ : Mu} {t : Nat} {ks vs : List D} {C dx : Addr} {fs : List (Str × V)} (h : DO K M G μ t ks vs (.ins C dx fs)) : False := by
  rcases h.isD with ⟨_, h⟩ | ⟨_, h⟩ <;> cases h
theorem DO.mut {K : PySem.W.Frag} {M : Am} {G : Hp} {μ : Mu} {t : Nat} {ks vs : List D} {u : HO} (h : DO K M G μ t ks vs u) : Mut (some u) := by
  rcases h.isD with ⟨_, rfl⟩ | ⟨_, rfl⟩ <;> trivial
/-- how the walk begins, and what it gives -/
def Begins (K : PySem.W.Frag) (M : Am) (td : TE) (wi : TI) (kd : DK) : Prop := ∀ {G : Hp} {μ : Mu} {t : Nat} {ks vs : List D} {u : HO}, wkB kd t = true → DO K M G μ t ks vs u → ∀ (a : Addr) (od : Obj), ∃ J : It,
  (∀ (σ : L2.St) (H : Hp) (R : It → Hp → Prop), H a = some (.frz od u) → R J H → (∀ Q : VK, Q (.ref a) H → td σ H Q) → wi σ H R) ∧ ∀ Φ : Hp, Φ a = some (.frz od u) → WalksF K M J G Φ μ (dWalk kd ks vs)
theorem begins_items {K : PySem.W.Frag} {M : Am} {td : TE} : Begins K M td (iItems td) .items := by
  intro G μ t ks vs u hk h a od
  rcases h with ⟨rfl, kk, ys, rfl, hl, q, rfl⟩ | ⟨rfl, _⟩
  · exact ⟨Iti a od (kk.zip ys), fun σ H R hH hR htd => htd _ ⟨a, od, _, rfl, hH, hR⟩, fun Φ hΦ => by
      have := walkF_items (K := K) (M := M) (Φ := Φ) (a := a) (od := od) hl q
      rw [upd_id hΦ] at this
      exact this⟩
  · cases hk
theorem begins_vals {K : PySem.W.Frag} {M : Am} {td : TE} : Begins K M td (iVals td) .vals := by
  intro G μ t ks vs u hk h a od
  rcases h with ⟨rfl, kk, ys, rfl, hl, q, rfl⟩ | ⟨rfl, _⟩
  · exact ⟨Itd a od (kk.zip ys), fun σ H R hH hR htd => htd _ ⟨a, od, _, rfl, hH, hR⟩, fun Φ hΦ => by
      have := walkF_vals (K := K) (M := M) (Φ := Φ) (a := a) (od := od) hl q
      rw [upd_id hΦ] at this
      exact this⟩
  · cases hk
theorem keyRDs {K : PySem.W.Frag} {M : Am} {G : Hp} {μ : Mu} : ∀ k : List Key, RDs K M G μ (k.map kD) (k.map kV)
  | [] => .nil
  | q :: k => .cons (RD_key q) (keyRDs k)
theorem walkF_keysT {K : PySem.W.Frag} {M : Am} {G Φ : Hp} {μ : Mu} {a : Addr} {od : Obj} {kk : List (List Key)} {ys : List V} (vs : List D) (hl : kk.length = ys.length) (hΦ : Φ a = some (.frz od (.dT (kk.zip ys)))) :
    WalksF K M (Itkt a od (kk.zip ys)) G Φ μ (dWalk .keys (kk.map fun k => .tup (k.map kD)) vs) := by
  intro G1 μ1 S1 H1 g m r i
  have hH := r.f a _ hΦ
  have len : (dWalk .keys (kk.map fun k => .tup (k.map kD)) vs).length = (kk.zip ys).length := by
    show (kk.map fun k => D.tup (k.map kD)).length = _
    rw [List.length_map, List.length_zip]; omega
  refine ⟨fun hi => ⟨hH, by rw [← len]; exact hi⟩, fun hi => ⟨hH, by rw [← len]; exact hi⟩, fun d v H2 e hy => ?_⟩
  obtain ⟨rfl, k, w, b, hkv, rfl, hb⟩ := hy
  rw [List.getElem?_zip_eq_some] at hkv
  obtain ⟨hk, hw⟩ := hkv
  have ed : d = .tup (k.map kD) := by
    have e : (kk.map fun k => D.tup (k.map kD))[i]? = some d := e
    rw [List.getElem?_map, hk] at e
    exact (Option.some.inj e).symm
  subst ed
  obtain ⟨G2, g2, r2, hg2⟩ := r.adopt hb
  exact ⟨G2, g2, r2, .tup hg2 (keyRDs k)⟩
theorem begins_keys {K : PySem.W.Frag} {M : Am} {td : TE} : Begins K M td (iKeys td) .keys := by
  intro G μ t ks vs u hk h a od
  rcases h with ⟨rfl, kk, ys, rfl, hl, q, rfl⟩ | ⟨rfl, kk, ys, rfl, hl, q, rfl⟩
  · exact ⟨Itk a od (kk.zip ys), fun σ H R hH hR htd => htd _ ⟨a, od, rfl, .inl ⟨_, hH, hR⟩⟩, fun Φ hΦ => by
      have := walkF_keys (K := K) (M := M) (G := G) (μ := μ) (Φ := Φ) (a := a) (od := od) (vs := vs) hl
      rw [upd_id hΦ] at this
      exact this⟩
  · exact ⟨Itkt a od (kk.zip ys), fun σ H R hH hR htd => htd _ ⟨a, od, rfl, .inr ⟨_, hH, hR⟩⟩, fun Φ hΦ => walkF_keysT vs hl hΦ⟩
/-- a dict is locked, and let go -/
theorem wk_lock {K : PySem.W.Frag} {M : Am} {G Φ H : Hp} {μ : Mu} {S S2 : Sto} {kd : DK} {d : D} {v : V} {xs : List D} {o : Option Nat} (r : Rel K M G Φ μ S H) (q : RD K M G μ d v) (e : wkD kd S d = some (xs, S2, o)) :
    ∃ a u t ks vs, v = .ref a ∧ DO K M G μ t ks vs u ∧ wkB kd t = true ∧ xs = dWalk kd ks vs ∧
      ((H a = some u ∧ Mut (some u) ∧ Φ a = none ∧ ∀ od, Rel K M G (L2.upd Φ a (.frz od u)) μ S2 (L2.upd H a (.frz od u)) ∧
          ∀ G' μ' S3 S4 H', Gr (L2.upd Φ a (.frz od u)) G μ G' μ' → Rel K M G' (L2.upd Φ a (.frz od u)) μ' S3 H' → unO o S3 = some S4 → Rel K M G' Φ μ' S4 (L2.upd H' a u)) ∨
        (o = none ∧ S2 = S ∧ ∃ od, H a = some (.frz od u) ∧ (Φ a = none ∨ Φ a = some (.frz od u)) ∧ Rel K M G (L2.upd Φ a (.frz od u)) μ S H)) := by
  have still : ∀ {a : Addr} {u : HO} {t : Nat} {ks vs : List D}, G a = some u → DO K M G μ t ks vs u → wkD kd S (.dct t ks vs) = some (xs, S2, o) → ∃ a' u' t ks vs, V.ref a = .ref a' ∧ DO K M G μ t ks vs u' ∧ wkB kd t = true ∧ xs = dWalk kd ks vs ∧
      ((H a' = some u' ∧ Mut (some u') ∧ Φ a' = none ∧ ∀ od, Rel K M G (L2.upd Φ a' (.frz od u')) μ S2 (L2.upd H a' (.frz od u')) ∧
          ∀ G' μ' S3 S4 H', Gr (L2.upd Φ a' (.frz od u')) G μ G' μ' → Rel K M G' (L2.upd Φ a' (.frz od u')) μ' S3 H' → unO o S3 = some S4 → Rel K M G' Φ μ' S4 (L2.upd H' a' u')) ∨
        (o = none ∧ S2 = S ∧ ∃ od, H a' = some (.frz od u') ∧ (Φ a' = none ∨ Φ a' = some (.frz od u')) ∧ Rel K M G (L2.upd Φ a' (.frz od u')) μ S H)) := fun {a u t ks vs} hG hdo e => by
    have e : (if wkB kd t = true then some (dWalk kd ks vs, S, (none : Option Nat)) else none) = some (xs, S2, o) := e
    split at e
    · rename_i hk
      cases e
      refine ⟨a, u, t, ks, vs, rfl, hdo, hk, rfl, ?_⟩
      have hk := hdo.isD
      rcases r.g a _ hG with hH | ⟨_, od, hH⟩
      · have hf : Φ a = none := by
          cases e : Φ a with
          | none => rfl
          | some o =>
            obtain ⟨q', u', rfl⟩ := r.fg a o e (by rw [hG]; exact fun z => nomatch z)
            have := r.f a _ e
            rw [hH] at this
            cases this
            rcases hk with ⟨_, h⟩ | ⟨_, h⟩ <;> cases h
        exact .inl ⟨hH, hdo.mut, hf, fun od => ⟨r.lock hG hk, fun G' μ' S3 S4 H' g rr e => by cases e; exact rr.unlock (g.g a _ hG) hf⟩⟩
      · refine .inr ⟨rfl, rfl, od, hH, ?_, r.relock hG hk hH⟩
        cases e : Φ a with
        | none => exact .inl rfl
        | some w =>
          have := r.f a _ e
          rw [hH] at this
          exact .inr this.symm
    · cases e
  cases q with
  | dK e1 hl q hG => exact still hG (.inl ⟨rfl, _, _, e1, hl, q, rfl⟩) e
  | dT e1 hl q hG => exact still hG (.inr ⟨rfl, _, _, e1, hl, q, rfl⟩) e
  | @ref n a hm =>
    have e : (match S[n]? with
      | some (.dct t ks vs) => if wkB kd t = true then some (dWalk kd ks vs, S.set n (.lck t ks vs), some n) else none
      | _ => none) = some (xs, S2, o) := e
    split at e
    · rename_i t ks vs hs
      split at e
      · rename_i hk
        cases e
        have hf := (r.gm n a _ hs (fun z => nomatch z) hm).2 (fun _ _ _ z => nomatch z)
        rcases r.look hs hm with ⟨t0, kk, ys, e1, hl, q, hH⟩ | ⟨t0, kk, ys, e1, hl, q, hH⟩
        · have hdo : DO K M G μ t ks vs (.dK (kk.zip ys)) := .inl ⟨t0, kk, ys, e1, hl, q, rfl⟩
          refine ⟨a, _, t, ks, vs, rfl, hdo, hk, rfl, .inl ⟨hH, hdo.mut, hf, fun od => ⟨r.lockS hs hm hH, fun G' μ' S3 S4 H' g rr e => ?_⟩⟩⟩
          have e : unS n S3 = some S4 := e
          unfold unS at e
          split at e
          · rename_i hs3; cases e; exact rr.unlockS hs3 (g.m n a hm) hf
          · cases e
        · have hdo : DO K M G μ t ks vs (.dT (kk.zip ys)) := .inr ⟨t0, kk, ys, e1, hl, q, rfl⟩
          refine ⟨a, _, t, ks, vs, rfl, hdo, hk, rfl, .inl ⟨hH, hdo.mut, hf, fun od => ⟨r.lockS hs hm hH, fun G' μ' S3 S4 H' g rr e => ?_⟩⟩⟩
          have e : unS n S3 = some S4 := e
          unfold unS at e
          split at e
          · rename_i hs3; cases e; exact rr.unlockS hs3 (g.m n a hm) hf
          · cases e
      · cases e
    · cases e
  | _ => cases e
theorem PE_or {e : Expr} {t t' : TE} (h : PE X e t) (h' : PE X e t') : PE X e (fun σ H Q => t σ H Q ∨ t' σ H Q) := by
  refine ⟨fun pins s σ H Q I z => ?_⟩
  rcases z with z | z
  · exact h.run pins s σ H Q I z
  · exact h'.run pins s σ H Q I z
theorem unO_app {n : Nat} {S3 S4 : Sto} {o : Option Nat} (T : Sto) (h : unO o S3 = some S4) : unO o (S3 ++ T) = some (S4 ++ T) := by
  cases o with
  | none => cases h; rfl
  | some n =>
    have h : unS n S3 = some S4 := h
    show unS n (S3 ++ T) = _
    unfold unS at h ⊢
    split at h
    · rename_i t ks vs hs
      cases h
      have hl : n < S3.length := (List.getElem?_eq_some_iff.mp hs).1
      rw [List.getElem?_append_left hl, hs]
      show some _ = some _
      rw [List.set_append_left _ _ hl]
    · cases h
theorem mkL_unO {m : Bool} {ys : List D} {S3 S4 : Sto} {o : Option Nat} (h : unO o S3 = some S4) : ∃ d S5 S6, mkL m ys S3 = some (.ok d S5) ∧ mkL m ys S4 = some (.ok d S6) ∧ unO o S5 = some S6 := by
  have hl : S3.length = S4.length := by
    cases o with
    | none => cases h; rfl
    | some n =>
      have h : unS n S3 = some S4 := h
      unfold unS at h
      split at h
      · cases h; rw [List.length_set]
      · cases h
  cases m with
  | false => exact ⟨_, S3, S4, rfl, rfl, h⟩
  | true => exact ⟨_, _, _, rfl, by rw [mkL_t, hl], unO_app (n := 0) _ h⟩
theorem s_lcD_reads (ok : XOk Y k X W) {kd : DK} {own : List (Str × Nat)} {m : Bool} {tg : Tg} {cond : Oe} {x : Ex} {xd : Ex} {e : Expr} {wi : TE → TI} {td : TE} (hsl : (tg.slots.all fun i => (own.map (·.2)).contains i) = true)
    (hx : ∀ G Φ μ S env σ H, Rel X.K Y.M G Φ μ S H → EnR X.K Y.M G μ env σ → ∀ r, evalE (Y.Γ k) Y.T xd env S = some r →
      ∃ d v, r = .ok d S ∧ RD X.K Y.M G μ d v ∧ ∀ H' : Hp, (∀ a C dx fs, H a = some (.ins C dx fs) → H' a = some (.ins C dx fs)) → ∀ Q : VK, Q v H' → td σ H' Q)
    (hw : Begins X.K Y.M td (wi td) kd) {σ : L2.St} {H : Hp} {Q : VK} (z : tX X.K Y.M W (evalE (Y.Γ k) Y.T (.lcD m own kd tg xd cond x)) σ H Q) :
    tLockE (tLc (wi td) (gT X.K tg) (tXt X.K Y.M Wno (evalC (Y.Γ k) Y.T cond)) (tX X.K Y.M Wno (evalE (Y.Γ k) Y.T x)) (own.map (·.2))) σ H Q ∨
      tLc (wi td) (gT X.K tg) (tXt X.K Y.M Wno (evalC (Y.Γ k) Y.T cond)) (tX X.K Y.M Wno (evalE (Y.Γ k) Y.T x)) (own.map (·.2)) σ H Q := by
  have ze : tX X.K Y.M W (evalE (Y.Γ k) Y.T (.lcD m own kd tg xd cond x)) σ H Q = tG X.K Y.M W (rD X.K Y.M) (fun env S => bnd (evalE (Y.Γ k) Y.T xd env S) fun x1 S1 => match wkD kd S1 x1 with
    | some (xs, S2, o) => if xs.length ≤ sizeLine then bnd (lcLoop (lcTurn (Y.Γ k) Y.T tg cond x (own.map (·.2)) env) xs S2 []) fun ys S3 => match unO o S3 with
        | some S4 => mkL m ys S4
        | none => none
      else none
    | none => none) σ H Q := by
    rfl
  rw [ze] at z
  obtain ⟨G, Φ, μ, S, env, r, er, res⟩ := z
  dsimp only at res
  cases hz : evalE (Y.Γ k) Y.T xd env S with
  | none => rw [hz] at res; exact res.elim
  | some w =>
    obtain ⟨d, v, rfl, q, rd⟩ := hx G Φ μ S env σ H r er w hz
    rw [hz, bnd_ok] at res
    split at res
    · rename_i xs S2 o hwk
      split at res
      · rename_i hsz
        obtain ⟨a, u, qt, ks, vs, rfl, hdo, hkd, rfl, hcase⟩ := wk_lock r q hwk
        rcases hcase with ⟨hH, hm, hf, hl⟩ | ⟨rfl, rfl, od, hH, hf, r'⟩
        · refine .inl ⟨a, _, hH, hm, fun od => ?_⟩
          obtain ⟨r', back⟩ := hl od
          obtain ⟨J, hw1, hw2⟩ := hw hkd hdo a od
          refine hw1 σ _ _ upd_same ?_ (fun Q hq => rd _ (fun b C dx fs hb => by
            rw [upd_ne (fun z => by rw [z, hH] at hb; cases hb; exact hdo.ins)]; exact hb) Q hq)
          intro p hp
          refine lc_turns (m := m) (cond := cond) (x := x) (Q := fun v H' => H' a = some (.frz od u) ∧ Q v (L2.upd H' a u)) ok hsl (fun p accV hp => hw2 _ (by rw [upd_ne (fun z => by rw [← z, upd_same] at hp; cases hp)]; exact upd_same)) r' er hsz ?_ p hp
          generalize lcLoop (lcTurn (Y.Γ k) Y.T tg cond x (own.map (·.2)) env) (dWalk kd ks vs) S2 [] = L at res ⊢
          cases L with
          | none => exact res.elim
          | some l =>
            cases l with
            | ex c S3 => exact fun G' μ' H' g' rr => res G' μ' H' g'.of_upd (rr.less (.inl hf))
            | ok ys S3 =>
              rw [bnd_ok] at res ⊢
              split at res
              · rename_i S4 e4
                obtain ⟨d, S5, S6, m1, m2, m3⟩ := mkL_unO (m := m) (ys := ys) e4
                rw [m2] at res
                rw [m1]
                exact fun G' μ' H' b' g' rr q' => ⟨rr.f a _ upd_same, res G' μ' _ b' g'.of_upd (back G' μ' S5 S6 H' g' rr m3) q'⟩
              · exact res.elim
        · refine .inr ?_
          obtain ⟨J, hw1, hw2⟩ := hw hkd hdo a od
          refine hw1 σ _ _ hH ?_ (fun Q hq => rd _ (fun b C dx fs hb => hb) Q hq)
          intro p hp
          refine lc_turns (m := m) (cond := cond) (x := x) (Q := Q) ok hsl (fun p accV hp => hw2 _ (by rw [upd_ne (fun z => by rw [← z, hH] at hp; cases hp)]; exact upd_same)) r' er hsz ?_ p hp
          have res : Res X.K Y.M W σ G Φ μ (bnd (lcLoop (lcTurn (Y.Γ k) Y.T tg cond x (own.map (·.2)) env) (dWalk kd ks vs) S2 []) fun ys S3 => mkL m ys S3) (rD X.K Y.M) Q := res
          generalize bnd (lcLoop (lcTurn (Y.Γ k) Y.T tg cond x (own.map (·.2)) env) (dWalk kd ks vs) S2 []) (fun ys S3 => mkL m ys S3) = ro at res ⊢
          cases ro with
          | none => exact res.elim
          | some so =>
            cases so with
            | ok d S3 => exact fun G' μ' H' b' g' rr q' => res G' μ' H' b' g'.of_upd (rr.less hf) q'
            | ex c S3 => exact fun G' μ' H' g' rr => res G' μ' H' g'.of_upd (rr.less hf)
      · exact res.elim
    · exact res.elim
theorem s_lcD (ok : XOk Y k X W) {kd : DK} {elt tgt iter e : Expr} {ifs : List Expr} {scope : Scope} {own : List (Str × Nat)} {m : Bool} {tg : Tg} {cond : Oe} {x xd : Ex} {wi : TE → TI} (hb : blkC X.N X.env.scope scope own = true) (hs : notSet iter = true)
    (hx : SimpR Y k X e xd) (hi : ∀ td, PE X e td → PI X tgt iter (wi td)) (hw : ∀ td, Begins X.K Y.M td (wi td) kd)
    (hT : okT X.N (fun x => scope.names.lookup x == some .cell) tg (relS scope X.env.scope) tgt = true) (hsl : (tg.slots.all fun i => (own.map (·.2)).contains i) = true)
    (hc : ∀ (s : Shared) (H : Hp) (C : Addr) (cl : List (Str × Addr)) (fp : List Addr), PCx Y k (X.blk s H scope (compEnvC scope cl C X.env) fp) Wno ifs cond)
    (he : ∀ (s : Shared) (H : Hp) (C : Addr) (cl : List (Str × Addr)) (fp : List Addr), PEx Y k (X.blk s H scope (compEnvC scope cl C X.env) fp) Wno elt x) :
    PEx Y k X W (.ListComp elt [⟨tgt, iter, ifs, 0⟩] scope pos) (.lcD m own kd tg xd cond x) := by
  obtain ⟨td, hd, hx⟩ := hx
  have base := pe_lc (pos := pos) (own := own) (g := gT X.K tg) (tt := tXt X.K Y.M Wno (evalC (Y.Γ k) Y.T cond)) (te := tX X.K Y.M Wno (evalE (Y.Γ k) Y.T x)) ok.calm ok.nd (hi td hd) (blkOk_by hb) (fun s H C cl fp => sndT (X := X.blk s H scope (compEnvC scope cl C X.env) fp) (fun _ h => h) ok.calm ok.nd tg tgt hT) hc he (folded_no hs _)
  exact (PE_or (pe_lock base) base).imp fun σ H Q z => s_lcD_reads (e := e) ok hsl hx (hw td) z
/-- the walk that the text names -/
theorem okW_walk {kd : DK} {tg it e : Expr} (h : okW kd tg it = some e) : ∃ wi : TE → TI, (∀ td, PE X e td → PI X tg it (wi td)) ∧ ∀ td, Begins X.K Y.M td (wi td) kd := by
  have call0 : ∀ {m : Str} {it : Expr}, isCall0 m it = some e → ∃ apos cpos, it = .Call (.Attribute e m apos) [] [] cpos ∧ baseB e = true ∧ (apos.endLine == cpos.line) = true := fun {m it} h => by
    unfold isCall0 at h
    split at h
    · split at h
      · rename_i c
        cases h
        exact ⟨_, _, by rw [c.1], c.2.1, c.2.2⟩
      · cases h
    · cases h
  unfold okW at h
  cases kd with
  | items =>
    dsimp only at h
    split at h
    · rename_i ht
      obtain ⟨apos, cpos, rfl, h1, h2⟩ := call0 h
      cases tg with
      | Tuple elts kk tpos => exact ⟨iItems, fun td he => pi_items he (attributeBase_no h1 _ _ _) h2, fun td => begins_items⟩
      | _ => cases ht
    · cases h
  | vals =>
    obtain ⟨apos, cpos, rfl, h1, h2⟩ := call0 h
    exact ⟨iVals, fun td he => pi_values he (attributeBase_no h1 _ _ _) h2, fun td => begins_vals⟩
  | keys =>
    dsimp only at h
    split at h
    · cases h
      exact ⟨iKeys, fun td he => pi_keys he, fun td => begins_keys⟩
    · cases h
theorem sndR {Y : Sys} {k : Nat} {X : Cx} {W : WX} (ok : XOk Y k X W) {x : Ex} {e : Expr} (h2 : simpB x = true) (he : okE Y.toTxt X.N x X.env.scope e = true) : SimpR Y k X e x := by
  have hv : ∀ (i : Nat) (e : Expr), okE Y.toTxt X.N (.v i) X.env.scope e = true → SimpR Y k X e (.v i) := fun i e he => by
    cases e with
    | Name x pos =>
      simp only [okE, Bool.and_eq_true, decide_eq_true_eq] at he
      exact simp_v he.1.1 he.1.2 he.2
    | _ => simp [okE] at he
  cases x with
  | v i => exact hv i e he
  | att c o f =>
    cases o with
    | v i =>
      unfold okE at he
      split at he
      · simp only [Bool.and_eq_true, decide_eq_true_eq] at he
        obtain ⟨⟨⟨rfl, k2⟩, k3⟩, k4⟩ := he
        exact simp_att ok k2 k3 (hv i _ k4)
      · cases he
    | _ => simp [simpB] at h2
  | _ => simp [simpB] at h2
theorem i_of {tg e : Expr} {x : Ex} (h : PEx Y k X W e x) : PIx Y k X W tg e (.of x) := by
  refine (((pi_tup (tg := tg) h).or (pi_list h)).or (pi_str h)).imp fun σ H R z => ?_
  simp only [evalI] at z
  obtain ⟨G, Φ, μ, S, env, r, er, res⟩ := z
  dsimp only at res
  cases e : evalE (Y.Γ k) Y.T x env S with
  | none => rw [e] at res; exact res.elim
  | some w =>
    cases w with
    | ex c S1 =>
      refine .inl (.inl ⟨G, Φ, μ, S, env, r, er, ?_⟩)
      rw [e] at res ⊢
      exact res
    | ok d S1 =>
      rw [e, bnd_ok] at res
      cases d with
      | tup xs =>
        refine .inl (.inl ⟨G, Φ, μ, S, env, r, er, ?_⟩)
        rw [e]
        intro G' μ' H' v g r1 q
        cases q with
        | tup h1 q => exact ⟨_, rfl, ⟨_, SqT.of (r1.g _ _ h1).tup⟩, res _ _ _ _ g r1 (walks_tup h1 q)⟩
      | lst xs =>
        refine .inl (.inr ⟨G, Φ, μ, S, env, r, er, ?_⟩)
        rw [e]
        intro G' μ' H' v g r1 q
        cases q with
        | lst h1 q => exact ⟨_, rfl, ⟨_, SqL.of (r1.g _ _ h1).lst⟩, res _ _ _ _ g r1 (walks_lst h1 q)⟩
      | str z =>
        refine .inr ⟨G, Φ, μ, S, env, r, er, ?_⟩
        rw [e]
        intro G' μ' H' v g r1 q
        cases q
        exact ⟨_, rfl, res _ _ _ _ g r1 (walks_str z)⟩
      | _ => exact res.elim
theorem i_rng1 (ok : XOk Y k X W) {tg a : Expr} {pn : Pos} {xa : Ex} (hg : glB X.env.scope "range" = true) (hs : noStar a = true) (h : PEx Y k X W a xa) : PIx Y k X W tg (.Call (.Name "range" pn) [a] [] pos) (.rng1 xa) := by
  refine (pi_range1 (tg := tg) (glB_ok hg) (ok.facts.free _ (by decide)) (pa_cons h pa_nil (starEach_no hs _ _)) (starEach_no hs _ _)).imp fun σ H R z => ?_
  simp only [evalI] at z
  refine (tG_bind (Ra := rD X.K Y.M) z).imp ?_
  rintro v H1 ⟨G, Φ, μ, S, env, d, r, er, ra, res⟩
  cases ra <;> first | exact res.elim | skip
  rename_i j
  dsimp only at res
  cases e : rngD 0 j with
  | none => rw [e] at res; exact res.elim
  | some xs =>
    rw [e] at res
    obtain ⟨c, wk⟩ := walks_rng (K := X.K) (M := Y.M) (G := G) (μ := μ) e
    refine ⟨j, rfl, c.2.2.1, c.2.2.2, ?_⟩
    have wk' : Walks X.K Y.M (L2.Itr 0 j.toNat) G μ xs := by rw [show j.toNat = (j - 0).toNat by omega]; exact wk
    exact res.now r wk'
theorem i_rng2 (ok : XOk Y k X W) {tg a b : Expr} {pn : Pos} {xa xb : Ex} (hg : glB X.env.scope "range" = true) (hs : noStar a = true) (hs2 : noStar b = true) (h : PEx Y k X W a xa) (h2 : PEx Y k X W b xb) :
    PIx Y k X W tg (.Call (.Name "range" pn) [a, b] [] pos) (.rng2 xa xb) := by
  refine (pi_range2 (tg := tg) (glB_ok hg) (ok.facts.free _ (by decide)) (pa_cons h (pa_cons h2 pa_nil (starEach_no hs2 _ _)) (starEach_no hs _ _)) (by rw [starEach_no hs, starEach_no hs2]; rfl) (by rw [starEach_no hs2]; rfl)).imp fun σ H R z => ?_
  simp only [evalI] at z
  refine (tG_bind (Ra := rD X.K Y.M) z).imp ?_
  rintro v H1 ⟨G, Φ, μ, S, env, d, r, er, ra, res⟩
  refine (tG_go (Ra := rD X.K Y.M) r er res).imp ?_
  rintro u H2 ⟨G1, μ1, S1, d2, gr, r1, rb, res1⟩
  cases ra <;> cases rb <;> first | exact res1.elim | skip
  rename_i i j
  dsimp only at res1
  cases e : rngD i j with
  | none => rw [e] at res1; exact res1.elim
  | some xs =>
    rw [e] at res1
    obtain ⟨c, wk⟩ := walks_rng (K := X.K) (M := Y.M) (G := G1) (μ := μ1) e
    exact ⟨i, j, rfl, c, res1.now r1 wk⟩
theorem i_enum (ok : XOk Y k X W) {tg a : Expr} {pn : Pos} {xa : Ex} (ht : isTupE tg = true) (hg : glB X.env.scope "enumerate" = true) (hs : noStar a = true) (h : PEx Y k X W a xa) : PIx Y k X W tg (.Call (.Name "enumerate" pn) [a] [] pos) (.enum xa) := by
  cases tg <;> first | cases ht | skip
  have hf := ok.facts.free "enumerate" (by decide)
  refine ((pi_enumT (glB_ok hg) hf (pa_cons h pa_nil (starEach_no hs _ _)) (starEach_no hs _ _)).or (pi_enum (glB_ok hg) hf (pa_cons h pa_nil (starEach_no hs _ _)) (starEach_no hs _ _))).imp fun σ H R z => ?_
  simp only [evalI] at z
  obtain ⟨G, Φ, μ, S, env, r, er, res⟩ := z
  dsimp only at res
  cases e : evalE (Y.Γ k) Y.T xa env S with
  | none => rw [e] at res; exact res.elim
  | some w =>
    cases w with
    | ex c S1 =>
      refine .inl ⟨G, Φ, μ, S, env, r, er, ?_⟩
      rw [e] at res ⊢
      exact res
    | ok d S1 =>
      rw [e, bnd_ok] at res
      cases d with
      | tup xs =>
        refine .inl ⟨G, Φ, μ, S, env, r, er, ?_⟩
        rw [e]
        intro G' μ' H' v g r1 q
        cases q with
        | tup h1 q => exact ⟨_, _, rfl, SqT.of (r1.g _ _ h1).tup, res _ _ _ _ g r1 (walks_ent h1 q)⟩
      | lst xs =>
        refine .inr ⟨G, Φ, μ, S, env, r, er, ?_⟩
        rw [e]
        intro G' μ' H' v g r1 q
        cases q with
        | lst h1 q => exact ⟨_, _, rfl, SqL.of (r1.g _ _ h1).lst, res _ _ _ _ g r1 (walks_enl h1 q)⟩
      | _ => exact res.elim
/-! ### lists of arguments -/
theorem a_nil : PAx Y k X W [] .nil := pa_nil.imp fun σ H Q z => by
  obtain ⟨G, Φ, μ, S, env, r, er, res⟩ := z
  rw [evalEs] at res
  exact res.now r .nil
theorem a_cons {e : Expr} {es : List Expr} {x : Ex} {xs : Exs} (hs : noStar e = true) (h : PEx Y k X W e x) (h2 : PAx Y k X W es xs) : PAx Y k X W (e :: es) (.cons x xs) :=
  (pa_cons h h2 (starEach_no hs _ _)).imp fun σ H Q z => by
    simp only [tXs, evalEs] at z
    refine (tG_bind (Ra := rD X.K Y.M) z).imp ?_
    rintro v H1 ⟨G, Φ, μ, S, env, d, r, er, ra, res⟩
    refine (tG_go (Ra := rDs X.K Y.M) r er res).imp ?_
    rintro u H2 ⟨G1, μ1, S1, d2, gr, r1, rb, res1⟩
    exact res1.now r1 (.cons (RD.up ra gr) rb)
theorem _root_.L2.PO.imp {X : Cx} {e : Option Expr} {t t' : TO} (h : PO X e t) (f : ∀ σ H Q, t' σ H Q → t σ H Q) : PO X e t' := ⟨fun pins s σ H Q I q => h.run pins s σ H Q I (f σ H Q q)⟩
theorem _root_.L2.PTs.imp {X : Cx} {e : List Expr} {t t' : TT} (h : PTs X e t) (f : ∀ σ H Q, t' σ H Q → t σ H Q) : PTs X e t' := ⟨fun pins s σ H Q I q => h.run pins s σ H Q I (f σ H Q q)⟩
theorem o_no : POx Y k X W none .no := po_none.imp fun σ H Q z => by
  obtain ⟨G, Φ, μ, S, env, r, er, res⟩ := z
  rw [evalO] at res
  exact res.now r rfl
theorem o_so {e : Expr} {x : Ex} (h : PEx Y k X W e x) : POx Y k X W (some e) (.so x) := (po_some h).imp fun σ H Q z => by
  simp only [evalO] at z
  refine (tG_bind (Ra := rD X.K Y.M) z).imp ?_
  rintro v H1 ⟨G, Φ, μ, S, env, d, r, er, ra, res⟩
  cases ra <;> first | exact res.elim | skip
  exact ⟨_, rfl, res.now r rfl⟩
theorem c_no : PCx Y k X W [] .no := pts_nil.imp fun σ H Q z => by
  obtain ⟨G, Φ, μ, S, env, r, er, res⟩ := z
  rw [evalC] at res
  exact res.now r rfl
theorem c_so {e : Expr} {x : Ex} (h : PTx Y k X W e x) : PCx Y k X W [e] (.so x) := (pts_one h).imp fun σ H Q z => by
  simp only [tXt, evalC] at z
  exact z
end
theorem me_facts : ∀ b : ME, meB b = true → PlainAttrs b.T ∧ Slot b.T b.x b.id ∧ typeOf (.builtin b.id) = pure (.type "method_descriptor")
  | .append, _ => ⟨PySem.F.plainAttrs_list, PySem.F.slot_list_append, PySem.F.type_list_append⟩
  | .startswith, _ => ⟨PySem.F.plainAttrs_str, PySem.F.slot_str_startswith, PySem.F.type_str_startswith⟩
  | .pop, _ => ⟨PySem.F.plainAttrs_list, PySem.F.slot_list_pop, PySem.F.type_list_pop⟩
  | .extend, _ => ⟨PySem.F.plainAttrs_list, PySem.F.slot_list_extend, PySem.F.type_list_extend⟩
  | .find, _ => ⟨PySem.F.plainAttrs_str, PySem.F.slot_str_find, PySem.F.type_str_find⟩
  | .join, _ => ⟨PySem.F.plainAttrs_str, PySem.F.slot_str_join, PySem.F.type_str_join⟩
  | .get, _ => ⟨PySem.F.plainAttrs_dict, PySem.F.slot_dict_get, PySem.F.type_dict_get⟩
  | .index, _ => ⟨PySem.F.plainAttrs_str, PySem.F.slot_str_index, PySem.F.type_str_index⟩
  | .count, _ => ⟨PySem.F.plainAttrs_list, PySem.F.slot_list_count, PySem.F.type_list_count⟩
  | .dpop, _ => ⟨PySem.F.plainAttrs_dict, PySem.F.slot_dict_pop, PySem.F.type_dict_pop⟩
  | .reverse, _ => ⟨PySem.F.plainAttrs_list, PySem.F.slot_list_reverse, PySem.F.type_list_reverse⟩
theorem mf_facts : ∀ b : MF, PlainAttrs b.T ∧ Slot b.T b.x b.id ∧ typeOf (.builtin b.id) = pure (.type "method_descriptor")
  | .split => ⟨PySem.F.plainAttrs_str, PySem.F.slot_str_split, PySem.F.type_str_split⟩
mutual
theorem sndE (Y : Sys) (k : Nat) : ∀ (x : Ex) (X : Cx) (W : WX) (e : Expr), XOk Y k X W → okE Y.toTxt X.N x X.env.scope e = true → PEx Y k X W e x ∧ PTx Y k X W e x
  | .c q, X, W, e, ok, h => by
    cases e with
    | Constant c j pos =>
      simp only [okE] at h
      exact ⟨s_c h, t_of (s_c h) (fun _ => by rw [PySem.isTrue] <;> simp) fun env S => by rw [evalT, evalE]; rfl⟩
    | _ => simp [okE] at h
  | .v i, X, W, e, ok, h => by
    cases e with
    | Name x pos =>
      simp only [okE, Bool.and_eq_true, decide_eq_true_eq] at h
      refine ⟨s_v h.1.1 h.1.2 h.2, t_of (s_v h.1.1 h.1.2 h.2) (fun _ => by rw [PySem.isTrue] <;> simp) fun env S => ?_⟩
      rw [evalT, evalE]
      split <;> rfl
    | _ => simp [okE] at h
  | .g n, X, W, e, ok, h => by
    cases e with
    | Name x pos =>
      simp only [okE, Bool.and_eq_true, decide_eq_true_eq] at h
      exact ⟨s_g ok h.1.1 h.1.2 h.2, t_none fun env S => by simp [evalT]⟩
    | _ => simp [okE] at h
  | .bin o m a b, X, W, e, ok, h => by
    cases e with
    | BinOp l op r pos =>
      simp only [okE, Bool.and_eq_true, decide_eq_true_eq] at h
      obtain ⟨⟨rfl, h1⟩, h2⟩ := h
      exact ⟨s_bin (sndE Y k a X W l ok h1).1 (sndE Y k b X W r ok h2).1, t_none fun env S => by simp [evalT]⟩
    | _ => simp [okE] at h
  | .neg a, X, W, e, ok, h => by
    cases e with
    | UnaryOp op l pos =>
      cases op with
      | USub =>
        simp only [okE] at h
        exact ⟨s_neg (sndE Y k a X W l ok h).1, t_none fun env S => by simp [evalT]⟩
      | _ => simp [okE] at h
    | _ => simp [okE] at h
  | .cmp o a b, X, W, e, ok, h => by
    unfold okE at h
    split at h
    · simp only [Bool.and_eq_true, decide_eq_true_eq] at h
      obtain ⟨⟨⟨rfl, h1⟩, h2⟩, h3⟩ := h
      exact ⟨s_cmp ok (sndE Y k a X W _ ok h1).1 (sndE Y k b X W _ ok h2).1 h3, t_cmp ok (sndE Y k a X W _ ok h1).1 (sndE Y k b X W _ ok h2).1 h3⟩
    · cases h
  | .not a, X, W, e, ok, h => by
    cases e with
    | UnaryOp op l pos =>
      cases op with
      | Not =>
        simp only [okE] at h
        exact ⟨s_not (sndE Y k a X W l ok h).1, t_not (sndE Y k a X W l ok h).2⟩
      | _ => simp [okE] at h
    | _ => simp [okE] at h
  | .and a b, X, W, e, ok, h => by
    unfold okE at h
    split at h
    · rw [Bool.and_eq_true] at h
      obtain ⟨h1, h2⟩ := h
      obtain ⟨a1, a2⟩ := sndE Y k a X W _ ok h1
      obtain ⟨b1, b2⟩ := sndE Y k b X W _ ok h2
      exact ⟨s_and a1 (pe_one b1), t_and a2 (pw_and1 b2)⟩
    · rw [Bool.and_eq_true] at h
      obtain ⟨h1, h2⟩ := h
      obtain ⟨a1, a2⟩ := sndE Y k a X W _ ok h1
      obtain ⟨b1, b2⟩ := sndE Y k b X W _ ok h2
      exact ⟨s_and a1 b1, t_and a2 (PW.of_pt b2)⟩
    · cases h
  | .or a b, X, W, e, ok, h => by
    unfold okE at h
    split at h
    · rw [Bool.and_eq_true] at h
      obtain ⟨h1, h2⟩ := h
      obtain ⟨a1, a2⟩ := sndE Y k a X W _ ok h1
      obtain ⟨b1, b2⟩ := sndE Y k b X W _ ok h2
      exact ⟨s_or a1 (pe_one b1), t_or a2 (pw_or1 b2)⟩
    · rw [Bool.and_eq_true] at h
      obtain ⟨h1, h2⟩ := h
      obtain ⟨a1, a2⟩ := sndE Y k a X W _ ok h1
      obtain ⟨b1, b2⟩ := sndE Y k b X W _ ok h2
      exact ⟨s_or a1 b1, t_or a2 (PW.of_pt b2)⟩
    · cases h
  | .ite t a b, X, W, e, ok, h => by
    cases e with
    | IfExp c l r pos =>
      simp only [okE, Bool.and_eq_true] at h
      exact ⟨s_ite (sndE Y k t X W _ ok h.1.1).2 (sndE Y k a X W _ ok h.1.2).1 (sndE Y k b X W _ ok h.2).1, t_none fun env S => by simp [evalT]⟩
    | _ => simp [okE] at h
  | .tup es, X, W, e, ok, h => by
    cases e with
    | Tuple xs j pos =>
      simp only [okE] at h
      exact ⟨s_tup (sndEs Y k es X W xs ok h), t_none fun env S => by simp [evalT]⟩
    | _ => simp [okE] at h
  | .lst m es, X, W, e, ok, h => by
    cases e with
    | List xs pos =>
      simp only [okE] at h
      exact ⟨s_lst (sndEs Y k es X W xs ok h), t_none fun env S => by simp [evalT]⟩
    | _ => simp [okE] at h
  | .dct m t ks vs, X, W, e, ok, h => by
    cases e with
    | Dict keys values pos =>
      simp only [okE, Bool.and_eq_true] at h
      exact ⟨s_dct h.1 h.2.1 h.2.2, t_none fun env S => by simp [evalT]⟩
    | _ => simp [okE] at h
  | .ix a i, X, W, e, ok, h => by
    cases e with
    | Subscript l r pos =>
      simp only [okE, Bool.and_eq_true] at h
      have s := s_ix ok (pos := pos) (sndE Y k a X W l ok h.1.1).1 (sndE Y k i X W r ok h.1.2).1 h.2
      exact ⟨s, t_of s (fun _ => by rw [PySem.isTrue] <;> simp) fun env S => by rw [evalT, evalE]⟩
    | _ => simp [okE] at h
  | .sl m a lo hi, X, W, e, ok, h => by
    unfold okE at h
    split at h
    · simp only [Bool.and_eq_true] at h
      exact ⟨s_sl (sndE Y k a X W _ ok h.1.1).1 (sndO Y k lo X W _ ok h.1.2) (sndO Y k hi X W _ ok h.2), t_none fun env S => by simp [evalT]⟩
    · cases h
  | .call f p es, X, W, e, ok, h => by
    unfold okE at h
    split at h
    · rename_i x pn y ys pos
      simp only [Bool.and_eq_true] at h
      obtain ⟨⟨⟨h1, h2⟩, h3⟩, h4⟩ := h
      split at h1
      · rename_i fn hf
        simp only [Bool.and_eq_true, decide_eq_true_eq, Bool.not_eq_true', beq_eq_false_iff_ne] at h1
        have s := s_call (pos := pos) (pn := pn) (p := p) ok hf h1.1 h1.2 h2 h3 (okEs_no es _ h4) (sndEs Y k es X W _ ok h4)
        exact ⟨s, t_of s (fun _ => by rw [PySem.isTrue] <;> simp) fun env S => by rw [evalT, evalE]⟩
      · cases h1
    · cases h
  | .bi b es, X, W, e, ok, h => by
    unfold okE at h
    split at h
    · rename_i x pn y ys pos
      simp only [Bool.and_eq_true, decide_eq_true_eq] at h
      obtain ⟨⟨rfl, h2⟩, h4⟩ := h
      have s := s_bi (pos := pos) (pn := pn) ok h2 (okEs_no es _ h4) (sndEs Y k es X W _ ok h4)
      exact ⟨s, t_of s (fun _ => by rw [PySem.isTrue] <;> simp) fun env S => by rw [evalT, evalE]⟩
    · cases h
  | .bf b m es, X, W, e, ok, h => by
    unfold okE at h
    split at h
    · rename_i x pn y ys pos
      simp only [Bool.and_eq_true, decide_eq_true_eq] at h
      obtain ⟨⟨rfl, h2⟩, h4⟩ := h
      exact ⟨s_bf (pos := pos) (pn := pn) ok h2 (okEs_no es _ h4) (sndEs Y k es X W _ ok h4), t_none fun env S => by simp [evalT]⟩
    · cases h
  | .me b o es, X, W, e, ok, h => by
    unfold okE at h
    split at h
    · rename_i l x apos y ys cpos
      simp only [Bool.and_eq_true, decide_eq_true_eq] at h
      obtain ⟨⟨⟨⟨⟨⟨h1, rfl⟩, h2⟩, h3⟩, h4⟩, h5⟩, h6⟩ := h
      obtain ⟨f1, f2, f3⟩ := me_facts b h1
      have s := s_me ok (apos := apos) (cpos := cpos) h2 h3 h4 (okEs_no es _ h6) f1 f2 f3 (sndE Y k o X W l ok h5).1 (sndEs Y k es X W _ ok h6)
      exact ⟨s, t_of s (fun _ => by rw [PySem.isTrue] <;> simp) fun env S => by rw [evalT, evalE]⟩
    · rename_i l x apos cpos
      simp only [Bool.and_eq_true, decide_eq_true_eq] at h
      obtain ⟨⟨⟨⟨⟨h1, rfl⟩, h2⟩, h3⟩, h5⟩, h6⟩ := h
      obtain ⟨f1, f2, f3⟩ := me_facts b h1
      cases es with
      | nil =>
        have s := s_me0 ok (apos := apos) (cpos := cpos) h2 h3 f1 f2 f3 (sndE Y k o X W l ok h5).1
        exact ⟨s, t_of s (fun _ => by rw [PySem.isTrue] <;> simp) fun env S => by rw [evalT, evalE]⟩
      | cons _ _ => simp [okEs] at h6
    · cases h
  | .mf b m o es, X, W, e, ok, h => by
    unfold okE at h
    split at h
    · rename_i l x apos y ys cpos
      simp only [Bool.and_eq_true, decide_eq_true_eq] at h
      obtain ⟨⟨⟨⟨⟨rfl, h2⟩, h3⟩, h4⟩, h5⟩, h6⟩ := h
      obtain ⟨f1, f2, f3⟩ := mf_facts b
      exact ⟨s_mf ok (apos := apos) (cpos := cpos) h2 h3 h4 (okEs_no es _ h6) f1 f2 f3 (sndE Y k o X W l ok h5).1 (sndEs Y k es X W _ ok h6), t_none fun env S => by simp [evalT]⟩
    · cases h
  | .lens a, X, W, e, ok, h => by
    unfold okE at h
    split at h
    · simp only [Bool.and_eq_true, decide_eq_true_eq] at h
      obtain ⟨⟨⟨⟨⟨rfl, h2⟩, rfl⟩, h4⟩, h5⟩, h6⟩ := h
      exact ⟨s_lens ok h2 h4 h5 (sndE Y k a X W _ ok h6).1, t_none fun env S => by simp [evalT]⟩
    · cases h
  | .isi a t, X, W, e, ok, h => by
    unfold okE at h
    split at h
    · simp only [Bool.and_eq_true, decide_eq_true_eq] at h
      obtain ⟨⟨⟨⟨⟨rfl, h2⟩, rfl⟩, h4⟩, h5⟩, h6⟩ := h
      refine ⟨s_isi ok h2 h4 h5 (sndE Y k a X W _ ok h6).1, t_of (s_isi ok h2 h4 h5 (sndE Y k a X W _ ok h6).1) (fun _ => by rw [PySem.isTrue] <;> simp) fun env S => ?_⟩
      rw [evalT, evalE]
      cases evalE (Y.Γ k) Y.T a env S with
      | none => rfl
      | some z =>
        cases z with
        | ex c S1 => rfl
        | ok d S1 =>
          simp only [bnd_ok]
          cases isiD S1 d t <;> rfl
    · cases h
  | .att c o f, X, W, e, ok, h => by
    unfold okE at h
    split at h
    · rename_i l x pos
      simp only [Bool.and_eq_true, decide_eq_true_eq] at h
      obtain ⟨⟨⟨rfl, h2⟩, h3⟩, h4⟩ := h
      have s := s_att ok (pos := pos) h2 h3 (sndE Y k o X W _ ok h4).1
      exact ⟨s, t_of s (fun _ => by rw [PySem.isTrue] <;> simp) fun env S => by rw [evalT, evalE]⟩
    · cases h
  | .mcl c f m p o es, X, W, e, ok, h => by
    unfold okE at h
    split at h
    · rename_i l x apos ys cpos
      simp only [Bool.and_eq_true, decide_eq_true_eq] at h
      obtain ⟨⟨⟨⟨⟨⟨rfl, h2⟩, h3⟩, h4⟩, h5⟩, h6⟩, h7⟩ := h
      have s := s_mcl ok (p := p) (apos := apos) (cpos := cpos) h2 h3 h4 h5 h7 (sndE Y k o X W _ ok h6).1 (sndEs Y k es X W _ ok h7)
      exact ⟨s, t_of s (fun _ => by rw [PySem.isTrue] <;> simp) fun env S => by rw [evalT, evalE]⟩
    · cases h
  | .mk c f m es, X, W, e, ok, h => by
    unfold okE at h
    split at h
    · simp only [Bool.and_eq_true] at h
      obtain ⟨⟨⟨h1, h2⟩, h3⟩, h4⟩ := h
      exact ⟨s_mk ok h1 h2 h3 (okEs_no es _ h4) (sndEs Y k es X W _ ok h4), t_none fun env S => by simp [evalT]⟩
    · cases h
  | .rev m x, X, W, e, ok, h => by
    unfold okE at h
    split at h
    · exact ⟨s_rev (sndE Y k x X W _ ok h).1, t_none fun env S => by simp [evalT]⟩
    · cases h
  | .fze x, X, W, e, ok, h => by
    simp only [okE] at h
    exact ⟨s_fze (sndE Y k x X W e ok h).1, t_none fun env S => by simp [evalT]⟩
  | .fnv f, X, W, e, ok, h => by
    unfold okE at h
    split at h
    · simp only [Bool.and_eq_true] at h
      obtain ⟨⟨h1, h2⟩, h3⟩ := h
      split at h1
      · rename_i fn hf
        simp only [Bool.and_eq_true, decide_eq_true_eq, Bool.not_eq_true', beq_eq_false_iff_ne] at h1
        exact ⟨s_fnv ok hf h1.1 h1.2 h2 h3, t_none fun env S => by simp [evalT]⟩
      · cases h1
    · cases h
  | .callv i p fs es, X, W, e, ok, h => by
    unfold okE at h
    split at h
    · rename_i x pn y ys pos
      simp only [Bool.and_eq_true, decide_eq_true_eq] at h
      obtain ⟨⟨⟨⟨h1, h2⟩, h3⟩, h4⟩, h5⟩ := h
      exact ⟨s_callv (pos := pos) (pn := pn) (p := p) ok h1 h2 h3 (okEs_no es _ h5) h4 (sndEs Y k es X W _ ok h5), t_none fun env S => by simp [evalT]⟩
    · cases h
  | .lcD m own kd tg d cond x, X, W, e, ok, h => by
    unfold okE at h
    split at h
    · rename_i elt t iter ifs scope pos
      simp only [Bool.and_eq_true] at h
      obtain ⟨⟨⟨⟨⟨⟨h1, h2⟩, h3, h3'⟩, h4⟩, h5⟩, h6⟩, h7⟩ := h
      split at h3'
      · rename_i l hl
        obtain ⟨wi, w1, w2⟩ := okW_walk (X := X) (Y := Y) hl
        refine ⟨s_lcD ok h1 h2 (sndR ok h3 h3') w1 w2 h4 h5 (fun s H C cl fp => ?_) (fun s H C cl fp => ?_), t_none fun env S => by simp [evalT]⟩
        · exact sndC Y k cond _ Wno _ (ok.blk s H _ _ fp (blkOk_by h1).kind) h6
        · exact (sndE Y k x _ Wno _ (ok.blk s H _ _ fp (blkOk_by h1).kind) h7).1
      · cases h3'
    · cases h
  | .lc m own tg it cond x, X, W, e, ok, h => by
    unfold okE at h
    split at h
    · simp only [Bool.and_eq_true] at h
      obtain ⟨⟨⟨⟨⟨⟨h1, h2⟩, h3⟩, h4⟩, h5⟩, h6⟩, h7⟩ := h
      refine ⟨s_lc ok h1 h2 (sndI Y k it X W _ _ ok h3) h4 h5 (fun s H C cl fp => ?_) (fun s H C cl fp => ?_), t_none fun env S => by simp [evalT]⟩
      · exact sndC Y k cond _ Wno _ (ok.blk s H _ _ fp (blkOk_by h1).kind) h6
      · exact (sndE Y k x _ Wno _ (ok.blk s H _ _ fp (blkOk_by h1).kind) h7).1
    · cases h
  | .lc2 m own tg it cond vs tg1 it1 cond1 x, X, W, e, ok, h => by
    unfold okE at h
    split at h
    · simp only [Bool.and_eq_true] at h
      obtain ⟨⟨⟨⟨⟨⟨h1, h2⟩, h3⟩, h4⟩, h5⟩, h6⟩, ⟨⟨⟨⟨⟨h7, h8⟩, h9⟩, h10⟩, h11⟩, h12⟩, h13⟩ := h
      refine ⟨s_lc2 ok h1 h2 h7 (sndI Y k it X W _ _ ok h3) h4 h5 h9 h10 h11 (fun s H C cl fp => ?_) (fun s H C cl fp => ?_) (fun s H C cl fp => ?_) (fun s H C cl fp => ?_), t_none fun env S => by simp [evalT]⟩
      · exact sndC Y k cond _ Wno _ (ok.blk s H _ _ fp (blkOk_by h1).kind) h6
      · exact sndI Y k it1 _ Wno _ _ (ok.blk s H _ _ fp (blkOk_by h1).kind) h8
      · exact sndC Y k cond1 _ Wno _ (ok.blk s H _ _ fp (blkOk_by h1).kind) h12
      · exact (sndE Y k x _ Wno _ (ok.blk s H _ _ fp (blkOk_by h1).kind) h13).1
    · cases h
theorem sndEs (Y : Sys) (k : Nat) : ∀ (xs : Exs) (X : Cx) (W : WX) (es : List Expr), XOk Y k X W → okEs Y.toTxt X.N xs X.env.scope es = true → PAx Y k X W es xs
  | .nil, X, W, es, ok, h => by
    cases es with
    | nil => exact a_nil
    | cons _ _ => simp [okEs] at h
  | .cons x r, X, W, es, ok, h => by
    cases es with
    | nil => simp [okEs] at h
    | cons e es =>
      simp only [okEs, Bool.and_eq_true] at h
      exact a_cons h.1.1 (sndE Y k x X W e ok h.1.2).1 (sndEs Y k r X W es ok h.2)
theorem sndO (Y : Sys) (k : Nat) : ∀ (x : Oe) (X : Cx) (W : WX) (e : Option Expr), XOk Y k X W → okP Y.toTxt X.N x X.env.scope e = true → POx Y k X W e x
  | .no, X, W, e, ok, h => by
    cases e with
    | none => exact o_no
    | some _ => simp [okP] at h
  | .so x, X, W, e, ok, h => by
    cases e with
    | none => simp [okP] at h
    | some e => simp only [okP] at h; exact o_so (sndE Y k x X W e ok h).1
theorem sndC (Y : Sys) (k : Nat) : ∀ (x : Oe) (X : Cx) (W : WX) (e : List Expr), XOk Y k X W → okC Y.toTxt X.N x X.env.scope e = true → PCx Y k X W e x
  | .no, X, W, e, ok, h => by
    cases e with
    | nil => exact c_no
    | cons _ _ => simp [okC] at h
  | .so x, X, W, e, ok, h => by
    unfold okC at h
    split at h
    · exact c_so (sndE Y k x X W _ ok h).2
    · cases h
theorem sndI (Y : Sys) (k : Nat) : ∀ (x : Itr) (X : Cx) (W : WX) (e tg : Expr), XOk Y k X W → okI Y.toTxt X.N x X.env.scope e tg = true → PIx Y k X W tg e x
  | .of x, X, W, e, tg, ok, h => by
    simp only [okI] at h
    exact i_of (sndE Y k x X W e ok h).1
  | .rng1 a, X, W, e, tg, ok, h => by
    unfold okI at h
    split at h
    · simp only [Bool.and_eq_true, decide_eq_true_eq] at h
      obtain ⟨⟨⟨rfl, h2⟩, h3⟩, h4⟩ := h
      exact i_rng1 ok h2 h3 (sndE Y k a X W _ ok h4).1
    · cases h
  | .rng2 a b, X, W, e, tg, ok, h => by
    unfold okI at h
    split at h
    · simp only [Bool.and_eq_true, decide_eq_true_eq] at h
      obtain ⟨⟨⟨⟨⟨rfl, h2⟩, h3⟩, h4⟩, h5⟩, h6⟩ := h
      exact i_rng2 ok h2 h3 h4 (sndE Y k a X W _ ok h5).1 (sndE Y k b X W _ ok h6).1
    · cases h
  | .enum a, X, W, e, tg, ok, h => by
    unfold okI at h
    split at h
    · simp only [Bool.and_eq_true, decide_eq_true_eq] at h
      obtain ⟨⟨⟨⟨rfl, h2⟩, h3⟩, h4⟩, h5⟩ := h
      exact i_enum ok h4 h2 h3 (sndE Y k a X W _ ok h5).1
    · cases h
end
end Ip
/-! ## Statements, defs -/
namespace Ip
open PySem PySem.Spec PyProof.Rows L2

def notComp : Expr → Bool
  | .ListComp .. => false
  | .SetComp .. => false
  | .DictComp .. => false
  | _ => true
def notTup : Expr → Bool
  | .Tuple .. => false
  | _ => true
theorem swaps_no {e : Expr} (h : notComp e = true) (t : Option Expr) (l : Nat) (env : Env) : swapsWith e t l env = pure false := by
  cases e <;> first | rfl | cases h
theorem swapped_no {e : Expr} (h : notTup e = true) (ts : List Expr) (env : Env) : swappedStores ts e env = pure none := by
  cases e <;> first | (cases h; done) | (rcases ts with _ | ⟨t, _ | ⟨t2, r⟩⟩ <;> first | rfl | (cases t <;> rfl))
/-- is a list made by a comprehension stored ahead of its variables' going? -/
def swB (sc : Scope) (t : Str) (tl : Nat) : Expr → Bool
  | .ListComp _ _ s pos => (sc.names.lookup t == some .local) && tl == pos.line && !(s.names.any fun (n, k) => n == t && (k == .local || k == .cell))
  | _ => false
theorem swaps_is {e : Expr} {t : Str} {p : Pos} {l : Nat} {env : Env} (hk : env.scope.kind = .function) (hc : notComp e = true ∨ ∃ a b c d, e = .ListComp a b c d) : swapsWith e (some (.Name t p)) l env = pure (swB env.scope t p.line e) := by
  rcases hc with hc | ⟨a, b, c, d, rfl⟩
  · rw [swaps_no hc]
    cases e <;> first | rfl | cases hc
  · have hb : (env.blockKind == ScopeKind.function) = true := by
      unfold Env.blockKind
      rw [hk] <;> rfl
    show (return env.blockKind == .function && env.kindOf t == some .local && p.line == d.line
      && !(c.names.any fun (n, k) => n == t && (k == .local || k == .cell)) : Sem Bool) = _
    rw [hb, Bool.true_and]
    rfl
def isLC : Expr → Bool
  | .ListComp .. => true
  | _ => false
def asgOk (sc : Scope) (e : Expr) : Expr → Bool
  | .Name y p => notComp e || (isLC e && !(swB sc y p.line e))
  | .Tuple _ _ _ => notComp e && notTup e
  | _ => false
mutual
/-- what may stand in an except suite -/
def simB : Ex → Bool
  | .c _ => true
  | .v _ => true
  | .neg a => simB a
  | .bin _ _ a b => simB a && simB b
  | .tup es => simBs es
  | .lst _ es => simBs es
  | _ => false
def simBs : Exs → Bool
  | .nil => true
  | .cons x r => simB x && simBs r
end
def okHd (Y : Txt) (N : List Str) (h : Hd) (sc : Scope) (nm : Option Str) (l : List Stmt) : Bool := match h, nm, l with
  | .ret x, _, [.Return (some e) _] => simB x && okE Y N x sc e
  | .retI s j, some n, [.Return (some (.Tuple [.Constant c _ _, .Call (.Name f _) [.Name m _, .Name y _] [] _] _ _)) _] => cstB s c && decide (f = "isinstance") && glB sc f && decide (m = n) && nmOk n && visB sc n && decide (Y.xn[j]? = some y) && glB sc y && nmOk y
  | .asg i x, none, [.Assign [.Name y _] e _] => simB x && okE Y N x sc e && decide (N[i]? = some y) && (decide (sc.names.lookup y = some .local) || decide (sc.names.lookup y = some .cell)) && notComp e
  | _, _, _ => false
def okNm (N : List Str) (sc : Scope) (nm : Option Nat) (nm' : Option Str) : Bool := match nm, nm' with
  | none, none => true
  | some i, some n => decide (N[i]? = some n) && decide (sc.names.lookup n = some .local)
  | _, _ => false
mutual
def okS (Y : Txt) (N : List Str) : Stm → Scope → Stmt → Bool
  | .asg t x, sc, s => match s with
    | .Assign [tg] e _ => okT N (fun _ => true) t sc tg && okE Y N x sc e && asgOk sc e tg
    | _ => false
  | .asgC i m own tg it cond x, sc, s => match s with
    | .Assign [.Name y p] (.ListComp elt [⟨t, iter, ifs, 0⟩] scope lp) _ => decide (N[i]? = some y) && decide (sc.names.lookup y = some .local) && swB sc y p.line (.ListComp elt [⟨t, iter, ifs, 0⟩] scope lp) &&
        okE Y N (.lc m own tg it cond x) sc (.ListComp elt [⟨t, iter, ifs, 0⟩] scope lp)
    | _ => false
  | .asgCD i m own kd tg d cond x, sc, s => match s with
    | .Assign [.Name y p] (.ListComp elt [⟨t, iter, ifs, 0⟩] scope lp) _ => decide (N[i]? = some y) && decide (sc.names.lookup y = some .local) && swB sc y p.line (.ListComp elt [⟨t, iter, ifs, 0⟩] scope lp) &&
        okE Y N (.lcD m own kd tg d cond x) sc (.ListComp elt [⟨t, iter, ifs, 0⟩] scope lp)
    | _ => false
  | .asgS o i x, sc, s => match s with
    | .Assign [.Subscript l r _] e _ => okE Y N x sc e && okE Y N o sc l && okE Y N i sc r && (notComp e || isLC e) && plainIxB r
    | _ => false
  | .asgA c o f x, sc, s => match s with
    | .Assign [.Attribute l y _] e _ => decide (y = f) && attB Y c f && okE Y N x sc e && okE Y N o sc l && (notComp e || isLC e)
    | _ => false
  | .aug i o x, sc, s => match s with
    | .AugAssign (.Name y _) op e _ => decide (N[i]? = some y) && locB sc y && decide (op = o.op) && (decide (o = .add) || decide (o = .sub)) && okE Y N x sc e
    | _ => false
  | .augS a i o x, sc, s => match s with
    | .AugAssign (.Subscript l r _) op e _ => decide (op = o.op) && (decide (o = .add) || decide (o = .sub)) && okE Y N a sc l && okE Y N i sc r && okE Y N x sc e && plainIxB r
    | _ => false
  | .ex x, sc, s => match s with
    | .Expr e _ => okE Y N x sc e && notComp e
    | _ => false
  | .ret x, sc, s => match s with
    | .Return (some e) _ => okE Y N x sc e
    | _ => false
  | .retN, _, s => match s with
    | .Return none _ => true
    | _ => false
  | .ifs c a b, sc, s => match s with
    | .If e l r _ => okE Y N c sc e && okSs Y N a sc l && okSs Y N b sc r
    | _ => false
  | .for t it b, sc, s => match s with
    | .For tg e l [] _ => okT N (fun _ => true) t sc tg && okI Y N it sc e tg && notSet e && okSs Y N b sc l
    | _ => false
  | .forD kd t x b, sc, s => match s with
    | .For tg it l [] _ => okT N (fun _ => true) t sc tg && notSet it && simpB x && (match okW kd tg it with
      | some e => okE Y N x sc e
      | none => false) && okSs Y N b sc l
    | _ => false
  | .whl c b, sc, s => match s with
    | .While e l [] _ => okE Y N c sc e && okSs Y N b sc l
    | _ => false
  | .brk, _, s => match s with
    | .Break _ => true
    | _ => false
  | .cont, _, s => match s with
    | .Continue _ => true
    | _ => false
  | .pass, _, s => match s with
    | .Pass _ => true
    | _ => false
  | .raise c, sc, s => match s with
    | .Raise (some (.Call (.Name x _) [] [] _)) none _ => decide (Y.xn[c]? = some x) && glB sc x && nmOk x
    | _ => false
  | .tryE b c nm h, sc, s => match s with
    | .Try body [.ExceptHandler (some (.Name x _)) nm' (b0 :: suite) _] [] [] _ => decide (Y.xn[c]? = some x) && glB sc x && nmOk x && okNm N sc nm nm' && okSs Y N b sc body && okHd Y N h sc nm' (b0 :: suite)
    | _ => false
def okSs (Y : Txt) (N : List Str) : Stms → Scope → List Stmt → Bool
  | .nil, _, l => l.isEmpty
  | .cons s r, sc, l => match l with
    | x :: l => okS Y N s sc x && okSs Y N r sc l
    | [] => false
  | .fz _ r, sc, l => okSs Y N r sc l
  | .fzd _ r, sc, l => okSs Y N r sc l
end
section
variable {K : PySem.W.Frag} {M : Am}
def SRes (K : PySem.W.Frag) (M : Am) (W : WX) (G Φ : Hp) (μ : Mu) (r : Option So) (Dn : Ends) : Prop :=
  match r with
  | some (.nx e S) => ∀ G' μ' H' σ', Gr Φ G μ G' μ' → Rel K M G' Φ μ' S H' → EnR K M G' μ' e σ' → Dn.nx σ' H'
  | some (.bk e S) => ∀ G' μ' H' σ', Gr Φ G μ G' μ' → Rel K M G' Φ μ' S H' → EnR K M G' μ' e σ' → Dn.bk σ' H'
  | some (.ct e S) => ∀ G' μ' H' σ', Gr Φ G μ G' μ' → Rel K M G' Φ μ' S H' → EnR K M G' μ' e σ' → Dn.ct σ' H'
  | some (.rt d S) => ∀ G' μ' H' v, Gr Φ G μ G' μ' → Rel K M G' Φ μ' S H' → RD K M G' μ' d v → Dn.rt v H'
  | some (.ex c e S) => ∀ G' μ' H' σ', Gr Φ G μ G' μ' → Rel K M G' Φ μ' S H' → EnR K M G' μ' e σ' → W (.ref (M.exc c)) none σ' H'
  | none => False
variable {W : WX} {σ : L2.St} {G G1 Φ : Hp} {μ μ1 : Mu} {S : Sto} {H : Hp} {env : En}
theorem SRes.mono {r : Option So} {Dn : Ends} (g : Gr Φ G μ G1 μ1) (h : SRes K M W G Φ μ r Dn) : SRes K M W G1 Φ μ1 r Dn := by
  cases r with
  | none => exact h
  | some z => cases z <;> exact fun G' μ' H' b g' => h G' μ' H' b (g.trans g')
theorem SRes.nx {Dn : Ends} {e : En} (h : SRes K M W G Φ μ (some (.nx e S)) Dn) (r : Rel K M G Φ μ S H) (er : EnR K M G μ e σ) : Dn.nx σ H := h G μ H σ .refl r er
def tS (K : PySem.W.Frag) (M : Am) (W : WX) (f : En → Sto → Option So) : TS := fun Dn σ H => ∃ G Φ μ S env, Rel K M G Φ μ S H ∧ EnR K M G μ env σ ∧ SRes K M W G Φ μ (f env S) Dn
/-- an expression ahead of the rest of its statement -/
theorem tS_bind {α β : Type} {Ra : Hp → Mu → α → β → Prop} {ev : En → Sto → Option (Ro α)} {f : En → α → Sto → Option So} {Dn : Ends}
    (h : tS K M W (fun env S => bnS (ev env S) env (f env)) Dn σ H) :
    tG K M W Ra ev σ H fun b H1 => ∃ G Φ μ S env a, Rel K M G Φ μ S H1 ∧ EnR K M G μ env σ ∧ Ra G μ a b ∧ SRes K M W G Φ μ (f env a S) Dn := by
  obtain ⟨G, Φ, μ, S, env, r, er, res⟩ := h
  refine ⟨G, Φ, μ, S, env, r, er, ?_⟩
  cases e : ev env S with
  | none => simp only [e] at res; exact res
  | some z =>
    cases z with
    | ok a S1 =>
      simp only [e, bnS_ok] at res
      exact fun G' μ' H' b g' r' q => ⟨G', Φ, μ', S1, env, a, r', er.grow g', q, SRes.mono g' res⟩
    | ex c S1 =>
      simp only [e, bnS_ex] at res
      exact fun G' μ' H' g' r' => res G' μ' H' σ g' r' (er.grow g')
theorem tS_go {α β : Type} {Ra : Hp → Mu → α → β → Prop} {x : Option (Ro α)} {f : α → Sto → Option So} {Dn : Ends} (er : EnR K M G μ env σ)
    (res : SRes K M W G Φ μ (bnS x env f) Dn) : Res K M W σ G Φ μ x Ra fun b H1 => ∃ G1 μ1 S1 a, Gr Φ G μ G1 μ1 ∧ Rel K M G1 Φ μ1 S1 H1 ∧ EnR K M G1 μ1 env σ ∧ Ra G1 μ1 a b ∧ SRes K M W G1 Φ μ1 (f a S1) Dn := by
  cases x with
  | none => exact res
  | some z =>
    cases z with
    | ok a S1 => exact fun G' μ' H' b g' r' q => ⟨G', μ', S1, a, g', r', er.grow g', q, SRes.mono g' res⟩
    | ex c S1 => exact fun G' μ' H' g' r' => res G' μ' H' σ g' r' (er.grow g')
theorem SRes.seq {x : Option So} {f : En → Sto → Option So} {Dn : Ends} (h : SRes K M W G Φ μ (seqS x f) Dn) : SRes K M W G Φ μ x { Dn with nx := tS K M W f Dn } := by
  cases x with
  | none => exact h
  | some z =>
    cases z with
    | nx e S => exact fun G' μ' H' σ' g r er => ⟨G', Φ, μ', S, e, r, er, SRes.mono g h⟩
    | bk e S => exact h
    | ct e S => exact h
    | rt d S => exact h
    | ex c e S => exact h
end
theorem _root_.L2.PS.imp {X : Cx} {s : Stmt} {t t' : TS} (h : PS X s t) (f : ∀ D σ H, t' D σ H → t D σ H) : PS X s t' := ⟨fun pins s σ H D I q => h.run pins s σ H D I (f D σ H q)⟩
theorem _root_.L2.PSs.imp {X : Cx} {s : List Stmt} {t t' : TS} (h : PSs X s t) (f : ∀ D σ H, t' D σ H → t D σ H) : PSs X s t' := ⟨fun pins s σ H D I q => h.run pins s σ H D I (f D σ H q)⟩
abbrev PSx (Y : Sys) (k : Nat) (X : Cx) (W : WX) (s : Stmt) (x : Stm) : Prop := PS X s (tS X.K Y.M W (exec (Y.Γ k) Y.T x))
abbrev PSsx (Y : Sys) (k : Nat) (X : Cx) (W : WX) (s : List Stmt) (x : Stms) : Prop := PSs X s (tS X.K Y.M W (execs (Y.Γ k) Y.T x))
section
variable {Y : Sys} {k : Nat} {X : Cx} {W : WX} {pos : Pos}
theorem locB_ok {sc : Scope} {x : Str} (h : locB sc x = true) : Loc sc x := by
  unfold locB at h
  split at h
  · rename_i e; exact .inl e
  · rename_i e; exact .inr e
  · cases h
theorem asg_go {t : Tg} {x : Ex} {Dn : Ends} {σ : L2.St} {H : Hp} (z : tS X.K Y.M W (fun env S => bnS (evalE (Y.Γ k) Y.T x env S) env fun d S1 => match asgT t d env with
    | some env1 => some (.nx env1 S1)
    | none => none) Dn σ H) : tAsg (tX X.K Y.M W (evalE (Y.Γ k) Y.T x)) (gT X.K t) Dn σ H := by
  refine (tS_bind (Ra := rD X.K Y.M) z).imp ?_
  rintro v H1 ⟨G, Φ, μ, S, env, d, r, er, ra, res⟩
  try dsimp only at res
  split at res
  · rename_i env1 e
    exact gT_ok r t d v env env1 σ _ ra er e fun σ' e' l f => res.nx r e'
  · exact res.elim
theorem ss_asg (ok : XOk Y k X W) {t : Tg} {x : Ex} {tg e : Expr} (hfn : ∀ x, X.fn x = true) (ht : okT X.N (fun _ => true) t X.env.scope tg = true) (he : PEx Y k X W e x)
    (hc : asgOk X.env.scope e tg = true) : PSx Y k X W (.Assign [tg] e pos) (.asg t x) := by
  have im : ∀ {t' : TS}, PS X (.Assign [tg] e pos) t' → (∀ D σ H, tAsg (tX X.K Y.M W (evalE (Y.Γ k) Y.T x)) (gT X.K t) D σ H → t' D σ H) → PSx Y k X W (.Assign [tg] e pos) (.asg t x) := fun h1 h2 =>
    h1.imp fun D σ H z => h2 D σ H (asg_go (by simp only [tS, exec] at z; exact z))
  cases tg with
  | Name y p =>
    unfold asgOk at hc
    cases t with
    | n i =>
      simp only [okT, Bool.and_eq_true, decide_eq_true_eq, Bool.or_eq_true, and_true] at ht
      refine im (ps_set ok.nd ht.1 ht.2 he ?_ (.inl (hfn _))) fun D σ H z => by rw [gT] at z; exact z
      rw [Bool.or_eq_true, Bool.and_eq_true] at hc
      rcases hc with hc | ⟨h1, h2⟩
      · exact swaps_no hc _ _ _
      · rw [swaps_is ok.kind (.inr (by
          cases e <;> first | exact ⟨_, _, _, _, rfl⟩ | cases h1))]
        rw [Bool.not_eq_true'] at h2
        rw [h2]
    | t ts => simp [okT] at ht
  | Tuple es j p =>
    unfold asgOk at hc
    rw [Bool.and_eq_true] at hc
    exact im (ps_asg he (sndT (fun x _ => hfn x) ok.calm ok.nd t _ ht) (by show swapsWith e (some (.Tuple es j p)) pos.line X.env = _; exact swaps_no hc.1 _ _ _) (swapped_no hc.2 _ _) rfl) fun _ _ _ z => z
  | _ => cases hc
theorem ss_asgS (ok : XOk Y k X W) {o i e : Expr} {p : Pos} {xo xi x : Ex} (ho : PEx Y k X W o xo) (hi : PEx Y k X W i xi) (he : PEx Y k X W e x) (h1 : (notComp e || isLC e) = true) (h3 : plainIxB i = true) :
    PSx Y k X W (.Assign [.Subscript o i p] e pos) (.asgS xo xi x) := by
  have ha : ∀ v, assign (.Subscript o i p) X.env v = (do
      let ov ← holding [v] (eval o X.env)
      let iv ← holding [v, ov] (eval i X.env)
      standAt p
      holding [v, ov, iv] (setItem ov iv v)
      release [v, ov, iv] []) := fun v => by
    cases i <;> first | rfl | cases h3
  refine (ps_asg he (pg_sub ho hi (PSet.or set_list (set_dct (by have := ok.room.un; omega))) ha) (by
    show swapsWith e (some (.Subscript o i p)) pos.line X.env = _
    rw [Bool.or_eq_true] at h1
    rcases h1 with h1 | h1
    · exact swaps_no h1 _ _ _
    · cases e <;> first | rfl | cases h1) (by cases e <;> rfl) rfl).imp fun D σ H z => ?_
  simp only [tS, exec] at z
  refine (tS_bind (Ra := rD X.K Y.M) z).imp ?_
  rintro v H1 ⟨G, Φ, μ, S, env, d, r, er, ra, res⟩
  refine ⟨G, Φ, μ, S, env, r, er, (tS_go (Ra := rD X.K Y.M) er res).imp ?_⟩
  rintro v2 H2 ⟨G1, μ1, S1, d1, g1, r1, e1, q1, res1⟩
  refine ⟨G1, Φ, μ1, S1, env, r1, e1, (tS_go (Ra := rD X.K Y.M) e1 res1).imp ?_⟩
  rintro v3 H3 ⟨G2, μ2, S2, d2, g2, r2, e2, q2, res2⟩
  have q1 : RD X.K Y.M G1 μ1 d1 v2 := q1
  have q1' := q1.up g2
  have qa := (RD.up (RD.up ra g1) g2)
  try dsimp only at res2
  have put : ∀ {n : Nat} {d3 : Ip.D} {a : Addr}, μ2 n = some a → RD X.K Y.M G2 μ2 d3 v3 → SRes X.K Y.M W G2 Φ μ2 (putS n d3 d env S2) D → ∃ a' H', V.ref a = V.ref a' ∧ DPut H3 a' v3 v H' ∧ D.nx σ H' := fun {n d3 a} hm qk rs => by
    unfold putS at rs
    split at rs
    · rename_i t ks vs hs
      split at rs
      · rename_i hz
        cases hp : dPut (t, ks, vs) d3 d with
        | none => rw [hp] at rs; exact rs.elim
        | some q =>
          rw [hp] at rs
          obtain ⟨H', h1, h2⟩ := dPut_ok r2 hm hs hz qk qa hp
          exact ⟨a, H', rfl, h1, rs.nx h2 e2⟩
      · exact rs.elim
    · exact rs.elim
  split at res2
  · cases q1' with
    | ref hm =>
      cases q2
      split at res2
      · rename_i xs hg
        split at res2
        · rename_i j hj
          obtain ⟨ys, h4, h5⟩ := r2.look (getL_of hg) hm
          have r' := r2.write (getL_of hg) (fun z => nomatch z) hm (ob' := .lst (xs.set j d)) (u := .lst (ys.set j v)) ⟨_, upd_same, h5.set qa j⟩
          exact .inl ⟨_, ys, _, j, rfl, rfl, h4, by rw [← h5.length]; exact hj, res2.nx r' e2⟩
        · exact res2.elim
      · exact .inr (put hm (.int _) res2)
  · cases q1' with
    | ref hm => exact .inr (put hm q2 res2)
  · exact res2.elim
theorem ss_asgA (ok : XOk Y k X W) {c : Nat} {o e : Expr} {p : Pos} {f : Str} {xo x : Ex} (ha : attB Y.toTxt c f = true) (ho : PEx Y k X W o xo) (he : PEx Y k X W e x) (h1 : (notComp e || isLC e) = true) :
    PSx Y k X W (.Assign [.Attribute o f p] e pos) (.asgA c xo f x) := by
  obtain ⟨c1, c2⟩ := attB_ok ok ha
  refine (ps_fld ho he (by
    rw [Bool.or_eq_true] at h1
    rcases h1 with h1 | h1
    · exact swaps_no h1 _ _ _
    · cases e <;> first | rfl | cases h1)).imp fun D σ H z => ?_
  simp only [tS, exec] at z
  refine (tS_bind (Ra := rD X.K Y.M) z).imp ?_
  rintro v H1 ⟨G, Φ, μ, S, env, d, r, er, ra, res⟩
  refine ⟨G, Φ, μ, S, env, r, er, (tS_go (Ra := rD X.K Y.M) er res).imp ?_⟩
  rintro v2 H2 ⟨G1, μ1, S1, d1, g1, r1, e1, q1, res1⟩
  have q1 : RD X.K Y.M G1 μ1 d1 v2 := q1
  have qa := RD.up ra g1
  try dsimp only at res1
  split at res1
  · rename_i n
    cases q1 with
    | ref hm =>
      split at res1
      · rename_i c' ns vs hs
        split at res1
        · rename_i hc
          obtain ⟨rfl, hz⟩ := hc
          obtain ⟨dx, ys, l, q, h⟩ := r1.look hs hm
          obtain ⟨zs, l2, q2, e2⟩ := putA_ok (f := f) qa l q
          have r' := r1.write hs (fun z => nomatch z) hm (ob' := .ins c' (putA f d ns vs).1 (putA f d ns vs).2) (u := .ins (Y.M.cls c') dx ((putA f d ns vs).1.zip zs)) ⟨dx, zs, l2, q2, upd_same⟩
          refine ⟨_, _, dx, _, rfl, h, c1, c2, by rw [List.length_zip, ← l, Nat.min_self]; exact hz, ?_⟩
          rw [e2]
          exact res1.nx r' e1
        · exact res1.elim
      · exact res1.elim
  · exact res1.elim
theorem ss_aug (ok : XOk Y k X W) {i : Nat} {o : BOp} {y : Str} {py : Pos} {e : Expr} {x : Ex} (h1 : X.N[i]? = some y) (hfn : ∀ x, X.fn x = true) (h2 : locB X.env.scope y = true) (ho : o = .add ∨ o = .sub) (he : PEx Y k X W e x) :
    PSx Y k X W (.AugAssign (.Name y py) o.op e pos) (.aug i o x) := by
  have key : ∀ {Dn : Ends} {σ : L2.St} {H : Hp} (f : Int → Int → Int), (∀ a b : Int, augI o a b = some (f a b)) → tS X.K Y.M W (exec (Y.Γ k) Y.T (.aug i o x)) Dn σ H → tAug i (tX X.K Y.M W (evalE (Y.Γ k) Y.T x)) (ipI f) Dn σ H := fun f hf z => by
    obtain ⟨G, Φ, μ, S, env, r, er, res⟩ := z
    simp only [exec] at res
    split at res
    · rename_i d hd
      obtain ⟨v, hv, q⟩ := er.at_ i d hd
      refine ⟨v, hv, G, Φ, μ, S, env, r, er, (tS_go (Ra := rD X.K Y.M) er res).imp ?_⟩
      rintro u H1 ⟨G1, μ1, S1, d1, g1, r1, e1, q1, res1⟩
      try dsimp only at res1
      split at res1
      · have q := q.up g1
        cases q; cases q1
        rw [hf] at res1
        exact ⟨_, _, rfl, rfl, res1.nx r1 (e1.set (.int _))⟩
      · exact res1.elim
    · exact res.elim
  rcases ho with rfl | rfl
  · exact (ps_aug ok.nd h1 (locB_ok h2) he ip_add (.inl (hfn _))).imp fun D σ H z => key (fun a b => a + b) (fun _ _ => rfl) z
  · exact (ps_aug ok.nd h1 (locB_ok h2) he ip_sub (.inl (hfn _))).imp fun D σ H z => key (fun a b => a - b) (fun _ _ => rfl) z
theorem ss_augS (ok : XOk Y k X W) {o : BOp} {l i e : Expr} {p : Pos} {xl xi x : Ex} (ho : o = .add ∨ o = .sub) (hl : PEx Y k X W l xl) (hi : PEx Y k X W i xi) (he : PEx Y k X W e x) (h3 : plainIxB i = true) :
    PSx Y k X W (.AugAssign (.Subscript l i p) o.op e pos) (.augS xl xi o x) := by
  have ha : ∀ ov iv new, augStore i ov iv new = (do holding [new, ov, iv] (setItem ov iv new); release [new, ov, iv] []; pure .next) := fun ov iv new => by
    cases i <;> first | rfl | cases h3
  have key : ∀ {Dn : Ends} {σ : L2.St} {H : Hp} (f : Int → Int → Int), (∀ a b : Int, augI o a b = some (f a b)) → tS X.K Y.M W (exec (Y.Γ k) Y.T (.augS xl xi o x)) Dn σ H →
      tAugS (tX X.K Y.M W (evalE (Y.Γ k) Y.T xl)) (tX X.K Y.M W (evalE (Y.Γ k) Y.T xi)) (tX X.K Y.M W (evalE (Y.Γ k) Y.T x)) (fun o i H Q => ∃ p xs k v, o = .ref p ∧ i = .int k ∧ SqL X.K H p xs ∧ atI xs k = some v ∧ Q v H) (ipI f) rSetL Dn σ H := fun f hf z => by
    simp only [tS, exec] at z
    refine (tS_bind (Ra := rD X.K Y.M) z).imp ?_
    rintro v1 H1 ⟨G, Φ, μ, S, env, d, r, er, ra, res⟩
    refine ⟨G, Φ, μ, S, env, r, er, (tS_go (Ra := rD X.K Y.M) er res).imp ?_⟩
    rintro v2 H2 ⟨G1, μ1, S1, d1, g1, r1, e1, q1, res1⟩
    have ra1 : RD X.K Y.M G1 μ1 d v1 := RD.up ra g1
    try dsimp only at res1
    split at res1
    · rename_i n kk
      cases q1
      cases ra1 with
      | ref hm =>
        split at res1
        · rename_i xs hg
          split at res1
          · rename_i w hw
            obtain ⟨ys, h4, h5⟩ := r1.look (getL_of hg) hm
            obtain ⟨zv, hz, rz⟩ := atI_RDs h5 hw
            cases rz
            refine ⟨_, ys, kk, _, rfl, rfl, SqL.of h4, hz, ?_⟩
            refine ⟨G1, Φ, μ1, S1, env, r1, e1, (tS_go (Ra := rD X.K Y.M) e1 res1).imp ?_⟩
            rintro v3 H3 ⟨G2, μ2, S2, d2, g2, r2, e2, q2, res2⟩
            try dsimp only at res2
            split at res2
            · rename_i w2 ys2 hg2
              cases q2
              rw [hf] at res2
              split at res2
              · rename_i z0 j hz0 hj
                cases hz0
                obtain ⟨us, h6, h7⟩ := r2.look (getL_of hg2) (g2.m _ _ hm)
                have r' := r2.write (getL_of hg2) (fun z => nomatch z) (g2.m _ _ hm) (ob' := .lst (ys2.set j (.int (f w w2)))) (u := .lst (us.set j (.int (f w w2)))) ⟨_, upd_same, h7.set (.int _) j⟩
                exact ⟨w, w2, rfl, rfl, _, us, kk, j, rfl, rfl, h6, by rw [← h7.length]; exact hj, res2.nx r' e2⟩
              · exact res2.elim
            · exact res2.elim
          · exact res1.elim
        · exact res1.elim
    · exact res1.elim
  rcases ho with rfl | rfl
  · exact (ps_augS hl hi get_list he ip_add set_list ha).imp fun D σ H z => key (fun a b => a + b) (fun _ _ => rfl) z
  · exact (ps_augS hl hi get_list he ip_sub set_list ha).imp fun D σ H z => key (fun a b => a - b) (fun _ _ => rfl) z
theorem ss_ex {e : Expr} {x : Ex} (he : PEx Y k X W e x) (h : notComp e = true) : PSx Y k X W (.Expr e pos) (.ex x) :=
  (ps_expr he (swaps_no h _ _ _)).imp fun D σ H z => by
    simp only [tS, exec] at z
    refine (tS_bind (Ra := rD X.K Y.M) z).imp ?_
    rintro v H1 ⟨G, Φ, μ, S, env, d, r, er, ra, res⟩
    exact res.nx r er
theorem ss_ret {e : Expr} {x : Ex} (he : PEx Y k X W e x) : PSx Y k X W (.Return (some e) pos) (.ret x) :=
  (ps_ret he).imp fun D σ H z => by
    simp only [tS, exec] at z
    refine (tS_bind (Ra := rD X.K Y.M) z).imp ?_
    rintro v H1 ⟨G, Φ, μ, S, env, d, r, er, ra, res⟩
    exact res G μ H1 v .refl r ra
theorem ss_retN : PSx Y k X W (.Return none pos) .retN :=
  ps_retN.imp fun D σ H z => by
    obtain ⟨G, Φ, μ, S, env, r, er, res⟩ := z
    rw [exec] at res
    exact res G μ H .non .refl r .non
theorem ss_ifs {c : Expr} {x : Ex} {a b : List Stmt} {xa xb : Stms} (hc : PTx Y k X W c x) (ha : PSsx Y k X W a xa) (hb : PSsx Y k X W b xb) : PSx Y k X W (.If c a b pos) (.ifs x xa xb) :=
  (ps_if hc ha hb).imp fun D σ H z => by
    simp only [tS, exec] at z
    refine (tS_bind (Ra := rB) z).imp ?_
    rintro v H1 ⟨G, Φ, μ, S, env, d, r, er, ra, res⟩
    have ra : d = v := ra
    subst ra
    cases d with
    | true => rw [if_pos rfl]; exact ⟨G, Φ, μ, S, env, r, er, res⟩
    | false => rw [if_neg (by decide)]; exact ⟨G, Φ, μ, S, env, r, er, res⟩
theorem ss_brk : PSx Y k X W (.Break pos) .brk := ps_break.imp fun D σ H z => by
  obtain ⟨G, Φ, μ, S, env, r, er, res⟩ := z
  rw [exec] at res
  exact res G μ H σ .refl r er
theorem ss_cont : PSx Y k X W (.Continue pos) .cont := ps_continue.imp fun D σ H z => by
  obtain ⟨G, Φ, μ, S, env, r, er, res⟩ := z
  rw [exec] at res
  exact res G μ H σ .refl r er
theorem ss_pass : PSx Y k X W (.Pass pos) .pass := ps_pass.imp fun D σ H z => by
  obtain ⟨G, Φ, μ, S, env, r, er, res⟩ := z
  rw [exec] at res
  exact res G μ H σ .refl r er
/-- X() of an own exception class without __init__ -/
theorem pmk_own0 {C : Addr} {bmB : List Value} {B newId initId : String} {x : Str} {p : Pos} (F : ExcBaseFacts B newId initId bmB) (q : PySem.W.excIn X.K C bmB newId = true) (gC : X.mg x = some (.ref C))
    (kC : PySem.W.keepIn X.K (.ref C) = true) (r : Raises X (.ref C)) (hg : Gl X x) (hdb : (x == ("__debug__" : Str)) = false) : PMk X (.Call (.Name x p) [] [] pos) (fun σ H Q => Q (.ref C) none H) := by
  intro pins s σ H Q I h
  refine wpAny_Call_Name_kw (ld_glob I hg gC ?_ hdb)
  refine PySem.W.callWith_K0 I.kIn kC ?_
  show wpAny _ _ (call (.ref C) []) _ _ _
  obtain ⟨bm, N, nm, qn, bs, hdct, sn, sub, ab, col, dd, k0, k1, k2, k3, k5, mN, hC, hN, hni, T⟩ := exc_obj I.kIn q
  refine wpAny_call_exc_subT F T hC hN hni (fun h' e hm => ?_) (Nat.zero_le _)
  exact mk_of I hm r h (I.hok.gone hm.new)
theorem ss_raise (ok : XOk Y k X W) {c : Nat} {x : Str} {p p2 : Pos} (h1 : Y.xn[c]? = some x) (h2 : glB X.env.scope x = true) (h3 : nmOk x = true) : PSx Y k X W (.Raise (some (.Call (.Name x p) [] [] p2)) none pos) (.raise c) := by
  obtain ⟨a1, a2, a3, a4, a5⟩ := ok.facts.xs c x h1
  refine (ps_raise ok.calm ok.tk (pmk_own0 PySem.F.excBase_ValueError a3 a1 a2 (raises_own a4 a5) (glB_ok h2) (nmOk_1 h3))).imp fun D σ H z => ?_
  obtain ⟨G, Φ, μ, S, env, r, er, res⟩ := z
  rw [exec] at res
  exact res G μ H σ .refl r er
theorem for_core (ok : XOk Y k X W) {t : Tg} {b : Stms} {J : It} {G Φ : Hp} {μ : Mu} {S : Sto} {env : En} {xs : List D} {σ : L2.St} {H1 : Hp} {Dn : Ends} (wk : WalksF X.K Y.M J G Φ μ xs) (r : Rel X.K Y.M G Φ μ S H1) (er : EnR X.K Y.M G μ env σ)
    (res : SRes X.K Y.M W G Φ μ (forL t (fun e S => execs (Y.Γ k) Y.T b e S) xs env S) Dn) :
    ∃ Wf : Nat → Nat → L2.St → Hp → Prop, (∃ m, Wf 0 m σ H1) ∧ ∀ i m σ H, Wf i m σ H →
      (J.stop i H ∧ Dn.nx σ H) ∨ (J.go i H ∧ ∃ N : L2.St → Hp → Prop, (∀ σ' H', N σ' H' → ∃ m', m' < m ∧ Wf (i + 1) m' σ' H') ∧ ∀ x H', J.yld i H x H' → (gT X.K t) x σ H' fun σ2 H2 => tS X.K Y.M W (execs (Y.Γ k) Y.T b) { Dn with nx := N, ct := N, bk := Dn.nx } σ2 H2) := by
  refine ⟨fun i m σ H => m = xs.length - i ∧ i ≤ xs.length ∧ ∃ G' μ' S' env', Gr Φ G μ G' μ' ∧ Rel X.K Y.M G' Φ μ' S' H ∧ EnR X.K Y.M G' μ' env' σ ∧ SRes X.K Y.M W G' Φ μ' (forL t (fun e S => execs (Y.Γ k) Y.T b e S) (xs.drop i) env' S') Dn,
    ⟨xs.length, by omega, by omega, G, μ, S, env, .refl, r, er, res⟩, ?_⟩
  rintro i m σ2 H2 ⟨rfl, hle, G', μ', S', env', g', r', e', res'⟩
  obtain ⟨w1, w2, w3⟩ := wk G' μ' S' H2 g'.g g'.m r' i
  by_cases hi : i < xs.length
  · refine .inr ⟨w1 hi, fun σ' H' => ∃ m'', m'' < xs.length - i ∧ _, fun _ _ h => h, ?_⟩
    intro v H3 hy
    have hd : xs[i]? = some xs[i] := List.getElem?_eq_getElem hi
    obtain ⟨G2, g2, r2, q2⟩ := w3 _ v H3 hd hy
    rw [List.drop_eq_getElem_cons hi, forL] at res'
    split at res'
    · exact res'.elim
    · rename_i env1 ha
      refine gT_ok r2 t _ v _ env1 _ _ q2 (e'.grow g2) ha fun σ3 e3 l3 f3 => ⟨G2, Φ, μ', S', env1, r2, e3, ?_⟩
      have nextTurn : ∀ (e : En) (S1 : Sto), SRes X.K Y.M W G' Φ μ' (forL t (fun e S => execs (Y.Γ k) Y.T b e S) (xs.drop (i + 1)) e S1) Dn → ∀ G3 μ3 H4 σ4, Gr Φ G2 μ' G3 μ3 → Rel X.K Y.M G3 Φ μ3 S1 H4 → EnR X.K Y.M G3 μ3 e σ4 →
          ∃ m'', m'' < xs.length - i ∧ m'' = xs.length - (i + 1) ∧ i + 1 ≤ xs.length ∧ ∃ G' μ' S' env', Gr Φ G μ G' μ' ∧ Rel X.K Y.M G' Φ μ' S' H4 ∧ EnR X.K Y.M G' μ' env' σ4 ∧ SRes X.K Y.M W G' Φ μ' (forL t (fun e S => execs (Y.Γ k) Y.T b e S) (xs.drop (i + 1)) env' S') Dn :=
        fun e S1 hr G3 μ3 H4 σ4 g3 r3 e4 => ⟨xs.length - (i + 1), by omega, rfl, by omega, G3, μ3, S1, e, (g'.trans g2).trans g3, r3, e4, SRes.mono (g2.trans g3) hr⟩
      cases hx : execs (Y.Γ k) Y.T b env1 S' with
      | none => rw [hx] at res'; exact res'.elim
      | some z =>
        rw [hx] at res'
        cases z with
        | nx e S1 => exact nextTurn e S1 res'
        | ct e S1 => exact nextTurn e S1 res'
        | bk e S1 => exact fun G3 μ3 H4 σ4 g3 r3 e4 => res' G3 μ3 H4 σ4 (g2.trans g3) r3 e4
        | rt d S1 => exact fun G3 μ3 H4 σ4 g3 r3 e4 => res' G3 μ3 H4 σ4 (g2.trans g3) r3 e4
        | ex c e S1 => exact fun G3 μ3 H4 σ4 g3 r3 e4 => res' G3 μ3 H4 σ4 (g2.trans g3) r3 e4
  · have hi' : i = xs.length := by omega
    refine .inl ⟨w2 (by omega), ?_⟩
    rw [hi', List.drop_length, forL] at res'
    exact res'.nx r' e'
theorem ss_for (ok : XOk Y k X W) {t : Tg} {it : Itr} {b : Stms} {tg e : Expr} {l : List Stmt} (hfn : ∀ x, X.fn x = true) (ht : okT X.N (fun _ => true) t X.env.scope tg = true) (hi : PIx Y k X W tg e it) (hs : notSet e = true) (hb : PSsx Y k X W l b) : PSx Y k X W (.For tg e l [] pos) (.for t it b) := by
  refine (ps_for ok.po ok.calm hi (sndT (fun x _ => hfn x) ok.calm ok.nd t tg ht) hb (folded_no hs _)).imp fun Dn σ H z => ?_
  simp only [tS, exec] at z
  refine (tS_bind (Ra := rW X.K Y.M) z).imp ?_
  rintro J H1 ⟨G, Φ, μ, S, env, xs, r, er, wk, res⟩
  have wk : Walks X.K Y.M J G μ xs := wk
  exact for_core ok (fun G1 μ1 S1 H1 g m r i => wk G1 Φ μ1 S1 H1 g m r i) r er res
/-! for, over a dict that stands still -/
theorem PS_or {X : Cx} {st : Stmt} {t t' : TS} (h : PS X st t) (h' : PS X st t') : PS X st (fun Dn σ H => t Dn σ H ∨ t' Dn σ H) := by
  refine ⟨fun pins s σ H Dn I z => ?_⟩
  rcases z with z | z
  · exact h.run pins s σ H Dn I z
  · exact h'.run pins s σ H Dn I z
/-- the rule, given how the walk begins -/
theorem ss_dict (ok : XOk Y k X W) {kd : DK} {t : Tg} {x : Ex} {b : Stms} {tg e it : Expr} {l : List Stmt} {wi : TE → TI} (hfn : ∀ x, X.fn x = true) (ht : okT X.N (fun _ => true) t X.env.scope tg = true) (hs : notSet it = true) (hb : PSsx Y k X W l b)
    (hx : SimpR Y k X e x) (hi : ∀ td, PE X e td → PI X tg it (wi td)) (hw : ∀ td, Begins X.K Y.M td (wi td) kd) :
    PSx Y k X W (.For tg it l [] pos) (.forD kd t x b) := by
  obtain ⟨td, he, hx⟩ := hx
  have base := ps_for (pos := pos) ok.po ok.calm (hi td he) (sndT (fun x _ => hfn x) ok.calm ok.nd t tg ht) hb (folded_no hs _)
  refine ⟨fun pins s σ H Dn I z => (PS_or (ps_lock base) base).run pins s σ H Dn I ?_⟩
  obtain ⟨G, Φ, μ, S, env, r, er, res⟩ := z
  rw [exec] at res
  cases hz : evalE (Y.Γ k) Y.T x env S with
  | none => rw [hz] at res; exact res.elim
  | some w =>
    obtain ⟨d, v, rfl, q, rd⟩ := hx G Φ μ S env σ H r er w hz
    rw [hz, bnS_ok] at res
    split at res
    · rename_i xs S2 o hwk
      obtain ⟨a, u, qt, ks, vs, rfl, hdo, hkd, rfl, hcase⟩ := wk_lock r q hwk
      rcases hcase with ⟨hH, hm, hf, hl⟩ | ⟨rfl, rfl, od, hH, hf, r'⟩
      · refine .inl ⟨a, _, hH, hm, fun od => ?_⟩
        obtain ⟨r', back⟩ := hl od
        obtain ⟨J, hw1, hw2⟩ := hw td hkd hdo a od
        refine hw1 σ _ _ upd_same ?_ (fun Q hq => rd _ (fun b C dx fs hb => by
          rw [upd_ne (fun z => by rw [z, hH] at hb; cases hb; exact hdo.ins)]; exact hb) Q hq)
        refine for_core ok (hw2 _ upd_same) r' er ?_
        generalize forL t (fun e S => execs (Y.Γ k) Y.T b e S) (dWalk kd ks vs) env S2 = ro at res
        have un : ∀ S3 f, SRes X.K Y.M W G Φ μ ((unO o S3).map f) Dn → ∃ S4, unO o S3 = some S4 ∧ SRes X.K Y.M W G Φ μ (some (f S4)) Dn := fun S3 f h => by
          cases e : unO o S3 with
          | none => rw [e] at h; exact h.elim
          | some S4 => rw [e] at h; exact ⟨S4, rfl, h⟩
        cases ro with
        | none => cases o <;> exact res.elim
        | some so =>
          cases so with
          | nx e S1 =>
            obtain ⟨S4, e4, h4⟩ := un S1 (.nx e) (by cases o <;> exact res)
            exact fun G' μ' H' σ' g' rr er' => ⟨rr.f a _ upd_same, h4 G' μ' _ σ' g'.of_upd (back G' μ' S1 S4 H' g' rr e4) er'⟩
          | bk e S1 =>
            obtain ⟨S4, e4, h4⟩ := un S1 (.bk e) (by cases o <;> exact res)
            exact fun G' μ' H' σ' g' rr er' => ⟨rr.f a _ upd_same, h4 G' μ' _ σ' g'.of_upd (back G' μ' S1 S4 H' g' rr e4) er'⟩
          | ct e S1 =>
            obtain ⟨S4, e4, h4⟩ := un S1 (.ct e) (by cases o <;> exact res)
            exact fun G' μ' H' σ' g' rr er' => ⟨rr.f a _ upd_same, h4 G' μ' _ σ' g'.of_upd (back G' μ' S1 S4 H' g' rr e4) er'⟩
          | rt d S1 =>
            obtain ⟨S4, e4, h4⟩ := un S1 (.rt d) (by cases o <;> exact res)
            exact fun G' μ' H' v' g' rr rd' => ⟨rr.f a _ upd_same, h4 G' μ' _ v' g'.of_upd (back G' μ' S1 S4 H' g' rr e4) rd'⟩
          | ex c e S1 =>
            cases o with
            | none => exact fun G' μ' H' σ' g' rr er' => res G' μ' _ σ' g'.of_upd (rr.less (.inl hf)) er'
            | some n => exact res.elim
      · refine .inr ?_
        obtain ⟨J, hw1, hw2⟩ := hw td hkd hdo a od
        refine hw1 σ _ _ hH ?_ (fun Q hq => rd _ (fun b C dx fs hb => hb) Q hq)
        refine for_core ok (hw2 _ upd_same) r' er ?_
        have res : SRes X.K Y.M W G Φ μ (forL t (fun e S => execs (Y.Γ k) Y.T b e S) (dWalk kd ks vs) env S2) Dn := res
        generalize forL t (fun e S => execs (Y.Γ k) Y.T b e S) (dWalk kd ks vs) env S2 = ro at res
        cases ro with
        | none => exact res.elim
        | some so => cases so <;> exact fun G' μ' H' b' g' rr er' => res G' μ' _ b' g'.of_upd (rr.less hf) er'
    · exact res.elim
theorem ss_whl (ok : XOk Y k X W) {c : Expr} {x : Ex} {l : List Stmt} {b : Stms} (hc : PTx Y k X W c x) (hb : PSsx Y k X W l b) : PSx Y k X W (.While c l [] pos) (.whl x b) := by
  refine (ps_while ok.po hc hb).imp fun Dn σ H z => ?_
  obtain ⟨G, Φ, μ, S, env, r, er, res⟩ := z
  rw [exec] at res
  generalize hst : whlStep (fun e S => evalT (Y.Γ k) Y.T x e S) (fun e S => execs (Y.Γ k) Y.T b e S) = step at res
  cases hl : lfp step (env, S) with
  | none => rw [hl] at res; exact res.elim
  | some fin =>
    rw [hl] at res
    obtain ⟨n, rn⟩ := lfp_runs hl
    refine ⟨fun m σ H => ∃ G' μ' S' env', Gr Φ G μ G' μ' ∧ Rel X.K Y.M G' Φ μ' S' H ∧ EnR X.K Y.M G' μ' env' σ ∧ Runs step m (env', S') fin, ⟨n, G, μ, S, env, .refl, r, er, rn⟩, ?_⟩
    rintro m σ2 H2 ⟨G', μ', S', env', g', r', e', rn'⟩
    refine ⟨G', Φ, μ', S', env', r', e', ?_⟩
    have res' := SRes.mono g' res
    have hs : step (env', S') = whlStep (fun e S => evalT (Y.Γ k) Y.T x e S) (fun e S => execs (Y.Γ k) Y.T b e S) (env', S') := by rw [hst]
    unfold whlStep at hs
    dsimp only at hs
    cases ht : evalT (Y.Γ k) Y.T x env' S' with
    | none =>
      rw [ht] at hs
      cases rn' with
      | stop e => rw [hs] at e; cases e
      | go e _ => rw [hs] at e; cases e
    | some z =>
      rw [ht] at hs
      cases z with
      | ex cc S1 =>
        cases rn' with
        | stop e =>
          rw [hs] at e; cases e
          exact fun G3 μ3 H3 g3 r3 => res' G3 μ3 H3 σ2 g3 r3 (e'.grow g3)
        | go e _ => rw [hs] at e; cases e
      | ok bb S1 =>
        cases bb with
        | false =>
          cases rn' with
          | stop e =>
            rw [hs] at e; cases e
            intro G3 μ3 H3 b' g3 r3 hb
            have hb : false = b' := hb
            subst hb
            rw [if_neg (by decide)]
            exact res' G3 μ3 H3 σ2 g3 r3 (e'.grow g3)
          | go e _ => rw [hs] at e; cases e
        | true =>
          intro G3 μ3 H3 b' g3 r3 hb
          have hb : true = b' := hb
          subst hb
          rw [if_pos rfl]
          refine ⟨_, fun _ _ h => h, G3, Φ, μ3, S1, env', r3, e'.grow g3, ?_⟩
          try dsimp only at hs
          cases hx : execs (Y.Γ k) Y.T b env' S1 with
          | none =>
            rw [hx] at hs
            cases rn' with
            | stop e => rw [hs] at e; cases e
            | go e _ => rw [hs] at e; cases e
          | some z2 =>
            rw [hx] at hs
            cases z2 with
            | nx e2 S2 =>
              cases rn' with
              | stop e => rw [hs] at e; cases e
              | go e rn2 =>
                rw [hs] at e; cases e
                exact fun G4 μ4 H4 σ4 g4 r4 e4 => ⟨_, Nat.lt_succ_self _, G4, μ4, S2, e2, (g'.trans g3).trans g4, r4, e4, rn2⟩
            | ct e2 S2 =>
              cases rn' with
              | stop e => rw [hs] at e; cases e
              | go e rn2 =>
                rw [hs] at e; cases e
                exact fun G4 μ4 H4 σ4 g4 r4 e4 => ⟨_, Nat.lt_succ_self _, G4, μ4, S2, e2, (g'.trans g3).trans g4, r4, e4, rn2⟩
            | bk e2 S2 =>
              cases rn' with
              | stop e =>
                rw [hs] at e; cases e
                exact fun G4 μ4 H4 σ4 g4 r4 e4 => res' G4 μ4 H4 σ4 (g3.trans g4) r4 e4
              | go e _ => rw [hs] at e; cases e
            | rt d S2 =>
              cases rn' with
              | stop e =>
                rw [hs] at e; cases e
                exact fun G4 μ4 H4 σ4 g4 r4 e4 => res' G4 μ4 H4 σ4 (g3.trans g4) r4 e4
              | go e _ => rw [hs] at e; cases e
            | ex cc e2 S2 =>
              cases rn' with
              | stop e =>
                rw [hs] at e; cases e
                exact fun G4 μ4 H4 σ4 g4 r4 e4 => res' G4 μ4 H4 σ4 (g3.trans g4) r4 e4
              | go e _ => rw [hs] at e; cases e
end
end Ip
/-! ## try: body, except an own class [as a name]: suite -/
namespace Ip
open PySem PySem.Spec PyProof.Rows L2
/-- a def's own frame -/
structure FOk (X : Cx) : Prop where
  fn : ∀ x, X.fn x = true
  stk : X.stack = X.env :: X.outer
  fr : X.env.frame = some X.env.locals
section
variable {K : PySem.W.Frag} {M : Am} {G Φ : Hp} {μ : Mu} {env : En} {σ : L2.St}
theorem EnR.gone {i : Nat} {v : Option V} (e : EnR K M G μ env σ) : EnR K M G μ (env.set i none) (σ.set i v) := by
  refine ⟨by rw [List.length_set, List.length_set, e.len], fun j d' hj => ?_⟩
  by_cases hij : i = j
  · subst hij
    by_cases hl : i < env.length
    · rw [List.getElem?_set_self hl] at hj
      cases hj
    · rw [List.getElem?_eq_none (by simpa using hl)] at hj
      cases hj
  · rw [List.getElem?_set_ne hij] at hj
    rw [List.getElem?_set_ne hij]
    exact e.at_ j d' hj
end
section
variable {Y : Sys} {k : Nat} {X : Cx} {W : WX} {pos : Pos}
mutual
theorem sndH (Y : Sys) (k : Nat) : ∀ (x : Ex) (X : Cx) (W : WX) (e : Expr), simB x = true → okE Y.toTxt X.N x X.env.scope e = true → PEx Y k X W e x
  | .c q, X, W, e, hs, h => by
    cases e with
    | Constant c j pos => simp only [okE] at h; exact s_c h
    | _ => simp [okE] at h
  | .v i, X, W, e, hs, h => by
    cases e with
    | Name x pos =>
      simp only [okE, Bool.and_eq_true, decide_eq_true_eq] at h
      exact s_v h.1.1 h.1.2 h.2
    | _ => simp [okE] at h
  | .bin o m a b, X, W, e, hs, h => by
    cases e with
    | BinOp l op r pos =>
      simp only [okE, Bool.and_eq_true, decide_eq_true_eq] at h
      obtain ⟨⟨rfl, h1⟩, h2⟩ := h
      simp only [simB, Bool.and_eq_true] at hs
      exact s_bin (sndH Y k a X W l hs.1 h1) (sndH Y k b X W r hs.2 h2)
    | _ => simp [okE] at h
  | .tup es, X, W, e, hs, h => by
    cases e with
    | Tuple xs j pos =>
      simp only [okE] at h
      simp only [simB] at hs
      exact s_tup (sndHs Y k es X W xs hs h)
    | _ => simp [okE] at h
  | .lst m es, X, W, e, hs, h => by
    cases e with
    | List xs pos =>
      simp only [okE] at h
      simp only [simB] at hs
      exact s_lst (sndHs Y k es X W xs hs h)
    | _ => simp [okE] at h
  | .g _, _, _, _, hs, _ => by simp [simB] at hs
  | .neg a, X, W, e, hs, h => by
    cases e with
    | UnaryOp op l pos =>
      cases op with
      | USub =>
        simp only [okE] at h
        simp only [simB] at hs
        exact s_neg (sndH Y k a X W l hs h)
      | _ => simp [okE] at h
    | _ => simp [okE] at h
  | .cmp _ _ _, _, _, _, hs, _ => by simp [simB] at hs
  | .not _, _, _, _, hs, _ => by simp [simB] at hs
  | .and _ _, _, _, _, hs, _ => by simp [simB] at hs
  | .or _ _, _, _, _, hs, _ => by simp [simB] at hs
  | .ite _ _ _, _, _, _, hs, _ => by simp [simB] at hs
  | .dct _ _ _ _, _, _, _, hs, _ => by simp [simB] at hs
  | .ix _ _, _, _, _, hs, _ => by simp [simB] at hs
  | .sl _ _ _ _, _, _, _, hs, _ => by simp [simB] at hs
  | .call _ _ _, _, _, _, hs, _ => by simp [simB] at hs
  | .bi _ _, _, _, _, hs, _ => by simp [simB] at hs
  | .bf _ _ _, _, _, _, hs, _ => by simp [simB] at hs
  | .me _ _ _, _, _, _, hs, _ => by simp [simB] at hs
  | .mf _ _ _ _, _, _, _, hs, _ => by simp [simB] at hs
  | .isi _ _, _, _, _, hs, _ => by simp [simB] at hs
  | .lc _ _ _ _ _ _, _, _, _, hs, _ => by simp [simB] at hs
  | .lens _, _, _, _, hs, _ => by simp [simB] at hs
  | .att _ _ _, _, _, _, hs, _ => by simp [simB] at hs
  | .mcl _ _ _ _ _ _, _, _, _, hs, _ => by simp [simB] at hs
  | .mk _ _ _ _, _, _, _, hs, _ => by simp [simB] at hs
  | .fze _, _, _, _, hs, _ => by simp [simB] at hs
  | .rev _ _, _, _, _, hs, _ => by simp [simB] at hs
  | .lc2 _ _ _ _ _ _ _ _ _ _, _, _, _, hs, _ => by simp [simB] at hs
  | .lcD _ _ _ _ _ _ _, _, _, _, hs, _ => by simp [simB] at hs
  | .fnv _, _, _, _, hs, _ => by simp [simB] at hs
  | .callv _ _ _ _, _, _, _, hs, _ => by simp [simB] at hs
theorem sndHs (Y : Sys) (k : Nat) : ∀ (xs : Exs) (X : Cx) (W : WX) (es : List Expr), simBs xs = true → okEs Y.toTxt X.N xs X.env.scope es = true → PAx Y k X W es xs
  | .nil, X, W, es, hs, h => by
    cases es with
    | nil =>
      exact pa_nil.imp fun σ H Q z => by
        obtain ⟨G, Φ, μ, S, env, r, er, res⟩ := z
        rw [evalEs] at res
        exact res.now r .nil
    | cons _ _ => simp [okEs] at h
  | .cons x r, X, W, es, hs, h => by
    cases es with
    | nil => simp [okEs] at h
    | cons e es =>
      simp only [okEs, Bool.and_eq_true] at h
      simp only [simBs, Bool.and_eq_true] at hs
      exact a_cons h.1.1 (sndH Y k x X W e hs.1 h.1.2) (sndHs Y k r X W es hs.2 h.2)
end
/-- what an except suite does -/
def tHd (Y : Sys) (k : Nat) (K : PySem.W.Frag) (nm : Option Nat) (h : Hd) (a : Addr) (cls : Value) (d : Option Addr) : TS := fun Dn σ H => ∃ c' G Φ μ S env, cls = .ref (Y.M.exc c') ∧ d = none ∧
  (∀ i, nm = some i → ∃ σ0 : L2.St, σ = σ0.set i (some (.ref a))) ∧ Rel K Y.M G Φ μ S H ∧ EnR K Y.M G μ env σ ∧ SRes K Y.M Wno G Φ μ (hdX (Y.Γ k) Y.T c' h env S) Dn
theorem hd_w {K : PySem.W.Frag} {W W' : WX} {G Φ : Hp} {μ : Mu} {c : Nat} {h : Hd} {env : En} {S : Sto} {Dn : Ends} (z : SRes K Y.M W G Φ μ (hdX (Y.Γ k) Y.T c h env S) Dn) : SRes K Y.M W' G Φ μ (hdX (Y.Γ k) Y.T c h env S) Dn := by
  cases h with
  | ret x =>
    simp only [hdX] at z ⊢
    revert z
    cases evalE (Y.Γ k) Y.T x env S with
    | none => exact id
    | some r => cases r <;> exact id
  | retI s j =>
    simp only [hdX] at z ⊢
    revert z
    cases Y.T.sub c j <;> exact id
  | asg i x =>
    simp only [hdX] at z ⊢
    revert z
    cases evalE (Y.Γ k) Y.T x env S with
    | none => exact id
    | some r => cases r <;> exact id
theorem hd_ok {a : Addr} {oe : Obj} {pn : List (Addr × Obj)} {cls : Value} {d : Option Addr} (F : Facts Y X.prog X.w X.K X.mg X.base k) (nd : X.N.Nodup) (fn : ∀ x, X.fn x = true) {h : Hd} {nm : Option Nat} {nm' : Option Str} {l : List Stmt}
    (hn : okNm X.N X.env.scope nm nm' = true) (hk : okHd Y.toTxt X.N h X.env.scope nm' l = true) (hz : Zc cls d oe) (hf : ∃ vs, oe.data = .fields vs) : PSs (X.suite a ((a, oe) :: pn)) l (tHd Y k X.K nm h a cls d) := by
  unfold okHd at hk
  split at hk
  · rename_i x e p
    rw [Bool.and_eq_true] at hk
    refine (pss_cons (ps_ret (sndH Y k x (X.suite a ((a, oe) :: pn)) Wno e hk.1 hk.2)) pss_nil).imp fun Dn σ H z => ?_
    obtain ⟨c', G, Φ, μ, S, env, rfl, rfl, _, r, er, res⟩ := z
    refine ⟨G, Φ, μ, S, env, r, er, ?_⟩
    simp only [hdX] at res
    split at res
    · rename_i d S1 e1
      rw [e1]
      exact res
    · exact res.elim
  · rename_i s j n c q1 q2 f p1 m p2 y p3 p4 q3 p5 p6
    simp only [Bool.and_eq_true, decide_eq_true_eq] at hk
    obtain ⟨⟨⟨⟨⟨⟨⟨⟨h1, rfl⟩, h3⟩, rfl⟩, h5⟩, h6⟩, h7⟩, h8⟩, h9⟩ := hk
    cases nm with
    | none => simp [okNm] at hn
    | some i =>
      simp only [okNm, Bool.and_eq_true, decide_eq_true_eq] at hn
      obtain ⟨hm, -, -, -, -⟩ := F.xs j y h7
      refine ⟨fun pins s0 σ H Dn I z => ?_⟩
      obtain ⟨c', G, Φ, μ, S, env, rfl, rfl, hi, r, er, res⟩ := z
      simp only [hdX] at res
      split at res
      · rename_i b hb
        obtain ⟨_, kit, ec⟩ := F.xm c' j b hb
        have ci := call_isE (X := X) (a := a) (pn := pn) ec hz hf
        have pe1 := pe_callB (X := X.suite a ((a, oe) :: pn)) (pos := p4) (p := p1) ci (x := "isinstance") (glB_ok h3) (F.free _ (by decide)) (by decide +kernel)
          (pa_cons (pe_var (pos := p2) hn.1 (visB_ok h6) (nmOk_1 h5) (nmOk_2 h5)) (pa_cons (pe_glob (v := .ref (Y.M.exc j)) (pos := p3) (glB_ok h8) hm rfl (nmOk_1 h9)) pa_nil rfl) rfl) (by decide) (by decide) rfl rfl
        refine (pss_cons (ps_ret (pe_tup (x1 := q3) (pos := p5) (pa_cons (p_c h1) (pa_cons pe1 pa_nil rfl) rfl))) pss_nil).run pins s0 σ H Dn I ?_
        have hi' : σ[i]? = some (some (.ref a)) := by
          obtain ⟨σ0, rfl⟩ := hi i rfl
          have l1 := I.len
          have l2 : i < X.N.length := (List.getElem?_eq_some_iff.mp hn.1).1
          rw [List.length_set] at l1
          exact List.getElem?_set_self (by rw [l1]; exact l2)
        refine ⟨_, hi', _, _, b, rfl, fun u ru => ru, kit, ?_⟩
        exact ⟨by rw [sizeLine_eq]; simp, res_tup (W := Wno) (σ := σ) (xs := [s.d, .bl b]) res r (.cons (by cases s <;> constructor) (.cons (.bl b) .nil))⟩
      · exact res.elim
  · rename_i i x y q1 e q2
    simp only [Bool.and_eq_true, decide_eq_true_eq, Bool.or_eq_true] at hk
    obtain ⟨⟨⟨⟨h1, h2⟩, h3⟩, h4⟩, h5⟩ := hk
    have he := sndH Y k x (X.suite a ((a, oe) :: pn)) Wno e h1 h2
    refine (pss_cons (ps_set (X := X.suite a ((a, oe) :: pn)) nd h3 h4 he (swaps_no h5 _ _ _) (.inl (fn _))) pss_nil).imp fun Dn σ H z => ?_
    obtain ⟨c', G, Φ, μ, S, env, rfl, rfl, _, r, er, res⟩ := z
    refine ⟨G, Φ, μ, S, env, r, er, ?_⟩
    simp only [hdX] at res
    split at res
    · rename_i d S1 e1
      rw [e1]
      exact fun G' μ' H' v g' r' q => res G' μ' H' _ g' r' ((er.grow g').set q)
    · exact res.elim
  · cases hk
theorem ss_try (ok : XOk Y k X W) (fo : FOk X) {c : Nat} {x : Str} {np pos' : Pos} {nm : Option Nat} {nm' : Option Str} {h : Hd} {b : Stms} {body suite : List Stmt} {b0 : Stmt} (h1 : Y.xn[c]? = some x) (h2 : glB X.env.scope x = true) (h3 : nmOk x = true)
    (h4 : okNm X.N X.env.scope nm nm' = true) (h5 : okHd Y.toTxt X.N h X.env.scope nm' (b0 :: suite) = true) (hb : ∀ (W' : WX) (pn : List (Addr × Obj)) (xe : Value → Shared → Prop), XOk Y k (X.tr pn xe) W' → PSsx Y k (X.tr pn xe) W' body b) :
    PSx Y k X W (.Try body [.ExceptHandler (some (.Name x np)) nm' (b0 :: suite) pos'] [] [] pos) (.tryE b c nm h) := by
  obtain ⟨hm, -, -, -, -⟩ := ok.facts.xs c x h1
  have names : Names X x (.ref (Y.M.exc c)) := ⟨glB_ok h2, nmOk_1 h3, .inl hm⟩
  have hb' : ∀ (W' : WX) (pn : List (Addr × Obj)) (xe : Value → Shared → Prop), Takes (X.tr pn xe) W' → PassesOwn (model X.prog X.w) X.A X.env xe → PSs (X.tr pn xe) body (tS X.K Y.M W' (execs (Y.Γ k) Y.T b)) := fun W' pn xe t p =>
    hb W' pn xe ⟨ok.calm, ok.kind, ok.nd, ok.room, t, p, ok.facts⟩
  cases nm with
  | none =>
    cases nm' with
    | some _ => simp [okNm] at h4
    | none =>
      refine (ps_try_only (tb := fun W' => tS X.K Y.M W' (execs (Y.Γ k) Y.T b)) (ts := tHd Y k X.K none h) fo.stk fo.fr names ok.tk hb' fun a oe cls d pn hz hf => hd_ok ok.facts ok.nd fo.fn h4 h5 hz hf).imp fun Dn σ H z => ?_
      obtain ⟨G, Φ, μ, S, env, r, er, res⟩ := z
      refine ⟨G, Φ, μ, S, env, r, er, ?_⟩
      rw [exec] at res
      cases hx : execs (Y.Γ k) Y.T b env S with
      | none => rw [hx] at res; exact res
      | some z =>
        rw [hx] at res
        cases z with
        | nx e S1 => exact res
        | bk e S1 => exact res
        | ct e S1 => exact res
        | rt d S1 => exact res
        | ex c' e S1 =>
          intro G' μ' H' σ' g' r' e'
          unfold tryR at res
          dsimp only at res
          split at res
          · rename_i hs
            exact ⟨true, (ok.facts.xm _ _ _ hs).1, fun _ a ha => ⟨c', G', Φ, μ', S1, e, rfl, rfl, (fun i z => nomatch z), r', e', SRes.mono g' (hd_w res)⟩, fun z => nomatch z⟩
          · rename_i hs
            exact ⟨false, (ok.facts.xm _ _ _ hs).1, (fun z => nomatch z), fun _ => res G' μ' H' σ' g' r' e'⟩
          · exact res.elim
  | some i =>
    cases nm' with
    | none => simp [okNm] at h4
    | some n =>
      have h4' := h4
      simp only [okNm, Bool.and_eq_true, decide_eq_true_eq] at h4'
      refine (ps_try_as (tb := fun W' => tS X.K Y.M W' (execs (Y.Γ k) Y.T b)) (ts := tHd Y k X.K (some i) h) fo.stk fo.fr ok.nd h4'.1 h4'.2 names ok.tk hb' fun a oe cls d pn hz hf => hd_ok ok.facts ok.nd fo.fn h4 h5 hz hf).imp fun Dn σ H z => ?_
      obtain ⟨G, Φ, μ, S, env, r, er, res⟩ := z
      refine ⟨G, Φ, μ, S, env, r, er, ?_⟩
      rw [exec] at res
      cases hx : execs (Y.Γ k) Y.T b env S with
      | none => rw [hx] at res; exact res
      | some z =>
        rw [hx] at res
        cases z with
        | nx e S1 => exact res
        | bk e S1 => exact res
        | ct e S1 => exact res
        | rt d S1 => exact res
        | ex c' e S1 =>
          intro G' μ' H' σ' g' r' e'
          unfold tryR at res
          dsimp only at res
          split at res
          · rename_i hs
            refine ⟨true, (ok.facts.xm _ _ _ hs).1, fun _ a ha => ⟨c', G', Φ, μ', S1, e.set i none, rfl, rfl, (fun j z => by cases z; exact ⟨_, rfl⟩), r', e'.gone, ?_⟩, fun z => nomatch z⟩
            have q := SRes.mono g' (hd_w (W' := Wno) res)
            simp only [nmX] at q
            cases h with
            | ret x =>
              simp only [hdX] at q ⊢
              revert q
              cases evalE (Y.Γ k) Y.T x (e.set i none) S1 with
              | none => exact id
              | some r => cases r <;> exact id
            | retI s j =>
              simp only [hdX] at q ⊢
              revert q
              cases Y.T.sub c' j <;> exact id
            | asg i x => simp [okHd] at h5
          · rename_i hs
            exact ⟨false, (ok.facts.xm _ _ _ hs).1, (fun z => nomatch z), fun _ => res G' μ' H' σ' g' r' e'⟩
          · exact res.elim
end
end Ip
/-! ## Soundness of blocks and defs -/
namespace Ip
open PySem PySem.Spec PyProof.Rows L2

section
variable {K : PySem.W.Frag} {M : Am} {G Φ : Hp} {μ : Mu} {S : Sto} {H : Hp}

theorem fz_ok {i : Nat} {env e : En} {S1 : Sto} {σ : L2.St} (r : Rel K M G Φ μ S H) (er : EnR K M G μ env σ) (h : fzD i env S = some (e, S1)) : ∃ G1, Gr Φ G μ G1 μ ∧ Rel K M G1 Φ μ S1 H ∧ EnR K M G1 μ e σ := by
  unfold fzD at h
  split at h
  · rename_i n hi
    obtain ⟨v, hv, q⟩ := er.at_ i _ hi
    cases q with
    | ref hm =>
      have setE : ∀ {G1 : Hp} {d : D}, Gr Φ G μ G1 μ → RD K M G1 μ d (.ref _) → EnR K M G1 μ (env.set i (some d)) σ := fun {G1 d} g q => by
        have := (er.grow g).set (i := i) q
        rw [show σ.set i (some (.ref _)) = σ from by
          apply List.ext_getElem?
          intro j
          by_cases hj : i = j
          · subst hj
            have hl : i < σ.length := by
              have := List.getElem?_eq_some_iff.mp hv
              exact this.1
            rw [List.getElem?_set_self hl, hv]
          · rw [List.getElem?_set_ne hj]] at this
        exact this
      split at h
      · rename_i xs hs
        split at h
        · rename_i hp
          cases h
          obtain ⟨ys, h1, h2⟩ := r.look hs hm
          obtain ⟨r1, g1⟩ := r.freeze hs (fun z => nomatch z) hm h1
          exact ⟨_, g1, r1, setE g1 (.lst upd_same (RDs.up h2 g1))⟩
        · cases h
      · rename_i t ks vs hs
        split at h
        · rename_i hp
          cases h
          rcases r.look hs hm with ⟨t0, kk, ys, e1, l, h2, h1⟩ | ⟨t0, kk, ys, e1, l, h2, h1⟩
          · subst t0
            obtain ⟨r1, g1⟩ := r.freeze hs (fun z => nomatch z) hm h1
            exact ⟨_, g1, r1, setE g1 (.dK e1 l (RDs.up h2 g1) upd_same)⟩
          · subst t0
            obtain ⟨r1, g1⟩ := r.freeze hs (fun z => nomatch z) hm h1
            exact ⟨_, g1, r1, setE g1 (.dT e1 l (RDs.up h2 g1) upd_same)⟩
        · cases h
      · cases h
  · cases h
end
section
variable {Y : Sys} {k : Nat} {X : Cx} {W : WX}
theorem ss_asgC (ok : XOk Y k X W) {i : Nat} {m : Bool} {own : List (Str × Nat)} {tg : Tg} {it : Itr} {cond : Oe} {x : Ex} {y : Str} {p pos lp : Pos} {elt t iter : Expr} {ifs : List Expr} {scope : Scope}
    (h1 : X.N[i]? = some y) (h2 : X.env.scope.names.lookup y = some .local) (h3 : swB X.env.scope y p.line (.ListComp elt [⟨t, iter, ifs, 0⟩] scope lp) = true) (h4 : okE Y.toTxt X.N (.lc m own tg it cond x) X.env.scope (.ListComp elt [⟨t, iter, ifs, 0⟩] scope lp) = true)  :
    PSx Y k X W (.Assign [.Name y p] (.ListComp elt [⟨t, iter, ifs, 0⟩] scope lp) pos) (.asgC i m own tg it cond x) := by
  simp only [okE, Bool.and_eq_true] at h4
  obtain ⟨⟨⟨⟨⟨⟨a1, a2⟩, a3⟩, a4⟩, a5⟩, a6⟩, a7⟩ := h4
  have hc : ∀ (s : Shared) (H : Hp) (C : Addr) (cl : List (Str × Addr)) (fp : List Addr), PCx Y k (X.blk s H scope (compEnvC scope cl C X.env) fp) Wno ifs cond := fun s H C cl fp =>
    sndC Y k cond _ Wno _ (ok.blk s H _ _ fp (blkOk_by a1).kind) a6
  have he : ∀ (s : Shared) (H : Hp) (C : Addr) (cl : List (Str × Addr)) (fp : List Addr), PEx Y k (X.blk s H scope (compEnvC scope cl C X.env) fp) Wno elt x := fun s H C cl fp =>
    (sndE Y k x _ Wno _ (ok.blk s H _ _ fp (blkOk_by a1).kind) a7).1
  have hsw : swapsWith (.ListComp elt [⟨t, iter, ifs, 0⟩] scope lp) (some (.Name y p)) pos.line X.env = pure true := by
    rw [swaps_is ok.kind (.inr ⟨_, _, _, _, rfl⟩), h3]
  refine (ps_setLc (own := own) (g := gT X.K tg) (tt := tXt X.K Y.M Wno (evalC (Y.Γ k) Y.T cond)) (te := tX X.K Y.M Wno (evalE (Y.Γ k) Y.T x)) ok.calm ok.nd h1 h2 hsw (sndI Y k it X W _ _ ok a3) (blkOk_by a1) (fun s H C cl fp => sndT (X := X.blk s H scope (compEnvC scope cl C X.env) fp) (fun _ h => h) ok.calm ok.nd tg t a4) hc he (folded_no a2 _)).imp fun D σ H z => ?_
  have z' : tS X.K Y.M W (fun env S => bnS (evalE (Y.Γ k) Y.T (.lc m own tg it cond x) env S) env fun d S1 => some (.nx (env.set i (some d)) S1)) D σ H := by
    simpa only [tS, exec] using z
  refine lc_reads ok a1 a4 a5 ((tS_bind (Ra := rD X.K Y.M) z').imp ?_)
  rintro v H1 ⟨G, Φ, μ, S, env, d, r, er, ra, res⟩
  exact res.nx r (er.set ra)
theorem ss_asgCD (ok : XOk Y k X W) {i : Nat} {m : Bool} {own : List (Str × Nat)} {kd : DK} {tg : Tg} {d : Ex} {cond : Oe} {x : Ex} {y : Str} {p pos lp : Pos} {elt t iter : Expr} {ifs : List Expr} {scope : Scope}
    (h1 : X.N[i]? = some y) (h2 : X.env.scope.names.lookup y = some .local) (h3 : swB X.env.scope y p.line (.ListComp elt [⟨t, iter, ifs, 0⟩] scope lp) = true) (h4 : okE Y.toTxt X.N (.lcD m own kd tg d cond x) X.env.scope (.ListComp elt [⟨t, iter, ifs, 0⟩] scope lp) = true)  :
    PSx Y k X W (.Assign [.Name y p] (.ListComp elt [⟨t, iter, ifs, 0⟩] scope lp) pos) (.asgCD i m own kd tg d cond x) := by
  simp only [okE, Bool.and_eq_true] at h4
  obtain ⟨⟨⟨⟨⟨⟨a1, a2⟩, a3, a3'⟩, a4⟩, a5⟩, a6⟩, a7⟩ := h4
  split at a3'
  · rename_i l hl
    obtain ⟨wi, w1, w2⟩ := okW_walk (X := X) (Y := Y) hl
    obtain ⟨td, hd, hx⟩ := sndR ok a3 a3'
    have hc : ∀ (s : Shared) (H : Hp) (C : Addr) (cl : List (Str × Addr)) (fp : List Addr), PCx Y k (X.blk s H scope (compEnvC scope cl C X.env) fp) Wno ifs cond := fun s H C cl fp =>
      sndC Y k cond _ Wno _ (ok.blk s H _ _ fp (blkOk_by a1).kind) a6
    have he : ∀ (s : Shared) (H : Hp) (C : Addr) (cl : List (Str × Addr)) (fp : List Addr), PEx Y k (X.blk s H scope (compEnvC scope cl C X.env) fp) Wno elt x := fun s H C cl fp =>
      (sndE Y k x _ Wno _ (ok.blk s H _ _ fp (blkOk_by a1).kind) a7).1
    have hsw : swapsWith (.ListComp elt [⟨t, iter, ifs, 0⟩] scope lp) (some (.Name y p)) pos.line X.env = pure true := by
      rw [swaps_is ok.kind (.inr ⟨_, _, _, _, rfl⟩), h3]
    have base := ps_setLc (pos := lp) (spos := pos) (own := own) (g := gT X.K tg) (tt := tXt X.K Y.M Wno (evalC (Y.Γ k) Y.T cond)) (te := tX X.K Y.M Wno (evalE (Y.Γ k) Y.T x)) ok.calm ok.nd h1 h2 hsw (w1 td hd) (blkOk_by a1) (fun s H C cl fp => sndT (X := X.blk s H scope (compEnvC scope cl C X.env) fp) (fun _ h => h) ok.calm ok.nd tg t a4) hc he (folded_no a2 _)
    refine ⟨fun pins s σ H Dn I z => (PS_or (ps_lock base) base).run pins s σ H Dn I ?_⟩
    have z' : tS X.K Y.M W (fun env S => bnS (evalE (Y.Γ k) Y.T (.lcD m own kd tg d cond x) env S) env fun d S1 => some (.nx (env.set i (some d)) S1)) Dn σ H := by
      simpa only [tS, exec] using z
    have z2 := s_lcD_reads (e := l) ok a5 hx (w2 td) ((tS_bind (Ra := rD X.K Y.M) z').imp (Q' := fun v H1 => Dn.nx (σ.set i (some v)) H1) (by
      rintro v H1 ⟨G, Φ, μ, S, env, d, r, er, ra, res⟩
      exact res.nx r (er.set ra)))
    rcases z2 with ⟨a, u, hH, hm, hod⟩ | z2
    · exact .inl ⟨a, u, hH, hm, fun od => hod od⟩
    · exact .inr z2
  · cases a3'
mutual
theorem sndS (Y : Sys) (k : Nat) : ∀ (x : Stm) (X : Cx) (W : WX) (s : Stmt), XOk Y k X W → FOk X → okS Y.toTxt X.N x X.env.scope s = true → PSx Y k X W s x
  | .asg t x, X, W, s, ok, hfn, h => by
    unfold okS at h
    split at h
    · simp only [Bool.and_eq_true] at h
      exact ss_asg ok hfn.fn h.1.1 (sndE Y k x X W _ ok h.1.2).1 h.2
    · cases h
  | .asgC i m own tg it cond x, X, W, s, ok, hfn, h => by
    unfold okS at h
    split at h
    · simp only [Bool.and_eq_true, decide_eq_true_eq] at h
      exact ss_asgC ok h.1.1.1 h.1.1.2 h.1.2 h.2
    · cases h
  | .asgS o i x, X, W, s, ok, hfn, h => by
    unfold okS at h
    split at h
    · simp only [Bool.and_eq_true] at h
      obtain ⟨⟨⟨⟨h1, h2⟩, h3⟩, h4⟩, h6⟩ := h
      exact ss_asgS ok (sndE Y k o X W _ ok h2).1 (sndE Y k i X W _ ok h3).1 (sndE Y k x X W _ ok h1).1 h4 h6
    · cases h
  | .asgA c o f x, X, W, s, ok, hfn, h => by
    unfold okS at h
    split at h
    · simp only [Bool.and_eq_true, decide_eq_true_eq] at h
      obtain ⟨⟨⟨⟨rfl, h2⟩, h3⟩, h4⟩, h5⟩ := h
      exact ss_asgA ok h2 (sndE Y k o X W _ ok h4).1 (sndE Y k x X W _ ok h3).1 h5
    · cases h
  | .aug i o x, X, W, s, ok, hfn, h => by
    unfold okS at h
    split at h
    · simp only [Bool.and_eq_true, decide_eq_true_eq, Bool.or_eq_true] at h
      obtain ⟨⟨⟨⟨h1, h2⟩, rfl⟩, h4⟩, h5⟩ := h
      exact ss_aug ok h1 hfn.fn h2 h4 (sndE Y k x X W _ ok h5).1
    · cases h
  | .augS a i o x, X, W, s, ok, hfn, h => by
    unfold okS at h
    split at h
    · simp only [Bool.and_eq_true, decide_eq_true_eq, Bool.or_eq_true] at h
      obtain ⟨⟨⟨⟨⟨rfl, h2⟩, h3⟩, h4⟩, h5⟩, h6⟩ := h
      exact ss_augS ok h2 (sndE Y k a X W _ ok h3).1 (sndE Y k i X W _ ok h4).1 (sndE Y k x X W _ ok h5).1 h6
    · cases h
  | .ex x, X, W, s, ok, hfn, h => by
    unfold okS at h
    split at h
    · simp only [Bool.and_eq_true] at h
      exact ss_ex (sndE Y k x X W _ ok h.1).1 h.2
    · cases h
  | .ret x, X, W, s, ok, hfn, h => by
    unfold okS at h
    split at h
    · exact ss_ret (sndE Y k x X W _ ok h).1
    · cases h
  | .retN, X, W, s, ok, hfn, h => by
    unfold okS at h
    split at h
    · exact ss_retN
    · cases h
  | .ifs c a b, X, W, s, ok, hfn, h => by
    unfold okS at h
    split at h
    · simp only [Bool.and_eq_true] at h
      exact ss_ifs (sndE Y k c X W _ ok h.1.1).2 (sndSs Y k a X W _ ok hfn h.1.2) (sndSs Y k b X W _ ok hfn h.2)
    · cases h
  | .for t it b, X, W, s, ok, hfn, h => by
    unfold okS at h
    split at h
    · simp only [Bool.and_eq_true] at h
      exact ss_for ok hfn.fn h.1.1.1 (sndI Y k it X W _ _ ok h.1.1.2) h.1.2 (sndSs Y k b X W _ ok hfn h.2)
    · cases h
  | .forD kd t x b, X, W, s, ok, hfn, h => by
    unfold okS at h
    split at h
    · rename_i tg it l pos
      simp only [Bool.and_eq_true] at h
      obtain ⟨⟨⟨⟨h1, h2⟩, h3⟩, h3'⟩, h4⟩ := h
      split at h3'
      · rename_i e he
        obtain ⟨wi, w1, w2⟩ := okW_walk (X := X) (Y := Y) he
        exact ss_dict ok hfn.fn h1 h2 (sndSs Y k b X W _ ok hfn h4) (sndR ok h3 h3') w1 w2
      · cases h3'
    · cases h
  | .asgCD i m own kd tg d cond x, X, W, s, ok, hfn, h => by
    unfold okS at h
    split at h
    · simp only [Bool.and_eq_true, decide_eq_true_eq] at h
      exact ss_asgCD ok h.1.1.1 h.1.1.2 h.1.2 h.2
    · cases h
  | .whl c b, X, W, s, ok, hfn, h => by
    unfold okS at h
    split at h
    · simp only [Bool.and_eq_true] at h
      exact ss_whl ok (sndE Y k c X W _ ok h.1).2 (sndSs Y k b X W _ ok hfn h.2)
    · cases h
  | .brk, X, W, s, ok, hfn, h => by
    unfold okS at h
    split at h
    · exact ss_brk
    · cases h
  | .cont, X, W, s, ok, hfn, h => by
    unfold okS at h
    split at h
    · exact ss_cont
    · cases h
  | .pass, X, W, s, ok, hfn, h => by
    unfold okS at h
    split at h
    · exact ss_pass
    · cases h
  | .raise c, X, W, s, ok, hfn, h => by
    unfold okS at h
    split at h
    · simp only [Bool.and_eq_true, decide_eq_true_eq] at h
      exact ss_raise ok h.1.1 h.1.2 h.2
    · cases h
  | .tryE b c nm hd, X, W, s, ok, hfn, h => by
    unfold okS at h
    split at h
    · simp only [Bool.and_eq_true, decide_eq_true_eq] at h
      obtain ⟨⟨⟨⟨⟨h1, h2⟩, h3⟩, h4⟩, h5⟩, h6⟩ := h
      exact ss_try ok hfn h1 h2 h3 h4 h6 fun W' pn xe o' => sndSs Y k b (X.tr pn xe) W' _ o' ⟨hfn.fn, hfn.stk, hfn.fr⟩ h5
    · cases h
theorem sndSs (Y : Sys) (k : Nat) : ∀ (xs : Stms) (X : Cx) (W : WX) (s : List Stmt), XOk Y k X W → FOk X → okSs Y.toTxt X.N xs X.env.scope s = true → PSsx Y k X W s xs
  | .nil, X, W, s, ok, hfn, h => by
    cases s with
    | nil =>
      refine pss_nil.imp fun D σ H z => ?_
      obtain ⟨G, Φ, μ, S, env, r, er, res⟩ := z
      rw [execs] at res
      exact res.nx r er
    | cons _ _ => simp [okSs] at h
  | .cons x r, X, W, s, ok, hfn, h => by
    cases s with
    | nil => simp [okSs] at h
    | cons s l =>
      simp only [okSs, Bool.and_eq_true] at h
      refine (pss_cons (sndS Y k x X W s ok hfn h.1) (sndSs Y k r X W l ok hfn h.2)).imp fun D σ H z => ?_
      obtain ⟨G, Φ, μ, S, env, r, er, res⟩ := z
      simp only [execs] at res
      exact ⟨G, Φ, μ, S, env, r, er, res.seq⟩
  | .fz i r, X, W, s, ok, hfn, h => by
    simp only [okSs] at h
    refine (sndSs Y k r X W s ok hfn h).imp fun D σ H z => ?_
    obtain ⟨G, Φ, μ, S, env, r, er, res⟩ := z
    simp only [execs] at res
    split at res
    · rename_i e S1 hz
      obtain ⟨G1, g1, r1, e1⟩ := fz_ok r er hz
      exact ⟨G1, Φ, μ, S1, e, r1, e1, SRes.mono g1 res⟩
    · exact res.elim
  | .fzd i r, X, W, s, ok, hfn, h => by
    simp only [okSs] at h
    refine (sndSs Y k r X W s ok hfn h).imp fun D σ H z => ?_
    obtain ⟨G, Φ, μ, S, env, r, er, res⟩ := z
    simp only [execs] at res
    split at res
    · rename_i d hd
      split at res
      · rename_i d' S1 hz
        obtain ⟨v, hv, q⟩ := er.at_ i _ hd
        obtain ⟨G1, g1, r1, q1⟩ := frz_ok 9 _ _ _ _ _ _ r q hz
        have e1 := (er.grow g1).set (i := i) q1
        rw [show σ.set i (some v) = σ from by
          apply List.ext_getElem?
          intro j
          by_cases hj : i = j
          · subst hj
            rw [List.getElem?_set_self (List.getElem?_eq_some_iff.mp hv).1, hv]
          · rw [List.getElem?_set_ne hj]] at e1
        exact ⟨G1, Φ, μ, S1, _, r1, e1, SRes.mono g1 res⟩
      · exact res.elim
    · exact res.elim
end
end
end Ip
/-! ## Defs keep what the function says; the end of a law -/
namespace Ip
open PySem PySem.Spec PyProof.Rows L2

structure DefOk (Y : Txt) (f : Fn) (d : He.DefD) : Prop where
  at_ : f.name = ("" : Str) ∨ d.at_ = (f.name, none)
  scope : FnScope f.N f.ps d.scope
  body : okSs Y f.N f.body d.scope d.body = true
  dfl : d.dfl = []
  kwd : d.kwd = []
  bind : ∀ (kV doc pm : Value) (an : Option Addr) (cdv ct : Value) (us : List Value), us.length = f.ps.length → bindArgs (PySem.W.fnOf d.name d.qual d.params d.body d.scope .none kV doc pm an cdv ct) ⟨us, []⟩ = pure (f.ps.zip us)
theorem envOf_rel {K : PySem.W.Frag} {M : Am} {G : Hp} {μ : Mu} {N : List Str} {ds : List D} {vs : List V} (q : RDs K M G μ ds vs) : EnR K M G μ (envOf N.length ds) (L2.start N vs) := by
  refine ⟨?_, fun i d h => ?_⟩
  · unfold envOf L2.start
    simp only [List.length_append, List.length_map, List.length_replicate, q.length]
  · unfold envOf at h
    unfold L2.start
    by_cases hi : i < ds.length
    · rw [List.getElem?_append_left (by simpa using hi), List.getElem?_map] at h
      cases hd : ds[i]? with
      | none => rw [hd] at h; cases h
      | some d' =>
        rw [hd] at h
        cases h
        obtain ⟨v, hv, qv⟩ := q.get hd
        have hl : i < vs.length := q.length ▸ hi
        exact ⟨v, by rw [List.getElem?_append_left (by simpa using hl), List.getElem?_map, hv]; rfl, qv⟩
    · rw [List.getElem?_append_right (by simpa using hi)] at h
      simp only [List.length_map] at h
      rw [List.getElem?_replicate] at h
      split at h <;> cases h
theorem outS_res {K : PySem.W.Frag} {M : Am} {W : WX} {σ : L2.St} {G Φ : Hp} {μ : Mu} {r : Option So} {Q : VK} {E : XK} (hW : ∀ c H, W c none σ H → E c none H) (res : Res K M W σ G Φ μ (outS r) (rD K M) Q) :
    SRes K M (fun c d _ H => E c d H) G Φ μ r { nx := fun _ H' => Q .non H', rt := Q } := by
  cases r with
  | none => exact res
  | some z =>
    cases z with
    | nx e S => exact fun G' μ' H' σ' g r er => res G' μ' H' .non g r .non
    | bk e S => exact res.elim
    | ct e S => exact res.elim
    | rt d S => exact res
    | ex c e S => exact fun G' μ' H' σ' g r er => hW _ _ (res G' μ' H' g r)
section
variable {Y : Sys} {P : Program} {w : World} {K : PySem.W.Frag} {mg : Str → Option Value} {base : Heap}
/-- THE RULE: every def of the text keeps what the function says, at every level -/
theorem all_ok (ds : List He.DefD) (hl : ds.length = Y.F.length) (hd : ∀ (i : Nat) (f : Fn) (d : He.DefD), Y.F[i]? = some f → ds[i]? = some d → DefOk Y.toTxt f d ∧ FunD K d.name d.qual d.params d.body d.scope [] [] (Y.fa i) (Y.fd i))
    (hf : ∀ k, (∀ (i : Nat) (f : Fn), Y.F[i]? = some f → FnOk P w K mg base (L2.CX P w) (2 * k) (Y.fa i) (Y.fd i) f.ps (spI Y K k i)) → Facts Y P w K mg base k) :
    ∀ k (i : Nat) (f : Fn), Y.F[i]? = some f → FnOk P w K mg base (L2.CX P w) (2 * k) (Y.fa i) (Y.fd i) f.ps (spI Y K k i)
  | 0, i, f, h => by
    have no : ∀ vs H Q E, ¬ spI Y K 0 i vs H Q E := fun vs H Q E ⟨_, _, _, _, _, _, _, res⟩ => res
    exact ⟨fun vs H Q E s => (no vs H Q E s).elim, fun _ _ _ _ _ _ _ _ _ _ _ _ _ s => (no _ _ _ _ s).elim⟩
  | k + 1, i, f, h => by
    have ih := all_ok ds hl hd hf k
    have F := hf k ih
    have hi : i < ds.length := hl ▸ (List.getElem?_eq_some_iff.mp h).1
    obtain ⟨D, FD⟩ := hd i f ds[i] h (List.getElem?_eq_getElem hi)
    refine FD.ok (k := 2 * k + 1) D.scope (fun vs H Q E s => ?_) (fun cdv A outer s H vs Q E hr sp => ?_)
    · obtain ⟨G, Φ, μ, S, xs, r, q, res⟩ := s
      rw [← q.length]
      rw [callK] at res
      simp only [h] at res
      split at res
      · rename_i e; exact e
      · exact res.elim
    · refine ⟨tS K Y.M (fun c d _ H => E c d H) (execs (Y.Γ k) Y.T f.body), ?_, ?_⟩
      · have ok : XOk Y k (cxOf (L2.CX P w) P w K mg base f.N ds[i].qual ds[i].scope (Y.fa i) cdv A outer s H E) (fun c d _ H => E c d H) :=
          ⟨rfl, D.scope.kind, D.scope.nd, hr, takes_of rfl rfl rfl rfl, passes_of rfl, F⟩
        exact sndSs Y k f.body _ _ _ ok ⟨fun _ => rfl, rfl, rfl⟩ D.body
      · obtain ⟨G, Φ, μ, S, xs, r, q, res⟩ := sp
        rw [callK] at res
        simp only [h] at res
        split at res
        · exact ⟨G, Φ, μ, S, _, r, envOf_rel q, outS_res (fun _ _ h => h) res⟩
        · exact res.elim
end
/-! ### the data of a law -/
structure Lw where
  F : List Fn
  ds : List He.DefD
  cs : List (Str × Cst)
  xs : List Str
  subs : List (List Bool)
  cl : List Cl
def Lw.tab (L : Lw) : Tab := ⟨L.cs.map fun q => q.2.d, L.subs⟩
def Lw.tx (L : Lw) : Txt := ⟨L.F, L.tab, L.cs.map (·.1), L.xs, L.cl⟩
def cFa (q : Str × Cst) : He.Fa := match q.2 with
  | .int i => .int q.1 i
  | .str z => .str q.1 z
  | _ => .int q.1 0
def clFas (q : Cl) : List He.Fa := .glo q.name :: .cls q.name :: .mkr q.name :: (q.fs.map (fun f => .noat q.name f) ++ q.ms.map fun m => .meth q.name m.1)
def Lw.fas (L : Lw) : List He.Fa := L.cl.flatMap clFas ++ ((L.F.filter fun f => decide (f.name ≠ ("" : Str))).map (fun f => .glo f.name) ++ L.cs.map cFa ++ L.xs.map .glo ++ L.xs.map .exc ++ bNames.map .free)
def Lw.am (L : Lw) (K : PySem.W.Frag) (xs : List Str) : Am := ⟨fun i => He.ga K ((L.cl.map (·.name)).getD i ("" : Str)), fun i => He.ga K (xs.getD i ("" : Str)), fun i => match L.ds[i]? with
    | some d => He.fAd K d.at_
    | none => 0⟩
noncomputable def Lw.sys (L : Lw) (K : PySem.W.Frag) (fd : Nat → FuncData) : Sys := { L.tx with
  M := L.am K L.xs
  fa := fun i => match L.ds[i]? with
    | some d => He.fAd K d.at_
    | none => 0
  fd := fd }
def atB (L : Lw) (i : Nat) (p : Str × Option Str) : Bool := match L.ds[i]? with
  | some d => decide (d.at_ = p)
  | none => false
def csOk (L : Lw) : Bool := (L.cs.all fun q => match q.2 with
  | .int _ => true
  | .str _ => true
  | _ => false) && L.cl.all fun q => atB L q.ini (q.name, some ("__init__" : Str)) && q.ms.all fun m => atB L m.2 (q.name, some m.1)
theorem atB_fa {L : Lw} {K : PySem.W.Frag} {fd : Nat → FuncData} {i : Nat} {p : Str × Option Str} (h : atB L i p = true) : (L.sys K fd).fa i = He.fAd K p := by
  unfold atB at h
  show (match L.ds[i]? with
    | some d => He.fAd K d.at_
    | none => 0) = _
  split at h
  · rw [of_decide_eq_true h]
  · cases h
/-- what the own exceptions' classes must say -/
def excC1 (K : PySem.W.Frag) (D : Addr) : Bool := He.eqO (PySem.W.findIn K (.ref D) "__getattribute__") (some (some (.builtin "BaseException.__getattribute__"))) && (He.eqO (PySem.W.findIn K (.ref D) "__getattr__") (some none) &&
  (decide (PySem.W.subIn K (.ref D) (.type "BaseException") = some true) && (PySem.W.hasDictIn K D && (He.eqO (PySem.W.findIn K (.ref D) "__class__") (some (some (.builtin "object.__class__"))) &&
  (He.eqO (PySem.W.specialIn K (.builtin "object.__class__") "__get__") (some (some (.builtin "getset_descriptor.__get__"))) && (decide (PySem.W.takesIn K (.builtin "object.__class__") = some true) && decide (PySem.W.mroIn K D (.type "object") = some true)))))))
theorem excC1_ok {K : PySem.W.Frag} {D : Addr} (h : excC1 K D = true) : ExcC K D := by
  obtain ⟨h1, h⟩ := He.ba h
  obtain ⟨h2, h⟩ := He.ba h
  obtain ⟨h3, h⟩ := He.ba h
  obtain ⟨h4, h⟩ := He.ba h
  obtain ⟨h5, h⟩ := He.ba h
  obtain ⟨h6, h⟩ := He.ba h
  obtain ⟨h7, h8⟩ := He.ba h
  exact ⟨He.eqO_ok h1, He.eqO_ok h2, of_decide_eq_true h3, h4, He.eqO_ok h5, He.eqO_ok h6, of_decide_eq_true h7, of_decide_eq_true h8⟩
def excP (K : PySem.W.Frag) (C D : Addr) (b : Bool) : Bool := decide (PySem.W.exmOne K (.ref C) (.ref D) = some b) && decide (PySem.W.kitOne K (.ref C) (.ref D) = some b)
def excB (K : PySem.W.Frag) (xs : List Str) (subs : List (List Bool)) : Bool := (List.range subs.length).all fun i => excC1 K (He.ga K (xs.getD i ("" : Str))) && (List.range (subs.getD i []).length).all fun j =>
  match (subs.getD i [])[j]? with
  | some b => excP K (He.ga K (xs.getD i ("" : Str))) (He.ga K (xs.getD j ("" : Str))) b
  | none => true
theorem excB_ok {K : PySem.W.Frag} {xs : List Str} {subs : List (List Bool)} {cs : List D} (h : excB K xs subs = true) {i j : Nat} {b : Bool} (e : (Tab.mk cs subs).sub i j = some b) :
    PySem.W.exmOne K (.ref (He.ga K (xs.getD i ("" : Str)))) (.ref (He.ga K (xs.getD j ("" : Str)))) = some b ∧ PySem.W.kitOne K (.ref (He.ga K (xs.getD i ("" : Str)))) (.ref (He.ga K (xs.getD j ("" : Str)))) = some b ∧ ExcC K (He.ga K (xs.getD i ("" : Str))) := by
  unfold Tab.sub at e
  dsimp only at e
  split at e
  · rename_i r hr
    have hi := (List.getElem?_eq_some_iff.mp hr).1
    have z := List.all_eq_true.mp h i (List.mem_range.mpr hi)
    obtain ⟨z1, z2⟩ := He.ba z
    have gd : subs.getD i [] = r := by rw [List.getD_eq_getElem?_getD, hr]; rfl
    rw [gd] at z2
    have hj := (List.getElem?_eq_some_iff.mp e).1
    have z3 := List.all_eq_true.mp z2 j (List.mem_range.mpr hj)
    rw [e] at z3
    obtain ⟨z4, z5⟩ := He.ba z3
    exact ⟨of_decide_eq_true z4, of_decide_eq_true z5, excC1_ok z1⟩
  · cases e
def obsX (n : Nat) (fa : List He.Fa) (fn : List He.DefD) (xs : List Str) (subs : List (List Bool)) (g : Addr → Option Obj) : He.AlD × Bool := (He.obsD fa fn (He.frG g (He.asD g n)), excB (He.frG g (He.asD g n)) xs subs)
def hookX (n : Nat) (fa : List He.Fa) (fn : List He.DefD) (xs : List Str) (subs : List (List Bool)) : PySem.W.Hook where
  α := He.AlD × Bool
  obs := fun s => obsX n fa fn xs subs s.heap.get?
  val := fun _ => (He.valD fn, true)
  says := fun _ h => ∃ K : PySem.W.Frag, K.In h ∧ He.SaysD fa fn K ∧ excB K xs subs = true
  of := fun _ _ e => ⟨_, He.frG_in, (Prod.mk.inj e).1, (Prod.mk.inj e).2⟩
  keeps := fun _ _ _ ⟨K, hK, c⟩ k => ⟨K, PySem.W.Frag.In.keeps hK k, c⟩
theorem obsX_eq {n : Nat} {fa : List He.Fa} {fn : List He.DefD} {xs : List Str} {subs : List (List Bool)} {g : Addr → Option Obj} {s : Shared} (h : ∀ a, g a = s.heap.get? a) : obsX n fa fn xs subs g = (hookX n fa fn xs subs).obs s := by
  have e : g = s.heap.get? := funext h
  rw [e] <;> rfl
/-- every def is what the term says -/
def AllOk (L : Lw) : Prop := ∀ (i : Nat) (f : Fn) (d : He.DefD), L.F[i]? = some f → L.ds[i]? = some d → DefOk L.tx f d
theorem facts_of {L : Lw} {P : Program} {w : World} {K : PySem.W.Frag} {mg : Str → Option Value} {base : Heap} {fd : Nat → FuncData} {h : Heap} (hc : csOk L = true) (ha : AllOk L) (hl : L.ds.length = L.F.length)
    (X : K.In h) (G : h.Ns mainGlobals mg) (c : He.SaysD L.fas L.ds K) (cx : excB K L.xs L.subs = true) (hfd : ∀ (i : Nat) (d : He.DefD), L.ds[i]? = some d → FunD K d.name d.qual d.params d.body d.scope [] [] (He.fAd K d.at_) (fd i)) :
    ∀ k, (∀ (i : Nat) (f : Fn), L.F[i]? = some f → FnOk P w K mg base (L2.CX P w) (2 * k) ((L.sys K fd).fa i) (fd i) f.ps (spI (L.sys K fd) K k i)) → Facts (L.sys K fd) P w K mg base k := by
  intro k ih
  have fact : ∀ f ∈ L.fas, f.ok K = true := fun f hf => by
    have := congrArg Prod.fst c
    simp only [He.obsD, He.valD, Bool.and_eq_true] at this
    exact List.all_eq_true.mp this.1 f hf
  have nm : ∀ (i : Nat) (f : Fn), L.F[i]? = some f → f.name ≠ ("" : Str) → (L.sys K fd).fa i = He.ga K f.name := fun i f e hne => by
    have hi : i < L.ds.length := hl ▸ (List.getElem?_eq_some_iff.mp e).1
    have hd := List.getElem?_eq_getElem hi
    have D := ha i f _ e hd
    have h2 := D.at_.resolve_left hne
    exact atB_fa (p := (f.name, none)) (by unfold atB; rw [hd]; exact decide_eq_true h2)
  have bindIt : ∀ (i : Nat) (f : Fn), L.F[i]? = some f → Binds K (fd i) f.ps [] := fun i f e => by
    have hi : i < L.ds.length := hl ▸ (List.getElem?_eq_some_iff.mp e).1
    have hd := List.getElem?_eq_getElem hi
    have D := ha i f _ e hd
    have FD := hfd i _ hd
    exact FD.bindsN (fun kV doc pm an cdv ct us hu => D.bind kV doc pm an cdv ct us hu)
  have keepIt : ∀ (i : Nat) (f : Fn), L.F[i]? = some f → PySem.W.keepIn K (.ref ((L.sys K fd).fa i)) = true := fun i f e => by
    have hi : i < L.ds.length := hl ▸ (List.getElem?_eq_some_iff.mp e).1
    have hd := List.getElem?_eq_getElem hi
    have FD := hfd i _ hd
    rw [atB_fa (p := (L.ds[i]).at_) (by unfold atB; rw [hd]; exact decide_eq_true rfl)]
    exact FD.kp
  rw [csOk, Bool.and_eq_true] at hc
  obtain ⟨hc, hcl⟩ := hc
  refine ⟨fun i f e hne => ?_, ih, fun i x e => ?_, fun i x e => ?_, fun x hx => ?_, bindIt, fun c q e => ?_, fun _ => rfl, fun i j b e => excB_ok cx e⟩
  · have g : (He.Fa.glo f.name).ok K = true := fact _ (by unfold Lw.fas; simp only [List.mem_append, List.mem_map, List.mem_filter]; exact .inr (.inl (.inl (.inl (.inl ⟨f, ⟨List.mem_of_getElem? e, decide_eq_true hne⟩, rfl⟩)))))
    refine ⟨?_, keepIt i f e, bindIt i f e⟩
    rw [nm i f e hne]
    exact He.glo_ok X G g
  · have e : (L.cs.map (·.1))[i]? = some x := e
    rw [List.getElem?_map] at e
    cases hq : L.cs[i]? with
    | none => rw [hq] at e; cases e
    | some q =>
      rw [hq] at e
      cases e
      refine ⟨q.2, ?_, ?_⟩
      · show (L.cs.map fun q => q.2.d)[i]? = _
        rw [List.getElem?_map, hq]; rfl
      · have hm := List.mem_of_getElem? hq
        have g : (cFa q).ok K = true := fact _ (by unfold Lw.fas; simp only [List.mem_append, List.mem_map]; exact .inr (.inl (.inl (.inl (.inr ⟨q, hm, rfl⟩)))))
        have hcq := List.all_eq_true.mp hc q hm
        obtain ⟨x, z⟩ := q
        cases z with
        | int n => obtain ⟨t, ht⟩ := He.int_ok X G g; exact ⟨_, ht, t, rfl⟩
        | str n => obtain ⟨t, ht⟩ := He.str_ok X G g; exact ⟨_, ht, t, rfl⟩
        | non => cases hcq
        | bl b => cases hcq
  · have e : L.xs[i]? = some x := e
    have hm := List.mem_of_getElem? e
    have g1 : (He.Fa.glo x).ok K = true := fact _ (by unfold Lw.fas; simp only [List.mem_append, List.mem_map]; exact .inr (.inl (.inl (.inr ⟨x, hm, rfl⟩))))
    have g2 : (He.Fa.exc x).ok K = true := fact _ (by unfold Lw.fas; simp only [List.mem_append, List.mem_map]; exact .inr (.inl (.inr ⟨x, hm, rfl⟩)))
    have ex : L.xs.getD i ("" : Str) = x := by simp [List.getD_eq_getElem?_getD, e]
    obtain ⟨a1, a2, a3, a4⟩ := He.exc_ok g2
    show mg x = some (.ref (He.ga K (L.xs.getD i ("" : Str)))) ∧ PySem.W.keepIn K (.ref (He.ga K (L.xs.getD i ("" : Str)))) = true ∧ PySem.W.excIn K (He.ga K (L.xs.getD i ("" : Str))) He.veBase "ValueError.__new__" = true ∧
      PySem.W.subIn K (.ref (He.ga K (L.xs.getD i ("" : Str)))) (.type "BaseException") = some true ∧ PySem.W.typeIn K (.ref (He.ga K (L.xs.getD i ("" : Str)))) = some (.type "type")
    rw [ex]
    exact ⟨He.glo_ok X G g1, a2, a1, a3, a4⟩
  · have g : (He.Fa.free x).ok K = true := fact _ (by unfold Lw.fas; simp only [List.mem_append, List.mem_map]; exact .inr (.inr ⟨x, hx, rfl⟩))
    exact He.free_ok X G g
  · have e : L.cl[c]? = some q := e
    have hm := List.mem_of_getElem? e
    have ex : (L.cl.map (·.name)).getD c ("" : Str) = q.name := by simp [List.getD_eq_getElem?_getD, e]
    have cf : ∀ f ∈ clFas q, f.ok K = true := fun f hf => fact f (by unfold Lw.fas; rw [List.mem_append]; exact .inl (List.mem_flatMap.mpr ⟨q, hm, hf⟩))
    have mem : ∀ {f : He.Fa}, (f = .glo q.name ∨ f = .cls q.name ∨ f = .mkr q.name ∨ f ∈ q.fs.map (fun f => He.Fa.noat q.name f) ++ q.ms.map fun m => He.Fa.meth q.name m.1) → f ∈ clFas q := fun {f} h => by
      unfold clFas
      simp only [List.mem_cons]
      exact h
    have hq := List.all_eq_true.mp hcl q hm
    rw [Bool.and_eq_true] at hq
    show Cls K (He.ga K ((L.cl.map (·.name)).getD c ("" : Str))) ∧ mg q.name = some (.ref (He.ga K ((L.cl.map (·.name)).getD c ("" : Str)))) ∧ Mk K (He.ga K ((L.cl.map (·.name)).getD c ("" : Str))) ((L.sys K fd).fa q.ini) ∧
      (∀ f ∈ q.fs, NoAttr K (He.ga K ((L.cl.map (·.name)).getD c ("" : Str))) f) ∧ ∀ m i, (m, i) ∈ q.ms → Meth K (He.ga K ((L.cl.map (·.name)).getD c ("" : Str))) m ((L.sys K fd).fa i)
    rw [ex]
    refine ⟨He.cls_ok (cf _ (mem (.inr (.inl rfl)))), He.glo_ok X G (cf _ (mem (.inl rfl))), ?_, fun f hf => ?_, fun m i hmi => ?_⟩
    · rw [atB_fa hq.1]
      exact He.mkr_ok (cf _ (mem (.inr (.inr (.inl rfl)))))
    · exact He.noat_ok (cf _ (mem (.inr (.inr (.inr (List.mem_append.mpr (.inl (List.mem_map.mpr ⟨f, hf, rfl⟩))))))))
    · rw [atB_fa (List.all_eq_true.mp hq.2 _ hmi)]
      exact He.meth_ok (cf _ (mem (.inr (.inr (.inr (List.mem_append.mpr (.inr (List.mem_map.mpr ⟨(m, i), hmi, rfl⟩))))))))
/-- the end of a law: the promise of the law's def from what the function gives -/
theorem law_end {L : Lw} {l : PySem.W.OpenLaw} {q : Program} {loose : List Str} {XP : (Str → Option Value) → Heap → Prop} {d : DefRec} {j k n : Nat} {fl : Fn} {w0 : World → Heap → Prop}
    (hY : ∀ w h, w0 w h → ∃ K : PySem.W.Frag, K.In h ∧ He.SaysD L.fas L.ds K ∧ excB K L.xs L.subs = true)
    (hn : l.most = some n) (hn2 : n ≤ sizeLine) (hdf : d.params.defaults = []) (hr : Room (2 * k) callerA) (hc : csOk L = true) (ha : AllOk L) (hl : L.ds.length = L.F.length)
    (hj : L.F[j]? = some fl) (hne : fl.name ≠ ("" : Str)) (hps : fl.ps = [("script" : Str)]) (hname : d.name = fl.name)
    (hlaw : ∀ ns : List Int, ns.length ≤ n → (∀ z ∈ ns, Builtin.Int.intBits z ≤ 1048576) → ∃ S, callK L.F L.tab k j [.scr ns] [] = some (.ok (.bl true) S)) :
    PySem.W.WalkO q loose XP w0 l.row.toRowW d [] (fun f vs => PySem.call f vs) := by
  classical
  refine Att.attach_callB hn hdf fun w s₀ s₁ mg mb fa o pm cd doc a vs ns G Yw ho hd hcd hmg hobj hints hlen hbits hg => ?_
  obtain ⟨K, KX, c, cx⟩ := hY w _ Yw
  have hdef : ∀ i : Nat, ∃ fd : FuncData, ∀ d : He.DefD, L.ds[i]? = some d → FunD K d.name d.qual d.params d.body d.scope [] [] (He.fAd K d.at_) fd := fun i => by
    cases e : L.ds[i]? with
    | none => exact ⟨⟨"", "", default, default, default, 0, [], .none, .none, .none, .none, none, .none, .none, 0⟩, fun d h => by cases h⟩
    | some d =>
      obtain ⟨fd, h⟩ := c.def_ i e
      have hi : i < L.F.length := hl ▸ (List.getElem?_eq_some_iff.mp e).1
      have D := ha i _ d (List.getElem?_eq_getElem hi) e
      refine ⟨fd, fun d' h' => ?_⟩
      cases h'
      have h1 : d.dvs K = [] := by unfold He.DefD.dvs; rw [D.dfl]; rfl
      have h2 : d.kws K = [] := by unfold He.DefD.kws; rw [D.kwd]; rfl
      rw [h1, h2] at h
      exact h
  let fd : Nat → FuncData := fun i => Classical.choose (hdef i)
  have hfd : ∀ (i : Nat) (d : He.DefD), L.ds[i]? = some d → FunD K d.name d.qual d.params d.body d.scope [] [] (He.fAd K d.at_) (fd i) := fun i d e => Classical.choose_spec (hdef i) d e
  let Y := L.sys K fd
  have faEq : ∀ (i : Nat) (d : He.DefD), L.ds[i]? = some d → Y.fa i = He.fAd K d.at_ := fun i d e => atB_fa (by unfold atB; rw [e]; exact decide_eq_true rfl)
  have all : ∀ base : Heap, K.In base → base.Ns mainGlobals mg → FnOk l.prog w K mg base (L2.CX l.prog w) (2 * k) (Y.fa j) (fd j) fl.ps (spI Y K k j) := fun base KB GB =>
    all_ok (Y := Y) L.ds hl (fun i f d e1 e2 => by
      have D := ha i f d e1 e2
      refine ⟨D, ?_⟩
      rw [faEq i d e2]
      exact hfd i d e2) (facts_of hc ha hl KB GB c cx hfd) k j fl hj
  have hi : j < L.ds.length := hl ▸ (List.getElem?_eq_some_iff.mp hj).1
  have D := ha j fl _ hj (List.getElem?_eq_getElem hi)
  have hfa : fa = Y.fa j := by
    have g : (He.Fa.glo fl.name).ok K = true := by
      have := congrArg Prod.fst c
      simp only [He.obsD, He.valD, Bool.and_eq_true] at this
      exact List.all_eq_true.mp this.1 _ (by unfold Lw.fas; simp only [List.mem_append, List.mem_map, List.mem_filter]; exact .inr (.inl (.inl (.inl (.inl ⟨fl, ⟨List.mem_of_getElem? hj, decide_eq_true hne⟩, rfl⟩)))))
    have := He.glo_ok KX G.T.g g
    rw [← hname, hmg] at this
    rw [faEq j _ (List.getElem?_eq_getElem hi), D.at_.resolve_left hne, ← hname]
    cases this
    rfl
  subst hfa
  refine law_call KX G.T.g G.T.b G.T.builtins G.T.nolimit hg hobj hints (Nat.le_trans hlen hn2) hr (x := ("script" : Str)) (sp := spI Y K k j) (fun base KB GB => by have := all base KB GB; rw [hps] at this; exact this) (fun s u => ?_) (fun H hO hS => ?_) (fun H e s' h => ?_)
  · have := (hfd j _ (List.getElem?_eq_getElem hi)).bindsA (ps := [("script" : Str)]) (fun kV doc pm an cdv ct us hu => by have := D.bind kV doc pm an cdv ct us (by rw [hps]; exact hu); rw [hps] at this; exact this) s [u] rfl
    exact this
  · obtain ⟨S, e⟩ := hlaw ns hlen hbits
    refine ⟨H, fun _ => none, fun _ => none, [], [.scr ns], ⟨fun a u h => .inl h, fun _ _ h => (by cases h), fun _ _ h => (by simp at h), fun _ _ _ h => (by simp at h), fun _ _ _ h => (by cases h), fun _ _ h => (by cases h), fun _ _ h => (by cases h), fun _ _ h => (by cases h), fun _ _ h => (by cases h), fun _ _ h => (by cases h), fun _ _ h => (by simp at h)⟩, .cons (.scr hS) .nil, ?_⟩
    have e' : callK Y.F Y.T k j [.scr ns] [] = some (.ok (.bl true) S) := e
    rw [e']
    intro G' μ' H' v g r q
    cases q
    rfl
  · obtain ⟨a, B, H', cls, dd, _, _, _, _, _, _, _, hE⟩ := h
    exact hE
end Ip
/-! ## Simplification of the evaluator -/
namespace Ip
open PySem PySem.Spec PyProof.Rows L2
@[simp] theorem sl_eq {a b : String} : (Str.ofString a = Str.ofString b) = (a = b) := by
  apply propext
  constructor
  · intro h
    rw [Str.ofString_eq_toList, Str.ofString_eq_toList] at h
    have h2 : a.toList.map Char.toNat = b.toList.map Char.toNat := by
      injection h with h
      injection h
    apply String.ext
    have : ∀ l m : List Char, l.map Char.toNat = m.map Char.toNat → l = m := by
      intro l
      induction l with
      | nil => intro m h; cases m with | nil => rfl | cons _ _ => cases h
      | cons c l ih =>
        intro m h
        cases m with
        | nil => cases h
        | cons d m =>
          rw [List.map_cons, List.map_cons] at h
          injection h with h1 h2
          rw [ih m h2, Char.toNat_inj.mp h1]
    exact this _ _ h2
  · intro h; rw [h]
section
variable {S : Sto} {n : Nat} {i j : Int} {x y : Str} {a b : Bool} {d : D} {xs ys : List D} {m : Bool}
@[simp] theorem le_size {n : Nat} : (n ≤ PySem.sizeLine) = (n ≤ 16777216) := by rw [PySem.sizeLine_eq]
@[simp] theorem cmpD_eq {x y : D} : cmpD .eq x y S = eqD S x y := rfl
@[simp] theorem cmpD_ne {x y : D} : cmpD .ne x y S = (eqD S x y).map not := rfl
@[simp] theorem cmpD_in {x y : D} : cmpD .isin x y S = inD S x y := rfl
@[simp] theorem cmpD_nin {x y : D} : cmpD .notin x y S = (inD S x y).map not := rfl
@[simp] theorem cmpD_is {x y : D} : cmpD .is_ x y S = isD x y := rfl
@[simp] theorem cmpD_isnot {x y : D} : cmpD .isnot x y S = (isD x y).map not := rfl
@[simp] theorem cmpD_lt : cmpD .lt (.int i) (.int j) S = some (decide (i < j)) := rfl
@[simp] theorem cmpD_le : cmpD .le (.int i) (.int j) S = some (decide (i ≤ j)) := rfl
@[simp] theorem cmpD_gt : cmpD .gt (.int i) (.int j) S = some (decide (j < i)) := rfl
@[simp] theorem cmpD_ge : cmpD .ge (.int i) (.int j) S = some (decide (j ≤ i)) := rfl
/-- text y ahead of text x -/
def ltS (y x : Str) : Bool := decide (y.cps.toList < x.cps.toList)
@[simp] theorem cmpD_les : cmpD .le (.str x) (.str y) S = some (!ltS y x) := rfl
@[simp] theorem eqD_int : eqD S (.int i) (.int j) = some (decide (i = j)) := rfl
@[simp] theorem eqD_str : eqD S (.str x) (.str y) = some (decide (x = y)) := rfl
@[simp] theorem eqD_bl : eqD S (.bl a) (.bl b) = some (decide (a = b)) := rfl
@[simp] theorem eqD_non : eqD S .non .non = some true := rfl
@[simp] theorem truD_bl : truD S (.bl a) = some a := rfl
@[simp] theorem truD_non : truD S .non = some false := rfl
@[simp] theorem isD_nn : isD .non .non = some true := rfl
@[simp] theorem isD_in : isD (.int i) .non = some false := rfl
@[simp] theorem isD_sn : isD (.str x) .non = some false := rfl
@[simp] theorem isD_tn : isD (.tup xs) .non = some false := rfl
@[simp] theorem isD_ln : isD (.lst xs) .non = some false := rfl
@[simp] theorem isD_bn : isD (.bl a) .non = some false := rfl
@[simp] theorem isD_bb : isD (.bl a) (.bl b) = some (decide (a = b)) := rfl
@[simp] theorem binD_add : binD .add false (.int i) (.int j) S = some (.ok (.int (i + j)) S) := rfl
@[simp] theorem binD_sub : binD .sub false (.int i) (.int j) S = some (.ok (.int (i - j)) S) := rfl
@[simp] theorem binD_mod (h : 0 < j) : binD .mod false (.int i) (.int j) S = some (.ok (.int (i % j)) S) := by
  show okO ((binI .mod i j).map D.int) S = _
  unfold binI
  simp [h]
theorem binD_fdivL (h : 0 < j) (h2 : j < 2 ^ 400) : binD .fdiv false (.int i) (.int j) S = some (.ok (.int (i / j)) S) := by
  show okO ((binI .fdiv i j).map D.int) S = _
  have e : binI .fdiv i j = some (i / j) := by
    show (@ite _ (0 < j ∧ j < 2 ^ 400) (Classical.propDecidable _) (some (i / j)) none) = _
    exact if_pos ⟨h, h2⟩
  rw [e]; rfl
theorem small_400 (h2 : j < 1073741824) : j < 2 ^ 400 := by
  have : (1073741824 : Int) ≤ 2 ^ 400 := by decide +kernel
  omega
@[simp] theorem binD_fdiv (h : 0 < j) (h2 : j < 1073741824) : binD .fdiv false (.int i) (.int j) S = some (.ok (.int (i / j)) S) := binD_fdivL h (small_400 h2)
theorem binD_pow (h : 0 ≤ j ∧ j ≤ 1000000 ∧ i.natAbs < 2 ^ 64) : binD .pow false (.int i) (.int j) S = some (.ok (.int (i ^ j.toNat)) S) := by
  show okO ((binI .pow i j).map D.int) S = _
  unfold binI
  rw [if_pos h] <;> rfl
theorem binD_mul (h : (-(2 ^ 64) < i ∧ i < 2 ^ 64) ∨ (-(2 ^ 64) < j ∧ j < 2 ^ 64)) : binD .mul false (.int i) (.int j) S = some (.ok (.int (i * j)) S) := by
  show okO ((binI .mul i j).map D.int) S = _
  unfold binI
  rw [if_pos h] <;> rfl
theorem binD_strs (h : x.length + y.length ≤ sizeLine) : binD .add false (.str x) (.str y) S = some (.ok (.str (x ++ y)) S) := by
  show (if x.length + y.length ≤ sizeLine then some (Ro.ok (D.str (x ++ y)) S) else none) = _
  rw [if_pos h]
theorem binD_tups (h : xs.length + ys.length ≤ sizeLine) : binD .add false (.tup xs) (.tup ys) S = some (.ok (.tup (xs ++ ys)) S) := by
  show (if xs.length + ys.length ≤ sizeLine then some (Ro.ok (D.tup (xs ++ ys)) S) else none) = _
  rw [if_pos h]
theorem binD_lsts (h : xs.length + ys.length ≤ sizeLine) : binD .add m (.lst xs) (.lst ys) S = mkL m (xs ++ ys) S := by
  show (if xs.length + ys.length ≤ sizeLine then mkL m (xs ++ ys) S else none) = _
  rw [if_pos h]
@[simp] theorem biD_lenT : biD .len [.tup xs] S = some (.int xs.length) := rfl
@[simp] theorem biD_lenL : biD .len [.lst xs] S = some (.int xs.length) := rfl
@[simp] theorem biD_lenC {ns : List Int} : biD .len [.scr ns] S = some (.int ns.length) := by
  show (seqD S (.scr ns)).map (fun xs => D.int xs.length) = _
  simp [seqD]
theorem biD_lenS (h : x.length ≤ sizeLine) : biD .len [.str x] S = some (.int x.length) := by
  show (if x.length ≤ sizeLine then some (D.int x.length) else none) = _
  rw [if_pos h]
@[simp] theorem biD_int : biD .int [.int i] S = some (.int i) := rfl
@[simp] theorem biD_tupT : biD .tuple [.tup xs] S = some (.tup xs) := rfl
@[simp] theorem biD_tupL : biD .tuple [.lst xs] S = some (.tup xs) := rfl
@[simp] theorem biD_max : biD .max [.int i, .int j] S = some (.int (if j > i then j else i)) := rfl
@[simp] theorem biD_min : biD .min [.int i, .int j] S = some (.int (if j < i then j else i)) := rfl
theorem biD_tupR {n : Nat} (h : S[n]? = some (.lst xs)) : biD .tuple [.ref n] S = some (.tup xs) := by
  show (lstD S (.ref n)).map D.tup = _
  rw [lstD, getL_eq h]; rfl
@[simp] theorem ixD_tup : ixD S (.tup xs) (.int i) = atI xs i := rfl
@[simp] theorem ixD_lst : ixD S (.lst xs) (.int i) = atI xs i := rfl
@[simp] theorem ixD_scr {ns : List Int} : ixD S (.scr ns) (.int i) = atI (ns.map .int) i := rfl
theorem dctD_lst (h : S[n]? = some (.lst xs)) : dctD S (.ref n) = none := by
  unfold dctD; simp only [h]
theorem dctD_dref {t : Nat} {ks vs : List D} (h : S[n]? = some (.dct t ks vs)) : dctD S (.ref n) = some (t, ks, vs) := by
  unfold dctD; simp only [h]
theorem ixD_ref {n : Nat} (h : S[n]? = some (.lst xs)) : ixD S (.ref n) (.int i) = atI xs i := by
  show (match dctD S (.ref n) with
    | some q => match dGet q (.int i) with
      | some (some d) => some d
      | _ => none
    | none => match (D.int i), seqD S (.ref n) with
      | .int i, some xs => atI xs i
      | _, _ => none) = _
  rw [dctD_lst h]
  show (match (D.int i), getL S n with
      | .int i, some xs => atI xs i
      | _, _ => none) = _
  rw [getL_eq h]
@[simp] theorem ixD_dct {t : Nat} {ks vs : List D} {y : D} : ixD S (.dct t ks vs) y = (dGet (t, ks, vs) y).bind id := by
  have e : ixD S (.dct t ks vs) y = (match dGet (t, ks, vs) y with
      | some (some d) => some d
      | _ => none) := by
    cases y <;> rfl
  rw [e]
  cases dGet (t, ks, vs) y with
  | none => rfl
  | some o => cases o <;> rfl
theorem ixD_dref {t : Nat} {ks vs : List D} {y : D} (h : S[n]? = some (.dct t ks vs)) : ixD S (.ref n) y = (dGet (t, ks, vs) y).bind id := by
  have e : ixD S (.ref n) y = (match dctD S (.ref n) with
    | some q => match dGet q y with
      | some (some d) => some d
      | _ => none
    | none => match y, seqD S (.ref n) with
      | .int i, some xs => atI xs i
      | _, _ => none) := by
    cases y <;> rfl
  rw [e, dctD_dref h]
  show (match dGet (t, ks, vs) y with
      | some (some d) => some d
      | _ => none) = _
  cases dGet (t, ks, vs) y with
  | none => rfl
  | some o => cases o <;> rfl
@[simp] theorem inD_dct {t : Nat} {ks vs : List D} {y : D} : inD S y (.dct t ks vs) = (dGet (t, ks, vs) y).map Option.isSome := by
  cases y <;> rfl
theorem inD_dref {t : Nat} {ks vs : List D} {y : D} (h : S[n]? = some (.dct t ks vs)) : inD S y (.ref n) = (dGet (t, ks, vs) y).map Option.isSome := by
  have e : inD S y (.ref n) = (match dctD S (.ref n) with
    | some q => (dGet q y).map Option.isSome
    | none => match pd y, pd (res2 S (.ref n)) with
      | some a, some (.list b) => if SeqAt.shaped a = true ∧ SeqAt.shaped (.list b) = true then some (b.any fun z => PyData.eqv z a) else none
      | _, _ => none) := by
    cases y <;> rfl
  rw [e, dctD_dref h]
@[simp] theorem dGet_0s {ks vs : List D} : dGet (0, ks, vs) (.str x) = some (lookK kKey (.inr x) ks vs) := rfl
@[simp] theorem dGet_0i {ks vs : List D} : dGet (0, ks, vs) (.int i) = some (lookK kKey (.inl i) ks vs) := rfl
@[simp] theorem kKey_s : kKey (.str x) = some (.inr x) := rfl
@[simp] theorem kKey_i : kKey (.int i) = some (.inl i) := rfl
@[simp] theorem lookK_c {κ : Type} [DecidableEq κ] {f : D → Option κ} {k : κ} {a v : D} {ks vs : List D} : lookK f k (a :: ks) (v :: vs) = if f a = some k then some v else lookK f k ks vs := rfl
@[simp] theorem lookK_n {κ : Type} [DecidableEq κ] {f : D → Option κ} {k : κ} : lookK f k [] [] = none := rfl
theorem ixD_str (h : x.length ≤ sizeLine) : ixD S (.str x) (.int i) = (atI x.cps.toList i).map fun c => .str ⟨#[c]⟩ := by
  show (if x.length ≤ sizeLine then (atI x.cps.toList i).map fun c => D.str ⟨#[c]⟩ else none) = _
  rw [if_pos h]
@[simp] theorem slD_tup {l h : Option Int} : slD false (.tup xs) l h S = some (.ok (.tup (cutD xs l h)) S) := rfl
theorem slD_str {l h : Option Int} (hz : x.length ≤ sizeLine) : slD false (.str x) l h S = some (.ok (.str (cutS x l h)) S) := by
  show (if x.length ≤ sizeLine then some (Ro.ok (D.str (cutS x l h)) S) else none) = _
  rw [if_pos hz]
@[simp] theorem itD_tup : itD (.tup xs) = some xs := rfl
@[simp] theorem itD_lst : itD (.lst xs) = some xs := rfl
@[simp] theorem itD_str : itD (.str x) = some (x.cps.toList.map fun c => .str ⟨#[c]⟩) := rfl
@[simp] theorem atI_z {α : Type} {z : α} {r : List α} : atI (z :: r) 0 = some z := by simp [atI, ixN]
@[simp] theorem atI_1 {α : Type} {z z1 : α} {r : List α} : atI (z :: z1 :: r) 1 = some z1 := by
  unfold atI ixN
  rw [if_pos (by decide), if_pos (by simp only [List.length_cons]; omega)]; rfl
@[simp] theorem atI_2 {α : Type} {z z1 z2 : α} {r : List α} : atI (z :: z1 :: z2 :: r) 2 = some z2 := by
  unfold atI ixN
  rw [if_pos (by decide), if_pos (by simp only [List.length_cons]; omega)]; rfl
@[simp] theorem atI_3 {α : Type} {z z1 z2 z3 : α} {r : List α} : atI (z :: z1 :: z2 :: z3 :: r) 3 = some z3 := by
  unfold atI ixN
  rw [if_pos (by decide), if_pos (by simp only [List.length_cons]; omega)]; rfl
@[simp] theorem atI_nil {α : Type} {i : Int} : atI ([] : List α) i = none := by
  unfold atI ixN
  by_cases h : 0 ≤ i
  · rw [if_pos h, if_neg (by simp only [List.length_nil]; omega)]; rfl
  · rw [if_neg h, if_neg (by simp only [List.length_nil]; omega)]; rfl
theorem atI_in {α : Type} {l : List α} {i : Int} (h0 : 0 ≤ i) (h : i < l.length) : ∃ z, l[i.toNat]? = some z ∧ atI l i = some z := by
  have hl : i.toNat < l.length := by omega
  exact ⟨l[i.toNat], List.getElem?_eq_getElem hl, by unfold atI ixN; rw [if_pos h0, if_pos h]; exact List.getElem?_eq_getElem hl⟩
/-- the numbers from i on -/
def rg : Int → Nat → List D
  | _, 0 => []
  | i, n + 1 => .int i :: rg (i + 1) n
theorem rg_eq : ∀ (n : Nat) (i : Int), ((List.range n).map fun (k : Nat) => D.int (i + k)) = rg i n
  | 0, i => rfl
  | n + 1, i => by
    rw [List.range_succ_eq_map, List.map_cons, List.map_map, rg, ← rg_eq n (i + 1)]
    simp only [Int.natCast_zero, Int.add_zero, List.cons.injEq, true_and]
    refine List.map_congr_left fun k _ => ?_
    show D.int (i + ((k + 1 : Nat) : Int)) = D.int (i + 1 + k)
    congr 1; omega
theorem rngD_rg (h : -(2 ^ 62) ≤ i ∧ i < 2 ^ 62 ∧ -(2 ^ 62) ≤ j ∧ j < 2 ^ 62) : rngD i j = some (rg i (j - i).toNat) := by
  unfold rngD; rw [if_pos h, rg_eq]
theorem rngD_len {n : Nat} (h : n ≤ 16777216) : rngD 0 (n : Int) = some (rg 0 n) := by
  rw [rngD_rg ⟨by decide, by decide, by omega, by omega⟩, Int.sub_zero, Int.toNat_natCast]
/-- the item at a place, or nothing of note -/
def pk (l : List D) (i : Int) : D := (atI l i).getD .non
theorem atI_pk {l : List D} (h0 : 0 ≤ i) (h : i < l.length) : atI l i = some (pk l i) := by
  obtain ⟨z, _, e⟩ := atI_in h0 h
  rw [pk, e]; rfl
theorem pk_mem {l : List D} (h0 : 0 ≤ i) (h : i < l.length) : pk l i ∈ l := by
  obtain ⟨z, e1, e⟩ := atI_in h0 h
  rw [pk, e]; exact List.mem_of_getElem? e1
theorem getL_app {zs : List D} (h : getL S n = some zs) (T : Sto) : getL (S ++ T) n = some zs := by
  unfold getL at h ⊢
  cases e : S[n]? with
  | none => rw [e] at h; cases h
  | some o =>
    rw [e] at h
    rw [List.getElem?_append_left (List.getElem?_eq_some_iff.mp e).1, e]; exact h
theorem atI_last {α : Type} {z : α} {r : List α} : atI (z :: r) (-1) = some ((z :: r).getLast (by simp)) := by
  unfold atI ixN
  rw [if_neg (by decide), if_pos (by simp only [List.length_cons]; omega)]
  simp only [Option.bind_some]
  rw [List.getLast_eq_getElem]
  have : (-1 + ((z :: r).length : Int)).toNat = (z :: r).length - 1 := by omega
  rw [this]
  exact List.getElem?_eq_getElem (by simp only [List.length_cons]; omega)
theorem atI_nn {α : Type} {l : List α} {i : Nat} : atI l (i : Int) = l[i]? := by
  unfold atI ixN
  rw [if_pos (by omega)]
  by_cases h : (i : Int) < l.length
  · rw [if_pos h]; rfl
  · rw [if_neg h]
    have : l.length ≤ i := by omega
    rw [List.getElem?_eq_none this]; rfl
@[simp] theorem meD_sw : meD .startswith (.str x) [.str y] S = some (.ok (.bl (Txt.startswith x y)) S) := rfl
@[simp] theorem tyM_sw : tyM .startswith (.str x) S = true := rfl
theorem meD_app {n : Nat} (h : S[n]? = some (.lst xs)) (hz : xs.length < sizeLine) : meD .append (.ref n) [d] S = some (.ok .non (S.set n (.lst (xs ++ [d])))) := by
  show (match getL S n with
    | some zs => if zs.length < sizeLine then some (Ro.ok D.non (S.set n (.lst (zs ++ [d])))) else none
    | _ => none) = _
  rw [getL_eq h]
  simp only [hz, if_true]
theorem tyM_app {n : Nat} (h : S[n]? = some (.lst xs)) : tyM .append (.ref n) S = true := by
  show (getL S n).isSome = true
  rw [getL_eq h]; rfl
theorem frz_pure (j : Nat) (d : D) (S : Sto) (h : d.pure = true) : frz (j + 1) d S = some (d, S) := by
  cases d with
  | ref n => cases h
  | lst xs => rw [D.pure] at h; rw [frz, if_pos h]
  | tup xs => rw [D.pure] at h; rw [frz, if_pos h]
  | non => simp [frz, D.pure]
  | bl b => simp [frz, D.pure]
  | int b => simp [frz, D.pure]
  | str b => simp [frz, D.pure]
  | scr b => simp [frz, D.pure]
  | dct t ks vs => simp only [frz]; rw [if_pos h]
  | obj c ns vs => simp only [frz]; rw [if_pos h]
  | fn i => simp [frz, D.pure]
theorem mapF_pure (j : Nat) (S : Sto) : ∀ xs : List D, pures xs = true → mapF (frz (j + 1)) xs S = some (xs, S)
  | [], _ => rfl
  | x :: xs, h => by
    rw [pures, Bool.and_eq_true] at h
    rw [mapF, frz_pure j x S h.1]
    simp only
    rw [mapF_pure j S xs h.2]
theorem callP_z {Γ : Gam} {f : Nat} {ds : List D} {r d : D} {S1 S2 : Sto} (hp : pures ds = true) (h : Γ f ds [] = some (.ok r S1)) (hz : frz 9 r S1 = some (d, S2)) (hr : d.pure = true) : callP Γ true f ds S = some (.ok d S) := by
  unfold callP frzR
  simp only [hp, h, bnd_ok, hz, hr, if_true]
theorem callP_t {Γ : Gam} {f : Nat} {ds : List D} {r : D} {S1 : Sto} (hp : pures ds = true) (h : Γ f ds [] = some (.ok r S1)) (hr : r.pure = true) : callP Γ true f ds S = some (.ok r S) :=
  callP_z hp h (frz_pure 8 r S1 hr) hr
@[simp] theorem callP_f {Γ : Gam} {f : Nat} {ds : List D} : callP Γ false f ds S = Γ f ds S := rfl
theorem callP_tx {Γ : Gam} {f : Nat} {ds : List D} {c : Nat} {S1 : Sto} (hp : pures ds = true) (h : Γ f ds [] = some (.ex c S1)) : callP Γ true f ds S = some (.ex c S) := by
  unfold callP frzR
  simp only [hp, h, bnd_ex, if_true]
theorem cutD_mem {l h : Option Int} {y : D} (hy : y ∈ cutD xs l h) : y ∈ xs := List.mem_of_mem_drop (List.mem_of_mem_take hy)
theorem cutD_le {l h : Option Int} : (cutD xs l h).length ≤ xs.length := by
  unfold cutD
  rw [List.length_take, List.length_drop]; omega
theorem sIx_nn {n d : Nat} (h : 0 ≤ i) : HT.sIx n d (some i) = min i.toNat n := by
  show (if i < 0 then (i + (n : Int)).toNat else min i.toNat n) = _
  rw [if_neg (by omega)]
theorem cut_hi {α : Type} {l : List α} (h : 0 ≤ i) : (l.drop (HT.sIx l.length 0 none)).take (HT.sIx l.length l.length (some i) - HT.sIx l.length 0 none) = l.take i.toNat := by
  rw [sIx_nn h]
  show (l.drop 0).take (min i.toNat l.length - 0) = _
  rw [List.drop_zero, Nat.sub_zero, ← List.take_eq_take_min]
theorem cut_lo {α : Type} {l : List α} (h : 0 ≤ i) : (l.drop (HT.sIx l.length 0 (some i))).take (HT.sIx l.length l.length none - HT.sIx l.length 0 (some i)) = l.drop i.toNat := by
  rw [sIx_nn h]
  show (l.drop (min i.toNat l.length)).take (l.length - min i.toNat l.length) = _
  rw [List.take_of_length_le (by rw [List.length_drop]; omega)]
  by_cases c : i.toNat ≤ l.length
  · rw [Nat.min_eq_left c]
  · rw [Nat.min_eq_right (by omega), List.drop_of_length_le (Nat.le_refl _), List.drop_of_length_le (by omega)]
theorem cut_mid {α : Type} {l : List α} (h : 0 ≤ i) (h2 : 0 ≤ j) : ((l.drop (HT.sIx l.length 0 (some i))).take (HT.sIx l.length l.length (some j) - HT.sIx l.length 0 (some i))).length = min j.toNat l.length - min i.toNat l.length := by
  rw [sIx_nn h, sIx_nn h2, List.length_take, List.length_drop]; omega
theorem cutD_hi (h : 0 ≤ i) : cutD xs none (some i) = xs.take i.toNat := cut_hi h
theorem cutD_lo (h : 0 ≤ i) : cutD xs (some i) none = xs.drop i.toNat := cut_lo h
theorem cutD_mid (h : 0 ≤ i) (h2 : 0 ≤ j) : (cutD xs (some i) (some j)).length = min j.toNat xs.length - min i.toNat xs.length := cut_mid h h2
theorem cutS_hi (h : 0 ≤ i) : cutS x none (some i) = ⟨(x.cps.toList.take i.toNat).toArray⟩ := by
  unfold cutS
  rw [show x.length = x.cps.toList.length from Array.length_toList.symm, cut_hi h]
theorem cutS_lo (h : 0 ≤ i) : cutS x (some i) none = ⟨(x.cps.toList.drop i.toNat).toArray⟩ := by
  unfold cutS
  rw [show x.length = x.cps.toList.length from Array.length_toList.symm, cut_lo h]
theorem cutS_le {l h : Option Int} : (cutS x l h).length ≤ x.length := by
  show (((x.cps.toList.drop _).take _).toArray).size ≤ _
  rw [List.size_toArray, List.length_take, List.length_drop, show x.cps.toList.length = x.length from Array.length_toList]; omega
theorem lcLoop_map {turn : D → Sto → Option (Ro (Option D))} {f : D → Option D} : ∀ (xs : List D) (acc : List D), (∀ x ∈ xs, turn x S = some (.ok (f x) S)) → lcLoop turn xs S acc = some (.ok (acc ++ xs.filterMap f) S)
  | [], acc, _ => by simp [lcLoop]
  | x :: xs, acc, h => by
    rw [lcLoop, h x (by simp)]
    cases e : f x with
    | none => simp only [List.filterMap_cons, e]; exact lcLoop_map xs acc fun y hy => h y (by simp [hy])
    | some y =>
      simp only [List.filterMap_cons, e]
      rw [lcLoop_map xs (acc ++ [y]) fun y hy => h y (by simp [hy])]
      simp
end
end Ip
/-! ## loops and comprehensions, once more -/
namespace Ip
open PySem PySem.Spec PyProof.Rows L2
section
variable {Γ : Gam} {T : Tab} {S : Sto} {env : En}
theorem forL_all {body : En → Sto → Option So} {i : Nat} (p : D → Bool) : ∀ {xs : List D} {env : En}, (∀ x ∈ xs, body (env.set i (some x)) S = if p x then some (.nx (env.set i (some x)) S) else some (.rt (.bl false) S)) →
    ∃ e, forL (.n i) body xs env S = if xs.all p then some (.nx e S) else some (.rt (.bl false) S)
  | [], env, _ => ⟨env, rfl⟩
  | x :: xs, env, h => by
    obtain ⟨e, ih⟩ := forL_all (body := body) (i := i) p (xs := xs) (env := env.set i (some x)) (fun y hy => by
      rw [List.set_set]; exact h y (List.mem_cons_of_mem _ hy))
    refine ⟨e, ?_⟩
    simp only [forL, asgT]
    rw [h x (List.mem_cons_self ..), List.all_cons]
    cases hx : p x with
    | true => simp only [if_true, Bool.true_and]; exact ih
    | false => simp
theorem lc_no {m : Bool} {own : List (Str × Nat)} {i : Nat} {it : Itr} {x : Ex} {xs : List D} (f : D → D) (hi : evalI Γ T it env S = some (.ok xs S)) (hl : xs.length ≤ sizeLine)
    (hx : ∀ y ∈ xs, evalE Γ T x ((wipeE env (own.map (·.2))).set i (some y)) S = some (.ok (f y) S)) : evalE Γ T (.lc m own (.n i) it .no x) env S = mkL m (xs.map f) S := by
  rw [evalE, hi]
  simp only [bnd_ok]
  rw [if_pos hl, lcLoop_map (S := S) (f := fun y => some (f y)) xs []]
  · simp
  · intro y hy
    simp only [asgT, evalC, bnd_ok]
    rw [hx y hy]; rfl
theorem lc_so {m : Bool} {own : List (Str × Nat)} {i : Nat} {it : Itr} {c x : Ex} {xs : List D} (p : D → Bool) (f : D → D) (hi : evalI Γ T it env S = some (.ok xs S)) (hl : xs.length ≤ sizeLine)
    (hc : ∀ y ∈ xs, evalT Γ T c ((wipeE env (own.map (·.2))).set i (some y)) S = some (.ok (p y) S))
    (hx : ∀ y ∈ xs, p y = true → evalE Γ T x ((wipeE env (own.map (·.2))).set i (some y)) S = some (.ok (f y) S)) : evalE Γ T (.lc m own (.n i) it (.so c) x) env S = mkL m ((xs.filter p).map f) S := by
  rw [evalE, hi]
  simp only [bnd_ok]
  rw [if_pos hl, lcLoop_map (S := S) (f := fun y => if p y then some (f y) else none) xs []]
  · have q : ∀ l : List D, l.filterMap (fun y => if p y then some (f y) else none) = (l.filter p).map f := by
      intro l
      induction l with
      | nil => rfl
      | cons a l ih => cases h : p a <;> simp [h, ih]
    rw [q]
    simp
  · intro y hy
    simp only [asgT, evalC]
    rw [hc y hy]
    simp only [bnd_ok]
    cases hp : p y with
    | true => simp only [if_true]; rw [hx y hy hp]; rfl
    | false => simp
theorem asBls_map : ∀ bs : List Bool, asBls (bs.map .bl) = some bs
  | [] => rfl
  | b :: bs => by rw [List.map_cons, asBls, asBls_map bs]; rfl
@[simp] theorem biD_all {bs : List Bool} : biD .all [.lst (bs.map .bl)] S = some (.bl (bs.all id)) := by
  show ((some (bs.map D.bl)).bind asBls).map (fun bs => D.bl (bs.all id)) = _
  rw [Option.bind_some, asBls_map]; rfl
@[simp] theorem biD_allc {f : D → Bool} {xs : List D} : biD .all [.lst (xs.map (D.bl ∘ f))] S = some (.bl (xs.all f)) := by
  have e := biD_all (S := S) (bs := xs.map f)
  rw [List.map_map] at e
  rw [e]
  simp [List.all_map]
theorem asInts_map : ∀ bs : List Int, asInts (bs.map .int) = some bs
  | [] => rfl
  | b :: bs => by rw [List.map_cons, asInts, asInts_map bs]; rfl
@[simp] theorem biD_sum {bs : List Int} : biD .sum [.lst (bs.map .int)] S = some (.int bs.sum) := by
  show ((some (bs.map D.int)).bind asInts).map (fun bs => D.int bs.sum) = _
  rw [Option.bind_some, asInts_map]; rfl
end
end Ip
namespace Lk
open PySem PySem.Spec PyProof.Rows L2 Ip

def top (i : Nat) : Stmt := PySem.Challenge.pw_cutpapers_k51_whole_any_order.main.body.getD i (.Pass ⟨0, 0, 0, 0⟩)
def sub (i j : Nat) : Stmt := match top i with
  | .ClassDef _ _ _ b _ _ _ _ _ _ _ => b.getD j (.Pass ⟨0, 0, 0, 0⟩)
  | _ => .Pass ⟨0, 0, 0, 0⟩
abbrev i_is_integer : Nat := 0
abbrev i_is_variable : Nat := 1
abbrev i_is_changes : Nat := 2
abbrev i_is_event : Nat := 3
abbrev i_Watcher___init__ : Nat := 4
abbrev i_Watcher_feed : Nat := 5
abbrev i_Watcher_known : Nat := 6
abbrev i_Watcher_waiting : Nat := 7
abbrev i_Watcher__beginning : Nat := 8
abbrev i_Watcher__has : Nat := 9
abbrev i_Watcher__is_possible : Nat := 10
abbrev i__law_bag : Nat := 11
abbrev i__law_draw : Nat := 12
abbrev i__law_value : Nat := 13
abbrev i__law_changes : Nat := 14
abbrev i__law_run : Nat := 15
abbrev i__law_turned : Nat := 16
abbrev i__law_grown : Nat := 17
abbrev i__law_fed : Nat := 18
abbrev i_law : Nat := 19
abbrev g_MOST_PROCESSES : Nat := 0
abbrev g_MOST_EVENTS : Nat := 1
abbrev g_MOST_VALUE : Nat := 2
abbrev g_MOST_LETTER : Nat := 3
abbrev g_VARIABLES : Nat := 4
def b_is_integer : Stms := (.cons (.ifs (.or (.not (.isi (.v 0) .int)) (.isi (.v 0) .bool)) (.cons (.ret (.c (.bl false))) .nil) .nil) (.cons (.ret (.and (.cmp .le (.v 1) (.v 0)) (.cmp .le (.v 0) (.v 2)))) .nil))
abbrev s_is_integer : Stmt := top 9
def f_is_integer : Fn := { name := "is_integer", ps := ["value", "least", "greatest"], N := ["value", "least", "greatest"], body := b_is_integer }
def d_is_integer : He.DefD := ⟨("is_integer", none), "is_integer", "is_integer", defArgs s_is_integer, defBody s_is_integer, defScope s_is_integer, [], []⟩
def b_is_variable : Stms := (.cons (.ret (.and (.isi (.v 0) .str) (.and (.cmp .eq (.bi .len (.cons (.v 0) .nil)) (.c (.int 1))) (.cmp .isin (.v 0) (.g g_VARIABLES))))) .nil)
abbrev s_is_variable : Stmt := top 12
def f_is_variable : Fn := { name := "is_variable", ps := ["value"], N := ["value"], body := b_is_variable }
def d_is_variable : He.DefD := ⟨("is_variable", none), "is_variable", "is_variable", defArgs s_is_variable, defBody s_is_variable, defScope s_is_variable, [], []⟩
def l_is_changes_1 : Stms := (.cons (.ifs (.or (.not (.isi (.v 2) .tuple)) (.or (.cmp .ne (.bi .len (.cons (.v 2) .nil)) (.c (.int 2))) (.not (.call i_is_variable true (.cons (.ix (.v 2) (.c (.int 0))) .nil))))) (.cons (.ret (.c (.bl false))) .nil) .nil) (.cons (.ifs (.or (.cmp .le (.ix (.v 2) (.c (.int 0))) (.v 1)) (.not (.call i_is_integer true (.cons (.ix (.v 2) (.c (.int 1))) (.cons (.neg (.g g_MOST_VALUE)) (.cons (.g g_MOST_VALUE) .nil)))))) (.cons (.ret (.c (.bl false))) .nil) .nil) (.cons (.asg (.n 1) (.ix (.v 2) (.c (.int 0)))) .nil)))
def b_is_changes : Stms := (.cons (.ifs (.not (.isi (.v 0) .tuple)) (.cons (.ret (.c (.bl false))) .nil) .nil) (.cons (.asg (.n 1) (.c (.str ""))) (.cons (.for (.n 2) (.of (.v 0)) l_is_changes_1) (.cons (.ret (.c (.bl true))) .nil))))
abbrev s_is_changes : Stmt := top 13
def f_is_changes : Fn := { name := "is_changes", ps := ["value"], N := ["value", "last", "change"], body := b_is_changes }
def d_is_changes : He.DefD := ⟨("is_changes", none), "is_changes", "is_changes", defArgs s_is_changes, defBody s_is_changes, defScope s_is_changes, [], []⟩
def b_is_event : Stms := (.cons (.ifs (.or (.not (.isi (.v 0) .tuple)) (.or (.cmp .eq (.v 0) (.tup .nil)) (.not (.isi (.ix (.v 0) (.c (.int 0))) .str)))) (.cons (.ret (.c (.bl false))) .nil) .nil) (.cons (.ifs (.cmp .eq (.ix (.v 0) (.c (.int 0))) (.c (.str "step"))) (.cons (.ret (.and (.cmp .eq (.bi .len (.cons (.v 0) .nil)) (.c (.int 2))) (.call i_is_changes true (.cons (.ix (.v 0) (.c (.int 1))) .nil)))) .nil) .nil) (.cons (.ifs (.or (.cmp .notin (.ix (.v 0) (.c (.int 0))) (.tup (.cons (.c (.str "send")) (.cons (.c (.str "take")) .nil)))) (.cmp .ne (.bi .len (.cons (.v 0) .nil)) (.c (.int 3)))) (.cons (.ret (.c (.bl false))) .nil) .nil) (.cons (.ret (.and (.call i_is_integer true (.cons (.ix (.v 0) (.c (.int 1))) (.cons (.c (.int 1)) (.cons (.g g_MOST_LETTER) .nil)))) (.call i_is_changes true (.cons (.ix (.v 0) (.c (.int 2))) .nil)))) .nil))))
abbrev s_is_event : Stmt := top 14
def f_is_event : Fn := { name := "is_event", ps := ["value"], N := ["value"], body := b_is_event }
def d_is_event : He.DefD := ⟨("is_event", none), "is_event", "is_event", defArgs s_is_event, defBody s_is_event, defScope s_is_event, [], []⟩
def e_Watcher___init___1 : Ex := (.dct true 0 [] [])
def k_Watcher___init___1 : Ex := (.lc false [("_", 2)] (.n 2) (.rng1 (.v 1)) .no e_Watcher___init___1)
def b_Watcher___init__ : Stms := (.cons (.ifs (.not (.call i_is_integer true (.cons (.v 1) (.cons (.c (.int 1)) (.cons (.g g_MOST_PROCESSES) .nil))))) (.cons (.raise 1) .nil) .nil) (.cons (.asgA 0 (.v 0) "_count" (.v 1)) (.cons (.asgA 0 (.v 0) "_rows" k_Watcher___init___1) .nil)))
abbrev s_Watcher___init__ : Stmt := sub 16 0
def f_Watcher___init__ : Fn := { name := "", ps := ["self", "count"], N := ["self", "count", "_"], body := b_Watcher___init__ }
def d_Watcher___init__ : He.DefD := ⟨("Watcher", some "__init__"), "__init__", "Watcher.__init__", defArgs s_Watcher___init__, defBody s_Watcher___init__, defScope s_Watcher___init__, [], []⟩
def b_Watcher_feed : Stms := (.cons (.ifs (.or (.not (.call i_is_integer true (.cons (.v 1) (.cons (.c (.int 0)) (.cons (.bin .sub false (.att 0 (.v 0) "_count") (.c (.int 1))) .nil))))) (.not (.call i_is_integer true (.cons (.v 2) (.cons (.c (.int 1)) (.cons (.g g_MOST_EVENTS) .nil)))))) (.cons (.raise 1) .nil) .nil) (.cons (.ifs (.not (.call i_is_event true (.cons (.v 3) .nil))) (.cons (.raise 1) .nil) .nil) (.cons (.asg (.n 4) (.ix (.att 0 (.v 0) "_rows") (.v 1))) (.cons (.ifs (.cmp .isin (.v 2) (.v 4)) (.cons (.ifs (.cmp .ne (.ix (.v 4) (.v 2)) (.v 3)) (.cons (.raise 1) .nil) .nil) (.cons .retN .nil)) .nil) (.cons (.ifs (.and (.cmp .ne (.ix (.v 3) (.c (.int 0))) (.c (.str "step"))) (.mcl 0 i_Watcher__has "_has" false (.v 0) (.cons (.ix (.v 3) (.c (.int 0))) (.cons (.ix (.v 3) (.c (.int 1))) .nil)))) (.cons (.raise 1) .nil) .nil) (.cons (.asgS (.v 4) (.v 2) (.v 3)) (.cons (.ifs (.not (.mcl 0 i_Watcher__is_possible "_is_possible" false (.v 0) .nil)) (.cons (.ex (.me .dpop (.v 4) (.cons (.v 2) .nil))) (.cons (.raise 1) .nil)) .nil) .nil)))))))
abbrev s_Watcher_feed : Stmt := sub 16 1
def f_Watcher_feed : Fn := { name := "", ps := ["self", "process", "index", "event"], N := ["self", "process", "index", "event", "row"], body := b_Watcher_feed }
def d_Watcher_feed : He.DefD := ⟨("Watcher", some "feed"), "feed", "Watcher.feed", defArgs s_Watcher_feed, defBody s_Watcher_feed, defScope s_Watcher_feed, [], []⟩
def e_Watcher_known_1 : Ex := (.mcl 0 i_Watcher__beginning "_beginning" false (.v 0) (.cons (.v 4) (.cons (.v 7) .nil)))
def k_Watcher_known_1 : Ex := (.lc false [("process", 4), ("number", 7)] (.t (.cons (.n 4) (.cons (.n 7) .nil))) (.enum (.v 1)) .no e_Watcher_known_1)
def w_Watcher_known_1 : Ex := (.v 3)
def l_Watcher_known_1 : Stms := (.cons (.asg (.n 6) (.me .get (.v 5) (.cons (.bin .add false (.ix (.v 1) (.v 4)) (.c (.int 1))) .nil))) (.cons (.ifs (.or (.cmp .is_ (.v 6) (.c .non)) (.and (.cmp .eq (.ix (.v 6) (.c (.int 0))) (.c (.str "take"))) (.cmp .notin (.ix (.v 6) (.c (.int 1))) (.v 2)))) (.cons .cont .nil) .nil) (.cons (.ifs (.cmp .eq (.ix (.v 6) (.c (.int 0))) (.c (.str "send"))) (.cons (.asgS (.v 2) (.ix (.v 6) (.c (.int 1))) (.c (.bl true))) .nil) .nil) (.cons (.augS (.v 1) (.v 4) .add (.c (.int 1))) (.cons (.asg (.n 3) (.c (.bl true))) .nil)))))
def l_Watcher_known_2 : Stms := (.cons (.asg (.n 3) (.c (.bl false))) (.cons (.for (.t (.cons (.n 4) (.cons (.n 5) .nil))) (.enum (.att 0 (.v 0) "_rows")) l_Watcher_known_1) .nil))
def b_Watcher_known : Stms := (.cons (.asg (.n 1) (.bin .mul true (.lst false (.cons (.c (.int 0)) .nil)) (.att 0 (.v 0) "_count"))) (.cons (.asg (.n 2) (.dct true 0 [] [])) (.cons (.asg (.n 3) (.c (.bl true))) (.cons (.whl w_Watcher_known_1 l_Watcher_known_2) (.fz 1 (.cons (.ret (.bi .tuple (.cons k_Watcher_known_1 .nil))) .nil))))))
abbrev s_Watcher_known : Stmt := sub 16 2
def f_Watcher_known : Fn := { name := "", ps := ["self"], N := ["self", "numbers", "sent", "moved", "process", "row", "event", "number"], body := b_Watcher_known }
def d_Watcher_known : He.DefD := ⟨("Watcher", some "known"), "known", "Watcher.known", defArgs s_Watcher_known, defBody s_Watcher_known, defScope s_Watcher_known, [], []⟩
def q_Watcher_waiting_1 : Oe := (.so (.cmp .gt (.v 4) (.bi .len (.cons (.v 3) .nil))))
def e_Watcher_waiting_1 : Ex := (.tup (.cons (.v 2) (.cons (.v 4) .nil)))
def k_Watcher_waiting_1 : Ex := (.lc false [("index", 4)] (.n 4) (.of (.bf .sorted false (.cons (.ix (.att 0 (.v 0) "_rows") (.v 2)) .nil))) q_Watcher_waiting_1 e_Watcher_waiting_1)
def l_Watcher_waiting_1 : Stms := (.cons (.ex (.me .extend (.v 1) (.cons k_Watcher_waiting_1 .nil))) .nil)
def b_Watcher_waiting : Stms := (.cons (.asg (.n 1) (.lst true .nil)) (.cons (.for (.t (.cons (.n 2) (.cons (.n 3) .nil))) (.enum (.mcl 0 i_Watcher_known "known" false (.v 0) .nil)) l_Watcher_waiting_1) (.cons (.ret (.v 1)) .nil)))
abbrev s_Watcher_waiting : Stmt := sub 16 3
def f_Watcher_waiting : Fn := { name := "", ps := ["self"], N := ["self", "found", "process", "known", "index"], body := b_Watcher_waiting }
def d_Watcher_waiting : He.DefD := ⟨("Watcher", some "waiting"), "waiting", "Watcher.waiting", defArgs s_Watcher_waiting, defBody s_Watcher_waiting, defScope s_Watcher_waiting, [], []⟩
def e_Watcher__beginning_1 : Ex := (.ix (.ix (.att 0 (.v 0) "_rows") (.v 1)) (.v 3))
def k_Watcher__beginning_1 : Ex := (.lc false [("index", 3)] (.n 3) (.rng2 (.c (.int 1)) (.bin .add false (.v 2) (.c (.int 1)))) .no e_Watcher__beginning_1)
def b_Watcher__beginning : Stms := (.cons (.ret (.bi .tuple (.cons k_Watcher__beginning_1 .nil))) .nil)
abbrev s_Watcher__beginning : Stmt := sub 16 5
def f_Watcher__beginning : Fn := { name := "", ps := ["self", "process", "number"], N := ["self", "process", "number", "index"], body := b_Watcher__beginning }
def d_Watcher__beginning : He.DefD := ⟨("Watcher", some "_beginning"), "_beginning", "Watcher._beginning", defArgs s_Watcher__beginning, defBody s_Watcher__beginning, defScope s_Watcher__beginning, [], []⟩
def l_Watcher__has_1 : Stms := (.cons (.ifs (.and (.cmp .eq (.ix (.v 4) (.c (.int 0))) (.v 1)) (.cmp .eq (.ix (.v 4) (.c (.int 1))) (.v 2))) (.cons (.ret (.c (.bl true))) .nil) .nil) .nil)
def l_Watcher__has_2 : Stms := (.cons (.forD .vals (.n 4) (.v 3) l_Watcher__has_1) .nil)
def b_Watcher__has : Stms := (.cons (.for (.n 3) (.of (.att 0 (.v 0) "_rows")) l_Watcher__has_2) (.cons (.ret (.c (.bl false))) .nil))
abbrev s_Watcher__has : Stmt := sub 16 6
def f_Watcher__has : Fn := { name := "", ps := ["self", "kind", "letter"], N := ["self", "kind", "letter", "row", "event"], body := b_Watcher__has }
def d_Watcher__has : He.DefD := ⟨("Watcher", some "_has"), "_has", "Watcher._has", defArgs s_Watcher__has, defBody s_Watcher__has, defScope s_Watcher__has, [], []⟩
def e_Watcher__is_possible_1 : Ex := (.lst false .nil)
def k_Watcher__is_possible_1 : Ex := (.lc false [("_", 8)] (.n 8) (.rng1 (.att 0 (.v 0) "_count")) .no e_Watcher__is_possible_1)
def w_Watcher__is_possible_1 : Ex := (.v 5)
def l_Watcher__is_possible_1 : Stms := (.cons (.ifs (.cmp .eq (.v 7) (.lst false .nil)) (.cons .cont .nil) .nil) (.cons (.asg (.n 4) (.ix (.ix (.att 0 (.v 0) "_rows") (.v 6)) (.ix (.v 7) (.c (.int 0))))) (.cons (.ifs (.and (.cmp .eq (.ix (.v 4) (.c (.int 0))) (.c (.str "take"))) (.cmp .isin (.ix (.v 4) (.c (.int 1))) (.v 3))) (.cons .cont .nil) .nil) (.cons (.ifs (.cmp .eq (.ix (.v 4) (.c (.int 0))) (.c (.str "send"))) (.cons (.ex (.me .dpop (.v 3) (.cons (.ix (.v 4) (.c (.int 1))) .nil))) .nil) .nil) (.cons (.ex (.me .pop (.v 7) (.cons (.c (.int 0)) .nil))) (.cons (.asg (.n 5) (.c (.bl true))) .nil))))))
def l_Watcher__is_possible_2 : Stms := (.cons (.asg (.n 5) (.c (.bl false))) (.cons (.for (.t (.cons (.n 6) (.cons (.n 7) .nil))) (.enum (.v 1)) l_Watcher__is_possible_1) .nil))
def l_Watcher__is_possible_3 : Stms := (.cons (.ifs (.cmp .eq (.ix (.v 4) (.c (.int 0))) (.c (.str "send"))) (.cons (.asgS (.v 3) (.ix (.v 4) (.c (.int 1))) (.c (.bl true))) .nil) .nil) .nil)
def l_Watcher__is_possible_4 : Stms := (.cons (.forD .vals (.n 4) (.v 2) l_Watcher__is_possible_3) .nil)
def e_Watcher__is_possible_2 : Ex := (.bf .sorted true (.cons (.v 2) .nil))
def k_Watcher__is_possible_2 : Stm := (.asgC 1 false [("row", 2)] (.n 2) (.of (.att 0 (.v 0) "_rows")) .no e_Watcher__is_possible_2)
def b_Watcher__is_possible : Stms := (.cons k_Watcher__is_possible_2 (.cons (.asg (.n 3) (.dct true 0 [] [])) (.cons (.for (.n 2) (.of (.att 0 (.v 0) "_rows")) l_Watcher__is_possible_4) (.cons (.asg (.n 5) (.c (.bl true))) (.cons (.whl w_Watcher__is_possible_1 l_Watcher__is_possible_2) (.cons (.ret (.cmp .eq (.v 1) k_Watcher__is_possible_1)) .nil))))))
abbrev s_Watcher__is_possible : Stmt := sub 16 7
def f_Watcher__is_possible : Fn := { name := "", ps := ["self"], N := ["self", "left", "row", "unsent", "event", "moved", "process", "indexes", "_"], body := b_Watcher__is_possible }
def d_Watcher__is_possible : He.DefD := ⟨("Watcher", some "_is_possible"), "_is_possible", "Watcher._is_possible", defArgs s_Watcher__is_possible, defBody s_Watcher__is_possible, defScope s_Watcher__is_possible, [], []⟩
def b__law_bag : Stms := (.cons (.asg (.n 2) (.c (.int 0))) (.cons (.ifs (.cmp .lt (.v 1) (.bi .len (.cons (.v 0) .nil))) (.cons (.asg (.n 2) (.bi .int (.cons (.ix (.v 0) (.v 1)) .nil))) .nil) .nil) (.cons (.ifs (.cmp .ge (.v 2) (.bin .pow false (.c (.int 10)) (.c (.int 18)))) (.cons (.ret (.lst true (.cons (.v 2) (.cons (.v 2) (.cons (.v 1) .nil))))) .nil) .nil) (.cons (.ret (.lst true (.cons (.c (.int 0)) (.cons (.v 2) (.cons (.v 1) .nil))))) .nil))))
abbrev s__law_bag : Stmt := top 18
def f__law_bag : Fn := { name := "_law_bag", ps := ["script", "k"], N := ["script", "k", "cell"], body := b__law_bag }
def d__law_bag : He.DefD := ⟨("_law_bag", none), "_law_bag", "_law_bag", defArgs s__law_bag, defBody s__law_bag, defScope s__law_bag, [], []⟩
def b__law_draw : Stms := (.cons (.ifs (.cmp .eq (.ix (.v 0) (.c (.int 0))) (.c (.int 0))) (.cons (.asg (.n 2) (.bin .mod false (.bi .int (.cons (.bin .add false (.bin .add false (.bin .mul false (.ix (.v 0) (.c (.int 1))) (.c (.int 48271))) (.bin .mul false (.ix (.v 0) (.c (.int 2))) (.c (.int 69621)))) (.c (.int 11))) .nil)) (.c (.int 2147483647)))) (.cons (.asgS (.v 0) (.c (.int 0)) (.bin .add false (.bin .mul false (.v 2) (.c (.int 2147483629))) (.bin .mod false (.bi .int (.cons (.bin .add false (.bin .mul false (.v 2) (.v 2)) (.bin .mul false (.ix (.v 0) (.c (.int 2))) (.c (.int 16807)))) .nil)) (.c (.int 2147483629))))) (.cons (.asgS (.v 0) (.c (.int 1)) (.v 2)) .nil))) .nil) (.cons (.asg (.n 3) (.ix (.v 0) (.c (.int 0)))) (.cons (.asgS (.v 0) (.c (.int 0)) (.bin .fdiv false (.v 3) (.v 1))) (.cons (.ret (.bin .mod false (.bi .int (.cons (.v 3) .nil)) (.v 1))) .nil))))
abbrev s__law_draw : Stmt := top 19
def f__law_draw : Fn := { name := "_law_draw", ps := ["bag", "many"], N := ["bag", "many", "seed", "rest"], body := b__law_draw }
def d__law_draw : He.DefD := ⟨("_law_draw", none), "_law_draw", "_law_draw", defArgs s__law_draw, defBody s__law_draw, defScope s__law_draw, [], []⟩
def b__law_value : Stms := (.cons (.ret (.ix (.lst false (.cons (.c (.int 0)) (.cons (.c (.int 1)) (.cons (.neg (.c (.int 1))) (.cons (.c (.int 2)) (.cons (.c (.int 5)) (.cons (.c (.int 1000)) (.cons (.neg (.c (.int 1000))) (.cons (.bin .sub false (.call i__law_draw false (.cons (.v 0) (.cons (.c (.int 2001)) .nil))) (.c (.int 1000))) .nil))))))))) (.call i__law_draw false (.cons (.v 0) (.cons (.c (.int 8)) .nil))))) .nil)
abbrev s__law_value : Stmt := top 20
def f__law_value : Fn := { name := "_law_value", ps := ["bag"], N := ["bag"], body := b__law_value }
def d__law_value : He.DefD := ⟨("_law_value", none), "_law_value", "_law_value", defArgs s__law_value, defBody s__law_value, defScope s__law_value, [], []⟩
def l__law_changes_1 : Stms := (.cons (.ifs (.cmp .eq (.call i__law_draw false (.cons (.v 0) (.cons (.c (.int 4)) .nil))) (.c (.int 0))) (.cons (.ex (.me .append (.v 1) (.cons (.tup (.cons (.v 2) (.cons (.call i__law_value false (.cons (.v 0) .nil)) .nil))) .nil))) .nil) .nil) .nil)
def b__law_changes : Stms := (.cons (.asg (.n 1) (.lst true .nil)) (.cons (.for (.n 2) (.of (.c (.str "abcd"))) l__law_changes_1) (.cons (.ret (.bi .tuple (.cons (.v 1) .nil))) .nil)))
abbrev s__law_changes : Stmt := top 21
def f__law_changes : Fn := { name := "_law_changes", ps := ["bag"], N := ["bag", "changes", "variable"], body := b__law_changes }
def d__law_changes : He.DefD := ⟨("_law_changes", none), "_law_changes", "_law_changes", defArgs s__law_changes, defBody s__law_changes, defScope s__law_changes, [], []⟩
def e__law_run_1 : Ex := (.bi .tuple (.cons (.v 7) .nil))
def k__law_run_1 : Ex := (.lc false [("row", 7)] (.n 7) (.of (.v 3)) .no e__law_run_1)
def l__law_run_1 : Stms := (.cons (.asg (.n 7) (.ix (.v 3) (.call i__law_draw false (.cons (.v 0) (.cons (.v 1) .nil))))) (.cons (.asg (.n 8) (.call i__law_draw false (.cons (.v 0) (.cons (.c (.int 5)) .nil)))) (.cons (.asg (.n 9) (.call i__law_changes false (.cons (.v 0) .nil))) (.cons (.ifs (.cmp .lt (.v 8) (.c (.int 2))) (.cons (.ex (.me .append (.v 7) (.cons (.tup (.cons (.c (.str "step")) (.cons (.v 9) .nil))) .nil))) .nil) (.cons (.ifs (.and (.cmp .lt (.v 8) (.c (.int 4))) (.and (.cmp .gt (.call i__law_draw false (.cons (.v 0) (.cons (.c (.int 3)) .nil))) (.c (.int 0))) (.cmp .gt (.bi .len (.cons (.v 5) .nil)) (.c (.int 0))))) (.cons (.ex (.me .append (.v 7) (.cons (.tup (.cons (.c (.str "take")) (.cons (.me .pop (.v 5) (.cons (.call i__law_draw false (.cons (.v 0) (.cons (.bi .len (.cons (.v 5) .nil)) .nil))) .nil)) (.cons (.v 9) .nil)))) .nil))) .nil) (.cons (.asg (.n 10) (.ix (.lst false (.cons (.bin .add false (.v 6) (.c (.int 1))) (.cons (.bin .sub false (.c (.int 999)) (.v 6)) .nil))) (.call i__law_draw false (.cons (.v 0) (.cons (.c (.int 2)) .nil))))) (.cons (.ex (.me .append (.v 7) (.cons (.tup (.cons (.c (.str "send")) (.cons (.v 10) (.cons (.v 9) .nil)))) .nil))) (.cons (.ex (.me .append (.v 5) (.cons (.v 10) .nil))) .nil)))) .nil)) .nil))))
def e__law_run_2 : Ex := (.lst true .nil)
def k__law_run_2 : Stm := (.asgC 3 false [("k", 4)] (.n 4) (.rng1 (.v 1)) .no e__law_run_2)
def b__law_run : Stms := (.cons k__law_run_2 (.cons (.asg (.n 5) (.lst true .nil)) (.cons (.for (.n 6) (.rng1 (.call i__law_draw false (.cons (.v 0) (.cons (.bin .add false (.v 2) (.c (.int 1))) .nil)))) l__law_run_1) (.cons (.ret (.bi .tuple (.cons k__law_run_1 .nil))) .nil))))
abbrev s__law_run : Stmt := top 22
def f__law_run : Fn := { name := "_law_run", ps := ["bag", "count", "most"], N := ["bag", "count", "most", "rows", "k", "flight", "j", "row", "kind", "changes", "letter"], body := b__law_run }
def d__law_run : He.DefD := ⟨("_law_run", none), "_law_run", "_law_run", defArgs s__law_run, defBody s__law_run, defScope s__law_run, [], []⟩
def l__law_turned_1 : Stms := (.cons (.asg (.n 8) (.call i__law_bag false (.cons (.v 0) (.cons (.bin .add false (.v 7) (.v 2)) .nil)))) (.cons (.asg (.n 9) (.me .pop (.v 3) (.cons (.call i__law_draw false (.cons (.v 8) (.cons (.bi .len (.cons (.v 3) .nil)) .nil))) .nil))) (.cons (.ex (.me .append (.v 6) (.cons (.v 9) .nil))) (.cons (.ifs (.cmp .eq (.call i__law_draw false (.cons (.v 8) (.cons (.c (.int 5)) .nil))) (.c (.int 0))) (.cons (.ex (.me .append (.v 6) (.cons (.ix (.v 6) (.call i__law_draw false (.cons (.v 8) (.cons (.bi .len (.cons (.v 6) .nil)) .nil)))) .nil))) .nil) .nil) .nil))))
def e__law_turned_1 : Ex := (.tup (.cons (.v 4) (.cons (.bin .add false (.v 5) (.c (.int 1))) .nil)))
def k__law_turned_1 : Ex := (.lc false [("index", 5)] (.n 5) (.rng1 (.bi .len (.cons (.ix (.v 1) (.v 4)) .nil))) .no e__law_turned_1)
def l__law_turned_2 : Stms := (.cons (.asg (.n 3) (.bin .add true (.v 3) k__law_turned_1)) .nil)
def b__law_turned : Stms := (.cons (.asg (.n 3) (.lst true .nil)) (.cons (.for (.n 4) (.rng1 (.bi .len (.cons (.v 1) .nil))) l__law_turned_2) (.cons (.asg (.n 6) (.lst true .nil)) (.cons (.for (.n 7) (.rng1 (.bi .len (.cons (.v 3) .nil))) l__law_turned_1) (.cons (.ret (.v 6)) .nil)))))
abbrev s__law_turned : Stmt := top 23
def f__law_turned : Fn := { name := "_law_turned", ps := ["script", "run", "shift"], N := ["script", "run", "shift", "left", "process", "index", "order", "k", "bag", "place"], body := b__law_turned }
def d__law_turned : He.DefD := ⟨("_law_turned", none), "_law_turned", "_law_turned", defArgs s__law_turned, defBody s__law_turned, defScope s__law_turned, [], []⟩
def l__law_grown_1 : Stms := (.cons (.ifs (.cmp .ne (.sl false (.ix (.v 1) (.v 2)) .no (.so (.bi .len (.cons (.ix (.v 0) (.v 2)) .nil)))) (.ix (.v 0) (.v 2))) (.cons (.ret (.c (.bl false))) .nil) .nil) .nil)
def b__law_grown : Stms := (.cons (.for (.n 2) (.rng1 (.bi .len (.cons (.v 1) .nil))) l__law_grown_1) (.cons (.ret (.c (.bl true))) .nil))
abbrev s__law_grown : Stmt := top 24
def f__law_grown : Fn := { name := "_law_grown", ps := ["before", "now"], N := ["before", "now", "k"], body := b__law_grown }
def d__law_grown : He.DefD := ⟨("_law_grown", none), "_law_grown", "_law_grown", defArgs s__law_grown, defBody s__law_grown, defScope s__law_grown, [], []⟩
def l__law_fed_1 : Stms := (.cons (.ex (.mcl 0 i_Watcher_feed "feed" false (.v 0) (.cons (.ix (.v 4) (.c (.int 0))) (.cons (.ix (.v 4) (.c (.int 1))) (.cons (.ix (.ix (.v 1) (.ix (.v 4) (.c (.int 0)))) (.bin .sub false (.ix (.v 4) (.c (.int 1))) (.c (.int 1)))) .nil))))) (.cons (.asg (.n 5) (.mcl 0 i_Watcher_known "known" false (.v 0) .nil)) (.cons (.ifs (.or (.not (.call i__law_grown true (.cons (.v 3) (.cons (.v 5) .nil)))) (.not (.call i__law_grown true (.cons (.v 5) (.cons (.v 1) .nil))))) (.cons (.ret (.c (.bl false))) .nil) .nil) (.cons (.asg (.n 3) (.v 5)) .nil))))
def b__law_fed : Stms := (.cons (.asg (.n 3) (.mcl 0 i_Watcher_known "known" false (.v 0) .nil)) (.cons (.for (.n 4) (.of (.v 2)) l__law_fed_1) (.cons (.ret (.c (.bl true))) .nil)))
abbrev s__law_fed : Stmt := top 25
def f__law_fed : Fn := { name := "_law_fed", ps := ["watcher", "run", "places"], N := ["watcher", "run", "places", "before", "place", "now"], body := b__law_fed }
def d__law_fed : He.DefD := ⟨("_law_fed", none), "_law_fed", "_law_fed", defArgs s__law_fed, defBody s__law_fed, defScope s__law_fed, [], []⟩
def q_law_1 : Oe := (.so (.cmp .isin (.v 9) (.sl false (.ix (.v 6) (.c (.int 0))) .no (.so (.v 7)))))
def e_law_1 : Ex := (.v 9)
def k_law_1 : Stm := (.asgC 8 false [("place", 9)] (.n 9) (.of (.ix (.v 6) (.c (.int 1)))) q_law_1 e_law_1)
def b_law : Stms := (.cons (.asg (.n 1) (.call i__law_bag false (.cons (.v 0) (.cons (.c (.int 0)) .nil)))) (.cons (.asg (.n 2) (.bin .add false (.c (.int 1)) (.call i__law_draw false (.cons (.v 1) (.cons (.c (.int 6)) .nil))))) (.cons (.asg (.n 3) (.call i__law_run false (.cons (.v 1) (.cons (.v 2) (.cons (.c (.int 30)) .nil))))) (.cons (.asg (.n 4) (.mk 0 i_Watcher___init__ true (.cons (.v 2) .nil))) (.cons (.asg (.n 5) (.mk 0 i_Watcher___init__ true (.cons (.v 2) .nil))) (.cons (.asg (.n 6) (.lst false (.cons (.call i__law_turned true (.cons (.v 0) (.cons (.v 3) (.cons (.c (.int 0)) .nil)))) (.cons (.call i__law_turned true (.cons (.v 0) (.cons (.v 3) (.cons (.c (.int 17)) .nil)))) .nil)))) (.cons (.asg (.n 7) (.call i__law_draw false (.cons (.v 1) (.cons (.bin .add false (.bi .len (.cons (.ix (.v 6) (.c (.int 0))) .nil)) (.c (.int 1))) .nil)))) (.cons (.ifs (.not (.call i__law_fed false (.cons (.v 4) (.cons (.v 3) (.cons (.sl false (.ix (.v 6) (.c (.int 0))) .no (.so (.v 7))) .nil))))) (.cons (.ret (.c (.bl false))) .nil) .nil) (.cons k_law_1 (.cons (.ifs (.or (.not (.call i__law_fed false (.cons (.v 5) (.cons (.v 3) (.cons (.v 8) .nil))))) (.or (.cmp .ne (.mcl 0 i_Watcher_known "known" false (.v 4) .nil) (.mcl 0 i_Watcher_known "known" false (.v 5) .nil)) (.cmp .ne (.mcl 0 i_Watcher_waiting "waiting" false (.v 4) .nil) (.mcl 0 i_Watcher_waiting "waiting" false (.v 5) .nil)))) (.cons (.ret (.c (.bl false))) .nil) .nil) (.cons (.ifs (.or (.not (.call i__law_fed false (.cons (.v 4) (.cons (.v 3) (.cons (.sl false (.ix (.v 6) (.c (.int 0))) (.so (.v 7)) .no) .nil))))) (.not (.call i__law_fed false (.cons (.v 5) (.cons (.v 3) (.cons (.ix (.v 6) (.c (.int 1))) .nil)))))) (.cons (.ret (.c (.bl false))) .nil) .nil) (.cons (.ret (.and (.cmp .eq (.mcl 0 i_Watcher_known "known" false (.v 4) .nil) (.v 3)) (.and (.cmp .eq (.mcl 0 i_Watcher_known "known" false (.v 5) .nil) (.v 3)) (.and (.cmp .eq (.mcl 0 i_Watcher_waiting "waiting" false (.v 4) .nil) (.lst false .nil)) (.cmp .eq (.mcl 0 i_Watcher_waiting "waiting" false (.v 5) .nil) (.lst false .nil)))))) .nil))))))))))))
abbrev s_law : Stmt := top 26
def f_law : Fn := { name := "law", ps := ["script"], N := ["script", "first", "count", "run", "one", "other", "orders", "half", "met", "place"], body := b_law }
def d_law : He.DefD := ⟨("law", none), "law", "law", defArgs s_law, defBody s_law, defScope s_law, [], []⟩
def F : List Fn := [f_is_integer, f_is_variable, f_is_changes, f_is_event, f_Watcher___init__, f_Watcher_feed, f_Watcher_known, f_Watcher_waiting, f_Watcher__beginning, f_Watcher__has, f_Watcher__is_possible, f__law_bag, f__law_draw, f__law_value, f__law_changes, f__law_run, f__law_turned, f__law_grown, f__law_fed, f_law]
def ds : List He.DefD := [d_is_integer, d_is_variable, d_is_changes, d_is_event, d_Watcher___init__, d_Watcher_feed, d_Watcher_known, d_Watcher_waiting, d_Watcher__beginning, d_Watcher__has, d_Watcher__is_possible, d__law_bag, d__law_draw, d__law_value, d__law_changes, d__law_run, d__law_turned, d__law_grown, d__law_fed, d_law]
def cs : List (Str × Cst) := [("MOST_PROCESSES", .int 6), ("MOST_EVENTS", .int 30), ("MOST_VALUE", .int 1000), ("MOST_LETTER", .int 999), ("VARIABLES", .str "abcd")]
def xs : List Str := ["CutError", "BadRun"]
def subs : List (List Bool) := [[true, false], [true, true]]
def cl : List Cl := [⟨"Watcher", ["_count", "_rows"], i_Watcher___init__, [("feed", i_Watcher_feed), ("known", i_Watcher_known), ("waiting", i_Watcher_waiting), ("_beginning", i_Watcher__beginning), ("_has", i_Watcher__has), ("_is_possible", i_Watcher__is_possible)]⟩]
def L : Lw := ⟨F, ds, cs, xs, subs, cl⟩
def tx : Txt := L.tx
def T0 : Ip.Tab := L.tab
noncomputable abbrev C (k : Nat) : Gam := callK L.F T0 k
@[simp] theorem t_MOST_PROCESSES : T0.consts[g_MOST_PROCESSES]? = some (.int 6) := rfl
@[simp] theorem t_MOST_EVENTS : T0.consts[g_MOST_EVENTS]? = some (.int 30) := rfl
@[simp] theorem t_MOST_VALUE : T0.consts[g_MOST_VALUE]? = some (.int 1000) := rfl
@[simp] theorem t_MOST_LETTER : T0.consts[g_MOST_LETTER]? = some (.int 999) := rfl
@[simp] theorem t_VARIABLES : T0.consts[g_VARIABLES]? = some (.str "abcd") := rfl
theorem c_is_integer (k : Nat) (a0 a1 a2 : D) (S : Sto) : C (k + 1) i_is_integer [a0, a1, a2] S = outS (execs (C k) T0 b_is_integer [some a0, some a1, some a2] S) := rfl
theorem c_is_variable (k : Nat) (a0 : D) (S : Sto) : C (k + 1) i_is_variable [a0] S = outS (execs (C k) T0 b_is_variable [some a0] S) := rfl
theorem c_is_changes (k : Nat) (a0 : D) (S : Sto) : C (k + 1) i_is_changes [a0] S = outS (execs (C k) T0 b_is_changes [some a0, none, none] S) := rfl
theorem c_is_event (k : Nat) (a0 : D) (S : Sto) : C (k + 1) i_is_event [a0] S = outS (execs (C k) T0 b_is_event [some a0] S) := rfl
theorem c_Watcher___init__ (k : Nat) (a0 a1 : D) (S : Sto) : C (k + 1) i_Watcher___init__ [a0, a1] S = outS (execs (C k) T0 b_Watcher___init__ [some a0, some a1, none] S) := rfl
theorem c_Watcher_feed (k : Nat) (a0 a1 a2 a3 : D) (S : Sto) : C (k + 1) i_Watcher_feed [a0, a1, a2, a3] S = outS (execs (C k) T0 b_Watcher_feed [some a0, some a1, some a2, some a3, none] S) := rfl
theorem c_Watcher_known (k : Nat) (a0 : D) (S : Sto) : C (k + 1) i_Watcher_known [a0] S = outS (execs (C k) T0 b_Watcher_known [some a0, none, none, none, none, none, none, none] S) := rfl
theorem c_Watcher_waiting (k : Nat) (a0 : D) (S : Sto) : C (k + 1) i_Watcher_waiting [a0] S = outS (execs (C k) T0 b_Watcher_waiting [some a0, none, none, none, none] S) := rfl
theorem c_Watcher__beginning (k : Nat) (a0 a1 a2 : D) (S : Sto) : C (k + 1) i_Watcher__beginning [a0, a1, a2] S = outS (execs (C k) T0 b_Watcher__beginning [some a0, some a1, some a2, none] S) := rfl
theorem c_Watcher__has (k : Nat) (a0 a1 a2 : D) (S : Sto) : C (k + 1) i_Watcher__has [a0, a1, a2] S = outS (execs (C k) T0 b_Watcher__has [some a0, some a1, some a2, none, none] S) := rfl
theorem c_Watcher__is_possible (k : Nat) (a0 : D) (S : Sto) : C (k + 1) i_Watcher__is_possible [a0] S = outS (execs (C k) T0 b_Watcher__is_possible [some a0, none, none, none, none, none, none, none, none] S) := rfl
theorem c__law_bag (k : Nat) (a0 a1 : D) (S : Sto) : C (k + 1) i__law_bag [a0, a1] S = outS (execs (C k) T0 b__law_bag [some a0, some a1, none] S) := rfl
theorem c__law_draw (k : Nat) (a0 a1 : D) (S : Sto) : C (k + 1) i__law_draw [a0, a1] S = outS (execs (C k) T0 b__law_draw [some a0, some a1, none, none] S) := rfl
theorem c__law_value (k : Nat) (a0 : D) (S : Sto) : C (k + 1) i__law_value [a0] S = outS (execs (C k) T0 b__law_value [some a0] S) := rfl
theorem c__law_changes (k : Nat) (a0 : D) (S : Sto) : C (k + 1) i__law_changes [a0] S = outS (execs (C k) T0 b__law_changes [some a0, none, none] S) := rfl
theorem c__law_run (k : Nat) (a0 a1 a2 : D) (S : Sto) : C (k + 1) i__law_run [a0, a1, a2] S = outS (execs (C k) T0 b__law_run [some a0, some a1, some a2, none, none, none, none, none, none, none, none] S) := rfl
theorem c__law_turned (k : Nat) (a0 a1 a2 : D) (S : Sto) : C (k + 1) i__law_turned [a0, a1, a2] S = outS (execs (C k) T0 b__law_turned [some a0, some a1, some a2, none, none, none, none, none, none, none] S) := rfl
theorem c__law_grown (k : Nat) (a0 a1 : D) (S : Sto) : C (k + 1) i__law_grown [a0, a1] S = outS (execs (C k) T0 b__law_grown [some a0, some a1, none] S) := rfl
theorem c__law_fed (k : Nat) (a0 a1 a2 : D) (S : Sto) : C (k + 1) i__law_fed [a0, a1, a2] S = outS (execs (C k) T0 b__law_fed [some a0, some a1, some a2, none, none, none] S) := rfl
theorem c_law (k : Nat) (a0 : D) (S : Sto) : C (k + 1) i_law [a0] S = outS (execs (C k) T0 b_law [some a0, none, none, none, none, none, none, none, none, none] S) := rfl
theorem ok_is_integer : DefOk L.tx f_is_integer d_is_integer := ⟨.inr rfl, ⟨rfl, rfl, rfl, by decide +kernel, rfl, by decide +kernel, by decide +kernel⟩, by kernel_rfl, rfl, rfl, fun _ _ _ _ _ _ us hl => match us, hl with | [_, _, _], _ => rfl⟩
theorem ok_is_variable : DefOk L.tx f_is_variable d_is_variable := ⟨.inr rfl, ⟨rfl, rfl, rfl, by decide +kernel, rfl, by decide +kernel, by decide +kernel⟩, by kernel_rfl, rfl, rfl, fun _ _ _ _ _ _ us hl => match us, hl with | [_], _ => rfl⟩
theorem ok_is_changes : DefOk L.tx f_is_changes d_is_changes := ⟨.inr rfl, ⟨rfl, rfl, rfl, by decide +kernel, rfl, by decide +kernel, by decide +kernel⟩, by kernel_rfl, rfl, rfl, fun _ _ _ _ _ _ us hl => match us, hl with | [_], _ => rfl⟩
theorem ok_is_event : DefOk L.tx f_is_event d_is_event := ⟨.inr rfl, ⟨rfl, rfl, rfl, by decide +kernel, rfl, by decide +kernel, by decide +kernel⟩, by kernel_rfl, rfl, rfl, fun _ _ _ _ _ _ us hl => match us, hl with | [_], _ => rfl⟩
theorem ok_Watcher___init__ : DefOk L.tx f_Watcher___init__ d_Watcher___init__ := ⟨.inl rfl, ⟨rfl, rfl, rfl, by decide +kernel, rfl, by decide +kernel, by decide +kernel⟩, by kernel_rfl, rfl, rfl, fun _ _ _ _ _ _ us hl => match us, hl with | [_, _], _ => rfl⟩
theorem ok_Watcher_feed : DefOk L.tx f_Watcher_feed d_Watcher_feed := ⟨.inl rfl, ⟨rfl, rfl, rfl, by decide +kernel, rfl, by decide +kernel, by decide +kernel⟩, by kernel_rfl, rfl, rfl, fun _ _ _ _ _ _ us hl => match us, hl with | [_, _, _, _], _ => rfl⟩
theorem ok_Watcher_known : DefOk L.tx f_Watcher_known d_Watcher_known := ⟨.inl rfl, ⟨rfl, rfl, rfl, by decide +kernel, rfl, by decide +kernel, by decide +kernel⟩, by kernel_rfl, rfl, rfl, fun _ _ _ _ _ _ us hl => match us, hl with | [_], _ => rfl⟩
theorem ok_Watcher_waiting : DefOk L.tx f_Watcher_waiting d_Watcher_waiting := ⟨.inl rfl, ⟨rfl, rfl, rfl, by decide +kernel, rfl, by decide +kernel, by decide +kernel⟩, by kernel_rfl, rfl, rfl, fun _ _ _ _ _ _ us hl => match us, hl with | [_], _ => rfl⟩
theorem ok_Watcher__beginning : DefOk L.tx f_Watcher__beginning d_Watcher__beginning := ⟨.inl rfl, ⟨rfl, rfl, rfl, by decide +kernel, rfl, by decide +kernel, by decide +kernel⟩, by kernel_rfl, rfl, rfl, fun _ _ _ _ _ _ us hl => match us, hl with | [_, _, _], _ => rfl⟩
theorem ok_Watcher__has : DefOk L.tx f_Watcher__has d_Watcher__has := ⟨.inl rfl, ⟨rfl, rfl, rfl, by decide +kernel, rfl, by decide +kernel, by decide +kernel⟩, by kernel_rfl, rfl, rfl, fun _ _ _ _ _ _ us hl => match us, hl with | [_, _, _], _ => rfl⟩
theorem ok_Watcher__is_possible : DefOk L.tx f_Watcher__is_possible d_Watcher__is_possible := ⟨.inl rfl, ⟨rfl, rfl, rfl, by decide +kernel, rfl, by decide +kernel, by decide +kernel⟩, by kernel_rfl, rfl, rfl, fun _ _ _ _ _ _ us hl => match us, hl with | [_], _ => rfl⟩
theorem ok__law_bag : DefOk L.tx f__law_bag d__law_bag := ⟨.inr rfl, ⟨rfl, rfl, rfl, by decide +kernel, rfl, by decide +kernel, by decide +kernel⟩, by kernel_rfl, rfl, rfl, fun _ _ _ _ _ _ us hl => match us, hl with | [_, _], _ => rfl⟩
theorem ok__law_draw : DefOk L.tx f__law_draw d__law_draw := ⟨.inr rfl, ⟨rfl, rfl, rfl, by decide +kernel, rfl, by decide +kernel, by decide +kernel⟩, by kernel_rfl, rfl, rfl, fun _ _ _ _ _ _ us hl => match us, hl with | [_, _], _ => rfl⟩
theorem ok__law_value : DefOk L.tx f__law_value d__law_value := ⟨.inr rfl, ⟨rfl, rfl, rfl, by decide +kernel, rfl, by decide +kernel, by decide +kernel⟩, by kernel_rfl, rfl, rfl, fun _ _ _ _ _ _ us hl => match us, hl with | [_], _ => rfl⟩
theorem ok__law_changes : DefOk L.tx f__law_changes d__law_changes := ⟨.inr rfl, ⟨rfl, rfl, rfl, by decide +kernel, rfl, by decide +kernel, by decide +kernel⟩, by kernel_rfl, rfl, rfl, fun _ _ _ _ _ _ us hl => match us, hl with | [_], _ => rfl⟩
theorem ok__law_run : DefOk L.tx f__law_run d__law_run := ⟨.inr rfl, ⟨rfl, rfl, rfl, by decide +kernel, rfl, by decide +kernel, by decide +kernel⟩, by kernel_rfl, rfl, rfl, fun _ _ _ _ _ _ us hl => match us, hl with | [_, _, _], _ => rfl⟩
theorem ok__law_turned : DefOk L.tx f__law_turned d__law_turned := ⟨.inr rfl, ⟨rfl, rfl, rfl, by decide +kernel, rfl, by decide +kernel, by decide +kernel⟩, by kernel_rfl, rfl, rfl, fun _ _ _ _ _ _ us hl => match us, hl with | [_, _, _], _ => rfl⟩
theorem ok__law_grown : DefOk L.tx f__law_grown d__law_grown := ⟨.inr rfl, ⟨rfl, rfl, rfl, by decide +kernel, rfl, by decide +kernel, by decide +kernel⟩, by kernel_rfl, rfl, rfl, fun _ _ _ _ _ _ us hl => match us, hl with | [_, _], _ => rfl⟩
theorem ok__law_fed : DefOk L.tx f__law_fed d__law_fed := ⟨.inr rfl, ⟨rfl, rfl, rfl, by decide +kernel, rfl, by decide +kernel, by decide +kernel⟩, by kernel_rfl, rfl, rfl, fun _ _ _ _ _ _ us hl => match us, hl with | [_, _, _], _ => rfl⟩
theorem ok_law : DefOk L.tx f_law d_law := ⟨.inr rfl, ⟨rfl, rfl, rfl, by decide +kernel, rfl, by decide +kernel, by decide +kernel⟩, by kernel_rfl, rfl, rfl, fun _ _ _ _ _ _ us hl => match us, hl with | [_], _ => rfl⟩
theorem all_ok : AllOk L := fun i f d h1 h2 => by
  match i, h1, h2 with
  | 0, h1, h2 => cases h1; cases h2; exact ok_is_integer
  | 1, h1, h2 => cases h1; cases h2; exact ok_is_variable
  | 2, h1, h2 => cases h1; cases h2; exact ok_is_changes
  | 3, h1, h2 => cases h1; cases h2; exact ok_is_event
  | 4, h1, h2 => cases h1; cases h2; exact ok_Watcher___init__
  | 5, h1, h2 => cases h1; cases h2; exact ok_Watcher_feed
  | 6, h1, h2 => cases h1; cases h2; exact ok_Watcher_known
  | 7, h1, h2 => cases h1; cases h2; exact ok_Watcher_waiting
  | 8, h1, h2 => cases h1; cases h2; exact ok_Watcher__beginning
  | 9, h1, h2 => cases h1; cases h2; exact ok_Watcher__has
  | 10, h1, h2 => cases h1; cases h2; exact ok_Watcher__is_possible
  | 11, h1, h2 => cases h1; cases h2; exact ok__law_bag
  | 12, h1, h2 => cases h1; cases h2; exact ok__law_draw
  | 13, h1, h2 => cases h1; cases h2; exact ok__law_value
  | 14, h1, h2 => cases h1; cases h2; exact ok__law_changes
  | 15, h1, h2 => cases h1; cases h2; exact ok__law_run
  | 16, h1, h2 => cases h1; cases h2; exact ok__law_turned
  | 17, h1, h2 => cases h1; cases h2; exact ok__law_grown
  | 18, h1, h2 => cases h1; cases h2; exact ok__law_fed
  | 19, h1, h2 => cases h1; cases h2; exact ok_law
  | _ + 20, h1, _ => simp [L, F] at h1
end Lk
namespace Lk
open PySem PySem.Spec PyProof.Rows L2 Ip
abbrev R : PySem.W.OpenRow := PySem.W.OpenLaw.row PySem.Challenge.rw_cutpapers_k51_whole_any_order
def loose : List PySem.Str := (["_wall", "CutError", "BadRun", "MOST_PROCESSES", "MOST_EVENTS", "MOST_VALUE", "MOST_LETTER", "is_integer", "VARIABLES", "is_variable", "is_changes", "is_event", "Watcher", "_law_bag", "_law_draw", "_law_value", "_law_changes", "_law_run", "_law_turned", "_law_grown"] : List PySem.Str) ++ (["_law_fed"] : List PySem.Str)
abbrev hk : PySem.W.Hook := hookX 5 L.fas L.ds L.xs L.subs
def ob (s : PySem.W.SharedT) : He.AlD × Bool := obsX 5 L.fas L.ds L.xs L.subs (HandSHeadRun.getT s)
theorem ob_eq (s : PySem.W.SharedT) : ob s = hk.obs s.abs := obsX_eq (HandSHeadRun.getT_eq s)
theorem run (w : World) : HandSHeadRun.RunEq R (PySem.W.view R.prog [26]) hk ob 4000 loose w := by
  intro os
  kernel_rfl
end Lk
namespace Lk
open PySem PySem.W PySem.Calls PyProof.Rows L2
theorem holds_of {k : Nat} (hk9 : k ≤ 40) (hlaw : ∀ ns : List Int, ns.length ≤ 63 → (∀ z ∈ ns, Builtin.Int.intBits z ≤ 1048576) → ∃ S, Ip.callK L.F L.tab k i_law [.scr ns] [] = some (.ok (.bl true) S)) : PySem.Challenge.rw_cutpapers_k51_whole_any_order.Holds := by
  w_on; o_law
  refine HandSHeadRun.head_any (r := OpenLaw.row PySem.Challenge.rw_cutpapers_k51_whole_any_order) (q := view (OpenLaw.row PySem.Challenge.rw_cutpapers_k51_whole_any_order).prog [26]) (H := Lk.hk) (ob := Lk.ob) (M := 4000) (loose := Lk.loose) (d := HandSHeadRun.topDef (OpenLaw.row PySem.Challenge.rw_cutpapers_k51_whole_any_order).prog 26) (kwd := []) Lk.ob_eq
    (by kernel_rfl) (fun s => by kernel_rfl) Lk.run (by kernel_rfl) (by kernel_rfl) (by kernel_rfl) (by rfl) (by first | assumption | decide +kernel) (by decide +kernel) ⟨rfl, rfl, rfl, rfl, rfl, by decide +kernel⟩ ?hw ?hc
  case hw => w_witness2
  case hc =>
    refine Ip.law_end (L := Lk.L) (l := PySem.Challenge.rw_cutpapers_k51_whole_any_order) (n := 63) (k := k) (j := Lk.i_law) (fl := Lk.f_law) (fun w h Y => Y) rfl (by decide) (by kernel_rfl) ⟨rfl, ?_, ?_⟩ (by decide +kernel) Lk.all_ok rfl rfl (by decide) rfl (by kernel_rfl) hlaw
    · show callerA.depth + 3 * (2 * k) + 5 < recursionLimit
      have : callerA.depth + 3 * (2 * 40) + 5 < recursionLimit := by decide
      omega
    · show callerA.units + 16 * (2 * k) + 200 < cLine
      have : callerA.units + 16 * (2 * 40) + 200 < cLine := by decide
      omega
end Lk
namespace Lk
open PyProof.Rows L2 Ip
/-! ### data: what the laws draw -/
def leaf : D → Bool
  | .non => true
  | .bl _ => true
  | .int _ => true
  | .str x => decide (x.length ≤ 100000) && P3Ok x
  | _ => false
where P3Ok (x : PySem.Str) : Bool := PySem.PyData.strOk x
def dat : Nat → D → Bool
  | 0, d => leaf d
  | n + 1, .tup xs => decide (xs.length ≤ 1000 + n) && xs.all (dat n)
  | n + 1, .lst xs => decide (xs.length ≤ 1000 + n) && xs.all (dat n)
  | _ + 1, d => leaf d
theorem dat_leaf {d : D} (h : leaf d = true) : ∀ n, dat n d = true
  | 0 => h
  | n + 1 => by
    cases d <;> first | exact h | cases h
theorem dat_tup {n : Nat} {xs : List D} : (dat (n + 1) (.tup xs) = true) ↔ (xs.length ≤ 1000 + n ∧ xs.all (dat n) = true) := by
  rw [dat, Bool.and_eq_true, decide_eq_true_eq]
theorem dat_lst {n : Nat} {xs : List D} : (dat (n + 1) (.lst xs) = true) ↔ (xs.length ≤ 1000 + n ∧ xs.all (dat n) = true) := by
  rw [dat, Bool.and_eq_true, decide_eq_true_eq]
theorem dat_mono : ∀ {n m : Nat} {d : D}, n ≤ m → dat n d = true → dat m d = true
  | 0, m, d, _, h => dat_leaf h m
  | n + 1, 0, d, hl, h => by omega
  | n + 1, m + 1, .tup xs, hl, h => by
    rw [dat_tup, List.all_eq_true] at h ⊢
    exact ⟨by omega, fun x hx => dat_mono (by omega) (h.2 x hx)⟩
  | n + 1, m + 1, .lst xs, hl, h => by
    rw [dat_lst, List.all_eq_true] at h ⊢
    exact ⟨by omega, fun x hx => dat_mono (by omega) (h.2 x hx)⟩
  | n + 1, m + 1, .non, hl, h => h
  | n + 1, m + 1, .bl _, hl, h => h
  | n + 1, m + 1, .int _, hl, h => h
  | n + 1, m + 1, .str _, hl, h => h
  | n + 1, m + 1, .scr _, hl, h => by cases h
  | n + 1, m + 1, .dct _ _ _, hl, h => by cases h
  | n + 1, m + 1, .obj _ _ _, hl, h => by cases h
  | n + 1, m + 1, .ref _, hl, h => by cases h
mutual
theorem dat_pure : ∀ (n : Nat) (d : D), dat n d = true → d.pure = true
  | 0, d, h => by cases d <;> first | rfl | cases h
  | n + 1, d, h => by
    cases d with
    | tup xs => rw [D.pure]; exact dats_pure n xs (by first | (rw [dat_tup] at h; exact h.2) | (rw [dat_lst] at h; exact h.2))
    | lst xs => rw [D.pure]; exact dats_pure n xs (by first | (rw [dat_tup] at h; exact h.2) | (rw [dat_lst] at h; exact h.2))
    | _ => first | rfl | cases h
theorem dats_pure : ∀ (n : Nat) (xs : List D), xs.all (dat n) = true → pures xs = true
  | n, [], _ => rfl
  | n, x :: xs, h => by
    rw [List.all_cons, Bool.and_eq_true] at h
    rw [pures, dat_pure n x h.1, dats_pure n xs h.2]; rfl
end
-- what == reads
mutual
theorem dat_pd : ∀ (n : Nat) (d : D), dat n d = true → ∃ a, pd d = some a ∧ a.canLay0 = true ∧ a.depth ≤ n
  | 0, d, h => by
    cases d with
    | non => exact ⟨_, rfl, by simp [PySem.PyData.canLay0], by simp [PySem.PyData.depth]⟩
    | bl b => exact ⟨_, rfl, by simp [PySem.PyData.canLay0], by simp [PySem.PyData.depth]⟩
    | int b => exact ⟨_, rfl, by simp [PySem.PyData.canLay0], by simp [PySem.PyData.depth]⟩
    | str x =>
      have h : (decide (x.length ≤ 100000) && PySem.PyData.strOk x) = true := h
      rw [Bool.and_eq_true] at h
      exact ⟨_, rfl, by simp [PySem.PyData.canLay0, h.2], by simp [PySem.PyData.depth]⟩
    | _ => cases h
  | n + 1, d, h => by
    cases d with
    | non => exact ⟨_, rfl, by simp [PySem.PyData.canLay0], by simp [PySem.PyData.depth]⟩
    | bl b => exact ⟨_, rfl, by simp [PySem.PyData.canLay0], by simp [PySem.PyData.depth]⟩
    | int b => exact ⟨_, rfl, by simp [PySem.PyData.canLay0], by simp [PySem.PyData.depth]⟩
    | str x =>
      have h : (decide (x.length ≤ 100000) && PySem.PyData.strOk x) = true := h
      rw [Bool.and_eq_true] at h
      exact ⟨_, rfl, by simp [PySem.PyData.canLay0, h.2], by simp [PySem.PyData.depth]⟩
    | tup xs =>
      obtain ⟨as, h1, h2, h3⟩ := dats_pd n xs (dat_tup.mp h).2
      exact ⟨.tuple as, by rw [pd, h1]; rfl, by rw [PySem.PyData.canLay0]; exact h2, by rw [PySem.PyData.depth]; omega⟩
    | lst xs =>
      obtain ⟨as, h1, h2, h3⟩ := dats_pd n xs (dat_lst.mp h).2
      exact ⟨.list as, by rw [pd, h1]; rfl, by rw [PySem.PyData.canLay0]; exact h2, by rw [PySem.PyData.depth]; omega⟩
    | _ => cases h
theorem dats_pd : ∀ (n : Nat) (xs : List D), xs.all (dat n) = true → ∃ as, pds xs = some as ∧ PySem.PyData.canLayAll0 as = true ∧ PySem.PyData.depthAll as ≤ n
  | n, [], _ => ⟨[], rfl, rfl, by simp [PySem.PyData.depthAll]⟩
  | n, x :: xs, h => by
    rw [List.all_cons, Bool.and_eq_true] at h
    obtain ⟨a, h1, h2, h3⟩ := dat_pd n x h.1
    obtain ⟨as, h4, h5, h6⟩ := dats_pd n xs h.2
    exact ⟨a :: as, by rw [pds, h1, h4], by rw [PySem.PyData.canLayAll0, h2, h5]; rfl, by rw [PySem.PyData.depthAll]; omega⟩
end
theorem dat_res1 {S : Sto} {n : Nat} {d : D} (h : dat n d = true) : res1 S d = d := by
  cases d <;> first | rfl | (cases n <;> cases h)
theorem dat_res2 {S : Sto} {n : Nat} {d : D} (h : dat n d = true) : res2 S d = d := by
  cases d with
  | lst xs =>
    cases n with
    | zero => cases h
    | succ n =>
      rw [res2]
      congr 1
      rw [dat_lst, List.all_eq_true] at h
      conv => rhs; rw [← List.map_id xs]
      exact List.map_congr_left fun x hx => dat_res1 (h.2 x hx)
  | _ => first | rfl | (cases n <;> cases h)
theorem dat_shaped {n : Nat} {d : D} (hn : n ≤ 64) (h : dat n d = true) : ∃ a, pd d = some a ∧ PySem.SeqAt.shaped a = true := by
  obtain ⟨a, h1, h2, h3⟩ := dat_pd n d h
  exact ⟨a, h1, by unfold PySem.SeqAt.shaped; rw [h2, decide_eq_true (show a.depth ≤ 64 by omega)]; rfl⟩
/-- value == () -/
def isNil : D → Bool
  | .tup [] => true
  | _ => false
theorem eqD_nil {S : Sto} {n : Nat} {d : D} (hn : n ≤ 64) (h : dat n d = true) : eqD S d (.tup []) = some (isNil d) := by
  obtain ⟨a, h1, h2⟩ := dat_shaped hn h
  have e : eqD S d (.tup []) = (match pd (res2 S d), pd (res2 S (.tup [])) with
    | some a, some b => if PySem.SeqAt.shaped a = true ∧ PySem.SeqAt.shaped b = true then some (PySem.PyData.eqv a b) else none
    | _, _ => none) := by cases d <;> rfl
  rw [e, dat_res2 h, h1]
  have e2 : pd (res2 S (.tup [])) = some (.tuple []) := rfl
  rw [e2]
  simp only
  rw [if_pos ⟨h2, by decide⟩]
  congr 1
  cases d with
  | tup xs =>
    rw [pd] at h1
    cases xs with
    | nil => cases h1; simp [PySem.PyData.eqv, PySem.PyData.eqvAll, isNil]
    | cons x xs =>
      cases hx : pds (x :: xs) with
      | none => rw [hx] at h1; cases h1
      | some as =>
        rw [hx] at h1; cases h1
        cases as with
        | nil => rw [pds] at hx; split at hx <;> cases hx
        | cons a as => simp [PySem.PyData.eqv, PySem.PyData.eqvAll, isNil]
  | lst xs =>
    rw [pd] at h1
    cases hx : pds xs with
    | none => rw [hx] at h1; cases h1
    | some as => rw [hx] at h1; cases h1; simp [PySem.PyData.eqv, isNil]
  | non => cases h1; simp [PySem.PyData.eqv, isNil]
  | bl b => cases h1; simp [PySem.PyData.eqv, isNil]
  | int b => cases h1; simp [PySem.PyData.eqv, isNil]
  | str b => cases h1; simp [PySem.PyData.eqv, isNil]
  | _ => cases h1
theorem str_len {x : PySem.Str} (h : leaf (.str x) = true) : x.length ≤ PySem.sizeLine := by
  have h : (decide (x.length ≤ 100000) && PySem.PyData.strOk x) = true := h
  rw [Bool.and_eq_true, decide_eq_true_eq] at h
  have : (100000 : Nat) ≤ PySem.sizeLine := by decide
  omega
theorem dat_str {n : Nat} {x : PySem.Str} (h : dat n (.str x) = true) : leaf (.str x) = true := by cases n <;> exact h
theorem dat_isi {n : Nat} {d : D} (h : dat n d = true) (t : TyN) : ∃ b, ∀ S, isiD S d t = some b := by
  cases d <;> first | exact ⟨_, fun _ => rfl⟩ | (cases n <;> cases h)
end Lk
namespace Lk
open PyProof.Rows L2 Ip
/-! ### texts as lists of signs -/
abbrev mk (l : List Nat) : PySem.Str := ⟨⟨l⟩⟩
theorem mk_inj {a b : List Nat} : (mk a = mk b) ↔ a = b := by simp [mk]
theorem mk_app (a b : List Nat) : (mk a ++ mk b : PySem.Str) = mk (a ++ b) := TL.ext_tl (by rw [TL.tl_append])
theorem mk_tl (x : PySem.Str) : x = mk (TL.tl x) := TL.ext_tl rfl
/-! ### runs as a type of their own, and which events can be put into one row -/
abbrev Ch : Type := Nat × Int
inductive Ev where
  | step (cs : List Ch) | send (l : Int) (cs : List Ch) | take (l : Int) (cs : List Ch)
abbrev Rn : Type := List (List Ev)
def evAt (rows : Rn) (p i : Nat) : Option Ev := (rows.getD p [])[i]?
/-- the letter was sent in the first d events -/
def Sent (rows : Rn) (d : Nat → Nat) (l : Int) : Prop := ∃ p i cs, i < d p ∧ evAt rows p i = some (.send l cs)
/-- the next event of p can be added -/
def Nxt (rows : Rn) (d : Nat → Nat) (p : Nat) : Prop := ∃ e, evAt rows p (d p) = some e ∧ ∀ l cs, e = .take l cs → Sent rows d l
def bump (d : Nat → Nat) (p : Nat) : Nat → Nat := fun q => if q = p then d q + 1 else d q
inductive Reach (rows : Rn) : (Nat → Nat) → Prop
  | zero : Reach rows (fun _ => 0)
  | step {d : Nat → Nat} {p : Nat} : Reach rows d → Nxt rows d p → Reach rows (bump d p)
theorem Sent.mono {rows : Rn} {d d' : Nat → Nat} {l : Int} (h : ∀ q, d q ≤ d' q) : Sent rows d l → Sent rows d' l := fun ⟨p, i, cs, hi, e⟩ => ⟨p, i, cs, Nat.lt_of_lt_of_le hi (h p), e⟩
theorem bump_same {d : Nat → Nat} {p : Nat} : bump d p p = d p + 1 := by simp [bump]
theorem bump_ne {d : Nat → Nat} {p q : Nat} (h : q ≠ p) : bump d p q = d q := by simp [bump, h]
theorem bump_le {d : Nat → Nat} {p : Nat} (q : Nat) : d q ≤ bump d p q := by unfold bump; split <;> omega
theorem Reach.le_stuck {rows : Rn} {d d' : Nat → Nat} (h : Reach rows d) (hs : ∀ p, ¬ Nxt rows d' p) : ∀ q, d q ≤ d' q := by
  induction h with
  | zero => intro q; exact Nat.zero_le _
  | step r en ih =>
    rename_i d p
    intro q
    by_cases hq : q = p
    · subst hq
      rw [bump_same]
      by_cases c : d q = d' q
      · exfalso
        obtain ⟨e, he, ht⟩ := en
        exact hs q ⟨e, by rw [← c]; exact he, fun l cs z => (ht l cs z).mono ih⟩
      · have := ih q; omega
    · rw [bump_ne hq]; exact ih q
theorem Reach.le_len {rows : Rn} {d : Nat → Nat} (h : Reach rows d) : ∀ q, d q ≤ (rows.getD q []).length := by
  induction h with
  | zero => intro q; exact Nat.zero_le _
  | step r en ih =>
    rename_i d p
    intro q
    by_cases hq : q = p
    · subst hq
      obtain ⟨e, he, _⟩ := en
      have := (List.getElem?_eq_some_iff.mp he).1
      rw [bump_same]; omega
    · rw [bump_ne hq]; exact ih q
def Full (rows : Rn) (d : Nat → Nat) : Prop := ∀ p, d p = (rows.getD p []).length
/-- all events can be put into one row -/
def Poss (rows : Rn) : Prop := ∃ d, Reach rows d ∧ Full rows d
theorem poss_stuck {rows : Rn} {d : Nat → Nat} (h : Reach rows d) (hs : ∀ p, ¬ Nxt rows d p) : Poss rows ↔ Full rows d := by
  constructor
  · rintro ⟨f, rf, hf⟩ p
    have a := rf.le_stuck hs p
    have b := h.le_len p
    rw [hf p] at a
    omega
  · exact fun f => ⟨d, h, f⟩
/-- the number of events -/
def tot (n : Nat) (d : Nat → Nat) : Nat := ((List.range n).map d).sum
theorem tot_succ {n : Nat} {d : Nat → Nat} : tot (n + 1) d = tot n d + d n := by
  unfold tot; rw [List.range_succ, List.map_append, List.sum_append]; simp
theorem tot_mono {d d' : Nat → Nat} (h : ∀ q, d q ≤ d' q) : ∀ n, tot n d ≤ tot n d'
  | 0 => Nat.le_refl _
  | n + 1 => by rw [tot_succ, tot_succ]; have := tot_mono h n; have := h n; omega
theorem tot_bump {d : Nat → Nat} {p : Nat} : ∀ n, p < n → tot n (bump d p) = tot n d + 1
  | 0, h => by omega
  | n + 1, h => by
    rw [tot_succ, tot_succ]
    by_cases c : p = n
    · subst c
      have : ∀ m, m ≤ p → tot m (bump d p) = tot m d := by
        intro m
        induction m with
        | zero => intro _; rfl
        | succ m ih => intro hm; rw [tot_succ, tot_succ, ih (by omega), bump_ne (by omega)]
      rw [this p (Nat.le_refl _), bump_same]; omega
    · rw [tot_bump n (by omega), bump_ne (by omega)]; omega
theorem tot_eq {d d' : Nat → Nat} (h : ∀ q, d q ≤ d' q) : ∀ {n : Nat}, tot n d = tot n d' → ∀ q, q < n → d q = d' q
  | 0, _, q, hq => by omega
  | n + 1, e, q, hq => by
    rw [tot_succ, tot_succ] at e
    have a := tot_mono h n
    have b := h n
    by_cases c : q = n
    · subst c; omega
    · exact tot_eq h (n := n) (by omega) q (by omega)
def lens (rows : Rn) : Nat → Nat := fun p => (rows.getD p []).length
theorem full_iff {rows : Rn} {d : Nat → Nat} (h : Reach rows d) : Full rows d ↔ tot rows.length d = tot rows.length (lens rows) := by
  constructor
  · intro f
    have : d = lens rows := funext f
    rw [this]
  · intro e p
    by_cases hp : p < rows.length
    · exact tot_eq (d' := lens rows) h.le_len e p hp
    · have := h.le_len p
      have e0 : (rows.getD p []) = [] := by rw [List.getD_eq_getElem?_getD, List.getElem?_eq_none (by omega)]; rfl
      rw [e0] at this ⊢
      simp at this ⊢
      exact this
theorem en_lt {rows : Rn} {d : Nat → Nat} {p : Nat} (h : Nxt rows d p) : p < rows.length := by
  obtain ⟨e, he, _⟩ := h
  refine Classical.byContradiction fun c => ?_
  unfold evAt at he
  have e0 : (rows.getD p []) = [] := by rw [List.getD_eq_getElem?_getD, List.getElem?_eq_none (by omega)]; rfl
  rw [e0] at he
  simp at he
/-! ### is_possible -/
def chD (q : Ch) : D := .tup [.str (mk [q.1]), .int q.2]
def csD (cs : List Ch) : D := .tup (cs.map chD)
def Ev.d : Ev → D
  | .step cs => .tup [.str "step", csD cs]
  | .send l cs => .tup [.str "send", .int l, csD cs]
  | .take l cs => .tup [.str "take", .int l, csD cs]
def rowD (r : List Ev) : D := .tup (r.map Ev.d)
def rnD (rows : Rn) : D := .tup (rows.map rowD)
def kt (ks : List Int) : Ob := .dct 0 (ks.map .int) (ks.map fun _ => .bl true)
def dl (n : Nat) (d : Nat → Nat) : List D := (List.range n).map fun p => .int (d p)
def stt (ks : List Int) (n : Nat) (d : Nat → Nat) : Sto := [kt ks, .lst (dl n d)]
def insK (l : Int) (ks : List Int) : List Int := if l ∈ ks then ks else ks ++ [l]
theorem lookK_kt (l : Int) : ∀ ks : List Int, lookK kKey (.inl l) (ks.map .int) (ks.map fun _ => .bl true) = if l ∈ ks then some (.bl true) else none
  | [] => rfl
  | a :: ks => by
    rw [List.map_cons, List.map_cons, lookK_c, lookK_kt l ks, kKey_i]
    by_cases h : a = l
    · subst h; simp
    · have h2 : ¬ (some (Sum.inl a : Key) = some (Sum.inl l)) := by simp [h]
      rw [if_neg h2]
      simp only [List.mem_cons, show ¬ (l = a) from fun e => h e.symm, false_or]
theorem repV_kt (l : Int) : ∀ ks : List Int, repV kKey (.inl l) (.bl true) (ks.map .int) (ks.map fun _ => .bl true) = ks.map fun _ => .bl true
  | [] => rfl
  | a :: ks => by
    rw [List.map_cons, List.map_cons, repV, repV_kt l ks]
    split <;> rfl
theorem putS_kt {ks : List Int} {n : Nat} {d : Nat → Nat} {l : Int} {env : En} (h : ks.length ≤ 1000) : putS 0 (.int l) (.bl true) env (stt ks n d) = some (.nx env (stt (insK l ks) n d)) := by
  have e0 : (stt ks n d)[0]? = some (.dct 0 (ks.map .int) (ks.map fun _ => .bl true)) := rfl
  unfold putS
  rw [e0]
  simp only
  rw [if_pos (by rw [List.length_map, PySem.sizeLine_eq]; omega)]
  have e1 : dPut (0, ks.map D.int, ks.map fun _ => D.bl true) (.int l) (.bl true) = some ((insK l ks).map .int, (insK l ks).map fun _ => .bl true) := by
    show some (putW kKey (.inl l) (.int l) (.bl true) (ks.map .int) (ks.map fun _ => .bl true)) = _
    unfold putW insK
    rw [lookK_kt]
    by_cases c : l ∈ ks
    · rw [if_pos c, if_pos c, repV_kt]; rfl
    · rw [if_neg c, if_neg c]; simp
  rw [e1]; rfl
theorem dl_len {n : Nat} {d : Nat → Nat} : (dl n d).length = n := by simp [dl]
theorem dl_get {n p : Nat} {d : Nat → Nat} (h : p < n) : (dl n d)[p]? = some (.int (d p)) := by
  unfold dl; rw [List.getElem?_map, List.getElem?_range h]; rfl
theorem dl_set {n p : Nat} {d : Nat → Nat} (h : p < n) : (dl n d).set p (.int ((d p : Int) + 1)) = dl n (bump d p) := by
  refine List.ext_getElem? fun q => ?_
  by_cases c : q < n
  · rw [dl_get c]
    by_cases e : p = q
    · subst e
      rw [List.getElem?_set_self (by rw [dl_len]; exact h), bump_same]
      congr 2
    · rw [List.getElem?_set_ne e, dl_get c, bump_ne (fun z => e z.symm)]
  · rw [List.getElem?_eq_none (by rw [List.length_set, dl_len]; omega), List.getElem?_eq_none (by rw [dl_len]; omega)]
theorem ixD_done {ks : List Int} {n p : Nat} {d : Nat → Nat} (h : p < n) : ixD (stt ks n d) (.ref 1) (.int (p : Int)) = some (.int (d p)) := by
  rw [ixD_ref (xs := dl n d) rfl, atI_nn, dl_get h]
theorem sent_in {ks : List Int} {n : Nat} {d : Nat → Nat} {l : Int} : inD (stt ks n d) (.int l) (.ref 0) = some (decide (l ∈ ks)) := by
  rw [inD_dref (t := 0) (ks := ks.map .int) (vs := ks.map fun _ => .bl true) rfl, dGet_0i, lookK_kt]
  by_cases c : l ∈ ks <;> simp [c]
theorem aug_done (k : Nat) {ks : List Int} {n p : Nat} {d : Nat → Nat} (h : p < n) {v0 v1 v3 v4 v5 v7 : Option D} :
    exec (C k) T0 (.augS (.v 2) (.v 6) .add (.c (.int 1))) [v0, v1, some (.ref 1), v3, v4, v5, some (.int (p : Int)), v7] (stt ks n d) = some (.nx [v0, v1, some (.ref 1), v3, v4, v5, some (.int (p : Int)), v7] (stt ks n (bump d p))) := by
  have g : getL (stt ks n d) 1 = some (dl n d) := rfl
  have a : atI (dl n d) (p : Int) = some (.int (d p)) := by rw [atI_nn, dl_get h]
  have i : ixN (dl n d).length (p : Int) = some p := by
    rw [dl_len]
    unfold ixN
    simp
    omega
  have s : (stt ks n d).set 1 (.lst ((dl n d).set p (.int ((d p : Int) + 1)))) = stt ks n (bump d p) := by
    rw [dl_set h]; rfl
  simp [g, a, i, augI, s]
end Lk
namespace Lk
open PyProof.Rows L2 Ip
/-! ### is_possible's loops -/
def KS (rows : Rn) (d : Nat → Nat) (ks : List Int) : Prop := (∀ l, l ∈ ks ↔ Sent rows d l) ∧ ks.length ≤ tot rows.length d
theorem sent_bump {rows : Rn} {d : Nat → Nat} {p : Nat} {e : Ev} (he : evAt rows p (d p) = some e) (l : Int) : Sent rows (bump d p) l ↔ Sent rows d l ∨ ∃ cs, e = .send l cs := by
  constructor
  · rintro ⟨q, i, cs, hi, h⟩
    by_cases c : q = p
    · subst c
      rw [bump_same] at hi
      by_cases c2 : i = d q
      · subst c2
        rw [he] at h
        exact .inr ⟨cs, Option.some.inj h⟩
      · exact .inl ⟨q, i, cs, by omega, h⟩
    · rw [bump_ne c] at hi
      exact .inl ⟨q, i, cs, hi, h⟩
  · rintro (h | ⟨cs, rfl⟩)
    · exact h.mono bump_le
    · exact ⟨p, d p, cs, by rw [bump_same]; omega, he⟩
theorem KS.none {rows : Rn} {d : Nat → Nat} {ks : List Int} {p : Nat} {e : Ev} (h : KS rows d ks) (hp : p < rows.length) (he : evAt rows p (d p) = some e) (hn : ∀ l cs, e ≠ .send l cs) : KS rows (bump d p) ks :=
  ⟨fun l => by rw [h.1 l, sent_bump he]; exact ⟨.inl, fun z => z.elim id fun ⟨cs, z⟩ => absurd z (hn l cs)⟩, by rw [tot_bump _ hp]; have := h.2; omega⟩
theorem KS.send {rows : Rn} {d : Nat → Nat} {ks : List Int} {p : Nat} {l : Int} {cs : List Ch} (h : KS rows d ks) (hp : p < rows.length) (he : evAt rows p (d p) = some (.send l cs)) : KS rows (bump d p) (insK l ks) := by
  refine ⟨fun m => ?_, ?_⟩
  · rw [sent_bump he, ← h.1 m]
    unfold insK
    by_cases c : l ∈ ks
    · rw [if_pos c]
      constructor
      · exact .inl
      · rintro (z | ⟨cs', z⟩)
        · exact z
        · injection z with z _; rw [← z]; exact c
    · rw [if_neg c, List.mem_append, List.mem_singleton]
      constructor
      · rintro (z | rfl)
        · exact .inl z
        · exact .inr ⟨cs, rfl⟩
      · rintro (z | ⟨cs', z⟩)
        · exact .inl z
        · injection z with z _; exact .inr z.symm
  · rw [tot_bump _ hp]
    have := h.2
    unfold insK
    split
    · omega
    · rw [List.length_append, List.length_singleton]; omega
/-- the slots of is_possible -/
def pe (rows : Rn) (T : Int) (r : Option D) (mv : Bool) (v6 v7 : Option D) (d : Nat → Nat) : Ip.En := [some (rnD rows), some (.ref 0), some (.ref 1), some (.int (T - tot rows.length d)), r, some (.bl mv), v6, v7]
def Small (rows : Rn) : Prop := rows.length ≤ 6 ∧ ∀ p, (rows.getD p []).length ≤ 30
theorem tot_le {n : Nat} {d : Nat → Nat} {m : Nat} (h : ∀ q, d q ≤ m) : tot n d ≤ m * n := by
  induction n with
  | zero => exact Nat.zero_le _
  | succ n ih => rw [tot_succ, Nat.mul_succ]; have := h n; omega
theorem small_tot {rows : Rn} {d : Nat → Nat} (hs : Small rows) (h : Reach rows d) : tot rows.length d ≤ 180 := by
  have a := tot_le (n := rows.length) (d := d) (m := 30) (fun q => Nat.le_trans (h.le_len q) (hs.2 q))
  have b := hs.1
  have : 30 * rows.length ≤ 30 * 6 := Nat.mul_le_mul_left _ b
  omega
theorem l_take : ¬ (PySem.Str.ofString "step" = PySem.Str.ofString "take") := by decide +kernel
end Lk
namespace Lk
open PyProof.Rows L2 Ip
/-! ### is_integer, is_variable, is_changes, is_event -/
def isInt : D → Int → Int → Bool
  | .int i, l, g => decide (l ≤ i) && decide (i ≤ g)
  | _, _, _ => false
theorem is_integer_ok (k : Nat) (n : Nat) (d : D) (l g : Int) (S : Sto) (h : dat n d = true) : C (k + 1) i_is_integer [d, .int l, .int g] S = some (.ok (.bl (isInt d l g)) S) := by
  rw [c_is_integer]
  cases d with
  | int i => by_cases c : l ≤ i <;> simp [b_is_integer, isInt, c]
  | _ => first | (simp [b_is_integer, isInt]; done) | (cases n <;> cases h)
/-- one of the signs a to d -/
def varC (x : PySem.Str) : Bool := match x.cps.toList with
  | [c] => decide (97 ≤ c ∧ c ≤ 100)
  | _ => false
def isVar : D → Bool
  | .str x => varC x
  | _ => false
theorem str_one {x : PySem.Str} (h : x.length = 1) : ∃ c, x = ⟨#[c]⟩ := by
  obtain ⟨⟨l⟩⟩ := x
  have h : l.length = 1 := h
  obtain ⟨c, rfl⟩ := List.length_eq_one_iff.mp h
  exact ⟨c, rfl⟩
theorem is_variable_ok (k n : Nat) (d : D) (S : Sto) (h : dat n d = true) : C (k + 1) i_is_variable [d] S = some (.ok (.bl (isVar d)) S) := by
  rw [c_is_variable]
  cases d with
  | str x =>
    have hl := str_len (dat_str h)
    by_cases h1 : x.length = 1
    · obtain ⟨c, rfl⟩ := str_one h1
      have e : inD S (.str ⟨#[c]⟩) (.str "abcd") = some (decide (c ∈ [97, 98, 99, 100])) := by
        show some (!(PySem.Builtin.Str.occurrences "abcd" ⟨#[c]⟩ 0 (PySem.Str.ofString "abcd").length 1).isEmpty) = _
        rw [PySem.StrLaws.found_one]
        rw [show (PySem.Str.ofString "abcd").cps.toList = [97, 98, 99, 100] by decide +kernel]
      have e2 : (decide (c ∈ [97, 98, 99, 100])) = decide (97 ≤ c ∧ c ≤ 100) := by
        rw [decide_eq_decide]
        simp only [List.mem_cons, List.not_mem_nil, or_false]
        omega
      rw [e2] at e
      simp [b_is_variable, isVar, varC, biD_lenS hl, e, show (PySem.Str.mk #[c]).length = 1 from rfl]
    · have e : varC x = false := by
        unfold varC
        split
        · rename_i c' hc
          exact absurd (by show x.cps.size = 1; rw [← Array.length_toList, hc]; rfl) h1
        · rfl
      have c' : ¬ ((x.length : Int) = 1) := by omega
      simp [b_is_variable, isVar, e, biD_lenS hl, c']
  | _ => first | (simp [b_is_variable, isVar]; done) | (cases n <;> cases h)

/-! #### changes: strictly ascending variables, values in bounds -/
def chgNext (last : PySem.Str) : D → Option PySem.Str
  | .tup [.str z, x] => if varC z && (ltS last z && isInt x (-1000) 1000) then some z else none
  | _ => none
def chg : PySem.Str → List D → Bool
  | _, [] => true
  | last, c :: r => match chgNext last c with
    | some z => chg z r
    | none => false
def isChg : D → Bool
  | .tup xs => chg "" xs
  | _ => false
theorem chg_step (k n : Nat) (v : D) (last : PySem.Str) (c : D) (S : Sto) (h : dat (n + 1) c = true) :
    execs (C (k + 1)) T0 l_is_changes_1 [some v, some (.str last), some c] S =
      (match chgNext last c with
      | some z => some (.nx [some v, some (.str z), some c] S)
      | none => some (.rt (.bl false) S)) := by
  cases c with
  | tup xs =>
    replace h := (dat_tup.mp h).2
    match xs, h with
    | [], _ => simp [chgNext, l_is_changes_1]
    | [a], _ => simp [chgNext, l_is_changes_1]
    | [a, x], h =>
      simp only [List.all_cons, List.all_nil, Bool.and_true, Bool.and_eq_true] at h
      obtain ⟨ha, hx⟩ := h
      have e1 := callP_t (S := S) (dats_pure n [a] (by simp [ha])) (is_variable_ok k n a [] ha) rfl
      have e2 := callP_t (S := S) (by simp [pures, dat_pure n x hx, D.pure]) (is_integer_ok k n x (-1000) 1000 [] hx) rfl
      cases a with
      | str z =>
        cases hz : varC z with
        | false => simp [chgNext, l_is_changes_1, e1, isVar, hz]
        | true =>
          cases hl : ltS last z with
          | true => cases hi : isInt x (-1000) 1000 <;> simp [chgNext, l_is_changes_1, e1, isVar, hz, e2, hi, hl]
          | false => simp [chgNext, l_is_changes_1, e1, isVar, hz, hl]
      | _ => first | (simp [chgNext, l_is_changes_1, e1, isVar]; done) | (cases n <;> cases ha)
    | a :: b :: c :: r, _ =>
      have : ¬ ((r.length : Int) + 1 + 1 + 1 = 2) := by omega
      simp [chgNext, l_is_changes_1, this]
  | _ => first | (simp [chgNext, l_is_changes_1]; done) | cases h

theorem chg_loop (k n : Nat) (v : D) (S : Sto) : ∀ (xs : List D) (last : PySem.Str) (c0 : Option D), xs.all (dat (n + 1)) = true → ∃ e, forL (.n 2) (fun e S => execs (C (k + 1)) T0 l_is_changes_1 e S) xs [some v, some (.str last), c0] S =
      if chg last xs then some (.nx e S) else some (.rt (.bl false) S)
  | [], last, c0, _ => ⟨[some v, some (.str last), c0], by simp [forL, chg]⟩
  | c :: xs, last, c0, h => by
    rw [List.all_cons, Bool.and_eq_true] at h
    have st := chg_step k n v last c S h.1
    simp only [forL, asgT, List.set_cons_succ, List.set_cons_zero]
    rw [st]
    unfold chg
    cases hc : chgNext last c with
    | none => exact ⟨[], by simp⟩
    | some z => exact chg_loop k n v S xs z (some c) h.2
theorem is_changes_ok (k n : Nat) (d : D) (S : Sto) (h : dat (n + 2) d = true) : C (k + 2) i_is_changes [d] S = some (.ok (.bl (isChg d)) S) := by
  rw [c_is_changes]
  cases d with
  | tup xs =>
    replace h := (dat_tup.mp h).2
    obtain ⟨e, he⟩ := chg_loop k n (.tup xs) S xs "" none h
    cases hc : chg "" xs <;> simp [b_is_changes, he, hc, isChg]
  | _ => first | (simp [b_is_changes, isChg]; done) | cases h
/-- send or take -/
def isST (z : PySem.Str) : Bool := decide (z = "send") || decide (z = "take")
def isEv : D → Bool
  | .tup [.str k, c] => decide (k = "step") && isChg c
  | .tup [.str k, l, c] => isST k && (isInt l 1 999 && isChg c)
  | _ => false
theorem step_ne : isST "step" = false := by decide +kernel
theorem st_in {S : Sto} (z : PySem.Str) : inD S (.str z) (.tup [.str "send", .str "take"]) = some (isST z) := by
  have e : inD S (.str z) (.tup [.str "send", .str "take"]) = some (([D.str "send", .str "take"]).any fun y => eqF y (.str z)) := rfl
  rw [e]
  congr 1
  unfold isST
  rw [Bool.eq_iff_iff]
  show (decide (PySem.Str.ofString "send" = z) || (decide (PySem.Str.ofString "take" = z) || false)) = true ↔ _
  simp only [Bool.or_false, Bool.or_eq_true, decide_eq_true_eq]
  constructor <;> rintro (h | h) <;> first | exact .inl h.symm | exact .inr h.symm
theorem is_event_ok (k n : Nat) (d : D) (S : Sto) (hn : n + 3 ≤ 64) (h : dat (n + 3) d = true) : C (k + 3) i_is_event [d] S = some (.ok (.bl (isEv d)) S) := by
  rw [c_is_event]
  cases d with
  | tup xs =>
    have h0 := eqD_nil (S := S) hn h
    replace h := (dat_tup.mp h).2
    match xs, h with
    | [], _ => simp [b_is_event, h0, isEv, isNil]
    | a :: r, h =>
      rw [List.all_cons, Bool.and_eq_true] at h
      cases a with
      | str z =>
        have nl : isNil (.tup (.str z :: r)) = false := rfl
        match r, h.2 with
        | [], _ =>
          by_cases hz : z = "step"
          · subst hz; simp [b_is_event, h0, nl, isEv]
          · cases hs : isST z <;> simp [b_is_event, h0, nl, isEv, hz, st_in, hs]
        | [c], h2 =>
          simp only [List.all_cons, List.all_nil, Bool.and_true] at h2
          have e1 := callP_t (S := S) (dats_pure (n + 2) [c] (by simp [h2])) (is_changes_ok k n c [] h2) rfl
          by_cases hz : z = "step"
          · subst hz; simp [b_is_event, h0, nl, isEv, e1]
          · cases hs : isST z <;> simp [b_is_event, h0, nl, isEv, hz, st_in, hs]
        | [l, c], h2 =>
          simp only [List.all_cons, List.all_nil, Bool.and_true, Bool.and_eq_true] at h2
          have e1 := callP_t (S := S) (dats_pure (n + 2) [c] (by simp [h2.2])) (is_changes_ok k n c [] h2.2) rfl
          have e2 := callP_t (S := S) (by simp [pures, dat_pure (n + 2) l h2.1, D.pure]) (is_integer_ok (k + 1) (n + 2) l 1 999 [] h2.1) rfl
          by_cases hz : z = "step"
          · subst hz; simp [b_is_event, h0, nl, isEv, step_ne]
          · cases hs : isST z <;> cases hi : isInt l 1 999 <;> simp [b_is_event, h0, nl, isEv, hz, st_in, hs, e1, e2, hi]
        | a :: b :: c :: r, _ =>
          have l3 : ¬ ((r.length : Int) + 1 + 1 + 1 + 1 = 3) := by omega
          have l2 : ¬ ((r.length : Int) + 1 + 1 + 1 + 1 = 2) := by omega
          by_cases hz : z = "step"
          · subst hz; simp [b_is_event, h0, nl, isEv, l2]
          · cases hs : isST z <;> simp [b_is_event, h0, nl, isEv, hz, st_in, hs, l3]
      | _ => first | (simp [b_is_event, h0, isNil, isEv]; done) | (cases h.1)
  | _ => first | (simp [b_is_event, isEv]; done) | cases h
end Lk
namespace Lk
open PyProof.Rows L2 Ip
/-! ### is_run -/
theorem lc2_so {Γ : Gam} {T : Ip.Tab} {S : Sto} {env : En} {m : Bool} {own : List (PySem.Str × Nat)} {i j : Nat} {it it1 : Ip.Itr} {vs : List Nat} {c x : Ex} {xs : List D} (g : D → List D) (p : D → Bool) (f : D → D) (hi : evalI Γ T it env S = some (.ok xs S))
    (hy : ∀ y ∈ xs, evalI Γ T it1 ((wipeE env (own.map (·.2))).set i (some y)) S = some (.ok (g y) S))
    (hc : ∀ y ∈ xs, ∀ z ∈ g y, evalT Γ T c ((wipeE ((wipeE env (own.map (·.2))).set i (some y)) vs).set j (some z)) S = some (.ok (p z) S))
    (hx : ∀ y ∈ xs, ∀ z ∈ g y, p z = true → evalE Γ T x ((wipeE ((wipeE env (own.map (·.2))).set i (some y)) vs).set j (some z)) S = some (.ok (f z) S))
    (hl : (xs.map fun y => (g y).length).sum ≤ 16777216) : evalE Γ T (.lc2 m own (.n i) it .no vs (.n j) it1 (.so c) x) env S = mkL m (xs.flatMap fun y => ((g y).filter p).map f) S := by
  have q : ∀ l : List D, l.filterMap (fun y => if p y then some (f y) else none) = (l.filter p).map f := by
    intro l
    induction l with
    | nil => rfl
    | cons a l ih => cases h : p a <;> simp [h, ih]
  have key : ∀ (ys : List D) (acc : List D), (∀ y ∈ ys, y ∈ xs) → acc.length + (ys.map fun y => (g y).length).sum ≤ 16777216 →
      lcLoop2 (fun x' S acc => match asgT (.n i) x' (wipeE env (own.map (·.2))) with
        | some env1 => bnd (evalC Γ T .no env1 S) fun b S2 => match b with
          | true => bnd (evalI Γ T it1 env1 S2) fun ys S3 => if acc.length + ys.length ≤ PySem.sizeLine then lcLoop (fun x' S => match asgT (.n j) x' (wipeE env1 vs) with
            | some env2 => bnd (evalC Γ T (.so c) env2 S) fun b S4 => match b with
              | true => bnd (evalE Γ T x env2 S4) fun y S5 => some (.ok (some y) S5)
              | false => some (.ok none S4)
            | none => none) ys S3 acc else none
          | false => some (.ok acc S2)
        | none => none) ys S acc = some (.ok (acc ++ ys.flatMap fun y => ((g y).filter p).map f) S) := by
    intro ys
    induction ys with
    | nil => intro acc _ _; simp [lcLoop2]
    | cons y ys ih =>
      intro acc hm hlen
      have hyx := hm y (List.mem_cons_self ..)
      rw [List.map_cons, List.sum_cons] at hlen
      have fl : (((g y).filter p).map f).length ≤ (g y).length := by rw [List.length_map]; exact List.length_filter_le _ _
      have ih := ih (acc ++ ((g y).filter p).map f) (fun z hz => hm z (List.mem_cons_of_mem _ hz)) (by rw [List.length_append]; omega)
      have inner := lcLoop_map (S := S) (turn := fun x' S => match asgT (.n j) x' (wipeE ((wipeE env (own.map (·.2))).set i (some y)) vs) with
            | some env2 => bnd (evalC Γ T (.so c) env2 S) fun b S4 => match b with
              | true => bnd (evalE Γ T x env2 S4) fun y S5 => some (.ok (some y) S5)
              | false => some (.ok none S4)
            | none => none) (f := fun y => if p y then some (f y) else none) (g y) acc (fun z hz => by
        simp only [asg_n, evalC]
        rw [hc y hyx z hz]
        simp only [bnd_ok]
        cases hp : p z with
        | true => simp only [if_true]; rw [hx y hyx z hz hp]; rfl
        | false => simp)
      rw [q] at inner
      simp only [lcLoop2, asg_n, evalC, bnd_ok, hy y hyx]
      rw [if_pos (by rw [PySem.sizeLine_eq]; omega)]
      simp only [asg_n, evalC] at inner
      rw [inner]
      simp only
      rw [List.flatMap_cons, ← List.append_assoc]
      simp only [asg_n, evalC, bnd_ok] at ih
      exact ih
  rw [evalE, hi]
  simp only [bnd_ok]
  refine (congrArg (fun z => bnd z fun ys S2 => mkL m ys S2) (key xs [] (fun _ h => h) (by simpa using hl))).trans ?_
  rw [List.nil_append]
  rfl
def sendsR (r : List Ev) : List Int := r.filterMap fun e => match e with
  | .send l _ => some l
  | _ => none
def takesR (r : List Ev) : List Int := r.filterMap fun e => match e with
  | .take l _ => some l
  | _ => none
def sends (rows : Rn) : List Int := rows.flatMap sendsR
def takes (rows : Rn) : List Int := rows.flatMap takesR
def itemsD : D → List D
  | .tup es => es
  | _ => []
def kindIs (z : PySem.Str) : D → Bool
  | .tup (.str w :: _) => decide (w = z)
  | _ => false
def snd3 : D → D
  | .tup [_, l, _] => l
  | _ => .non
theorem sends_eq (r : List Ev) : ((r.map Ev.d).filter (kindIs "send")).map snd3 = (sendsR r).map .int := by
  induction r with
  | nil => rfl
  | cons e r ih => cases e <;> simp [Ev.d, kindIs, snd3, sendsR] <;> exact ih
theorem takes_eq (r : List Ev) : ((r.map Ev.d).filter (kindIs "take")).map snd3 = (takesR r).map .int := by
  induction r with
  | nil => rfl
  | cons e r ih => cases e <;> simp [Ev.d, kindIs, snd3, takesR] <;> exact ih
theorem small_sum {rows : Rn} (hs : Small rows) : ((rows.map rowD).map fun y => (itemsD y).length).sum ≤ 16777216 := by
  have h2 : ∀ r ∈ rows, r.length ≤ 30 := fun r hr => by
    obtain ⟨p, hp, e⟩ := List.getElem_of_mem hr
    have := hs.2 p
    rw [List.getD_eq_getElem?_getD, List.getElem?_eq_getElem hp, e] at this
    exact this
  have : ∀ rs : Rn, (∀ r ∈ rs, r.length ≤ 30) → ((rs.map rowD).map fun y => (itemsD y).length).sum ≤ 30 * rs.length := by
    intro rs
    induction rs with
    | nil => intro _; simp
    | cons r rs ih =>
      intro h
      have a := h r (List.mem_cons_self ..)
      have b := ih fun z hz => h z (List.mem_cons_of_mem _ hz)
      simp only [List.map_cons, List.sum_cons, List.length_cons, Nat.mul_succ]
      have : (itemsD (rowD r)).length = r.length := by simp [itemsD, rowD]
      omega
  have := this rows h2
  have b := hs.1
  have : 30 * rows.length ≤ 30 * 6 := Nat.mul_le_mul_left _ b
  omega
theorem ev_kind (e : Ev) (z : PySem.Str) (U : Sto) : ∃ w r, e.d = .tup (.str w :: r) := by
  cases e <;> exact ⟨_, _, rfl⟩
end Lk
namespace Lk
open PyProof.Rows L2 Ip
/-! #### the whole of is_run -/
def chOk (q : Ch) : Prop := (97 ≤ q.1 ∧ q.1 ≤ 100) ∧ -1000 ≤ q.2 ∧ q.2 ≤ 1000
def Ev.cs : Ev → List Ch
  | .step cs => cs
  | .send _ cs => cs
  | .take _ cs => cs
def Ev.ok (e : Ev) : Prop := ((∀ q ∈ e.cs, chOk q) ∧ e.cs.length ≤ 4) ∧ ∀ l, (∃ cs, e = .send l cs) ∨ (∃ cs, e = .take l cs) → 1 ≤ l ∧ l ≤ 999
theorem int_of {d : D} {l g : Int} (h : isInt d l g = true) : ∃ i, d = .int i ∧ l ≤ i ∧ i ≤ g := by
  cases d <;> simp [isInt] at h
  exact ⟨_, rfl, h.1, h.2⟩
theorem chg_cs : ∀ (xs : List D) (last : PySem.Str) (a : Nat), 96 ≤ a → (∀ v, ltS last (mk [v]) = true → 97 ≤ v → a < v) → chg last xs = true → ∃ cs : List Ch, xs = cs.map chD ∧ (∀ q ∈ cs, chOk q) ∧ cs.length ≤ 100 - a
  | [], _, _, _, _, _ => ⟨[], rfl, (fun q h => by cases h), Nat.zero_le _⟩
  | c :: xs, last, a, ha, hl, h => by
    unfold chg at h
    split at h
    · rename_i z hz
      unfold chgNext at hz
      split at hz
      · rename_i w x
        split at hz
        · rename_i hb
          cases hz
          simp only [Bool.and_eq_true] at hb
          obtain ⟨h1, h2, h3⟩ := hb
          obtain ⟨i, rfl, i1, i2⟩ := int_of h3
          unfold varC at h1
          split at h1
          · rename_i v e
            have h1 := of_decide_eq_true h1
            have ew : z = mk [v] := by rw [mk_tl z]; show mk z.cps.toList = _; rw [e]
            subst ew
            have av := hl v h2 h1.1
            obtain ⟨cs, rfl, hc, hlen⟩ := chg_cs xs (mk [v]) v (by omega) (fun u hu _ => by
              unfold ltS at hu
              have hu := of_decide_eq_true hu
              have hu : [v] < [u] := hu
              rcases List.cons_lt_cons_iff.mp hu with hu | ⟨_, hu⟩
              · exact hu
              · exact absurd hu (List.not_lt_nil _)) h
            refine ⟨(v, i) :: cs, rfl, fun q hq => ?_, by rw [List.length_cons]; omega⟩
            rcases List.mem_cons.mp hq with rfl | hq
            · exact ⟨h1, i1, i2⟩
            · exact hc q hq
          · cases h1
        · cases hz
      · cases hz
    · cases h
theorem isChg_cs {d : D} (h : isChg d = true) : ∃ cs : List Ch, d = csD cs ∧ (∀ q ∈ cs, chOk q) ∧ cs.length ≤ 4 := by
  cases d with
  | tup xs =>
    obtain ⟨cs, rfl, hc, hl⟩ := chg_cs xs "" 96 (Nat.le_refl _) (fun v _ h => by omega) h
    exact ⟨cs, rfl, hc, hl⟩
  | _ => cases h
theorem isEv_ev {d : D} (h : isEv d = true) : ∃ e : Ev, d = e.d ∧ e.ok := by
  unfold isEv at h
  split at h
  · rename_i z c
    rw [Bool.and_eq_true, decide_eq_true_eq] at h
    obtain ⟨rfl, h⟩ := h
    obtain ⟨cs, rfl, hc⟩ := isChg_cs h
    exact ⟨.step cs, rfl, hc, fun l z => by rcases z with ⟨_, z⟩ | ⟨_, z⟩ <;> cases z⟩
  · rename_i z l c
    simp only [Bool.and_eq_true] at h
    obtain ⟨h1, h2, h3⟩ := h
    obtain ⟨i, rfl, i1, i2⟩ := int_of h2
    obtain ⟨cs, rfl, hc⟩ := isChg_cs h3
    unfold isST at h1
    simp only [Bool.or_eq_true, decide_eq_true_eq] at h1
    rcases h1 with rfl | rfl
    · exact ⟨.send i cs, rfl, hc, fun l z => by rcases z with ⟨_, z⟩ | ⟨_, z⟩ <;> cases z; exact ⟨i1, i2⟩⟩
    · exact ⟨.take i cs, rfl, hc, fun l z => by rcases z with ⟨_, z⟩ | ⟨_, z⟩ <;> cases z; exact ⟨i1, i2⟩⟩
  · cases h
theorem evs_of : ∀ {xs : List D}, xs.all isEv = true → ∃ r : List Ev, xs = r.map Ev.d ∧ ∀ e ∈ r, e.ok
  | [], _ => ⟨[], rfl, fun e h => by cases h⟩
  | x :: xs, h => by
    rw [List.all_cons, Bool.and_eq_true] at h
    obtain ⟨e, rfl, he⟩ := isEv_ev h.1
    obtain ⟨r, rfl, hr⟩ := evs_of h.2
    exact ⟨e :: r, rfl, fun z hz => by
      rcases List.mem_cons.mp hz with rfl | hz
      · exact he
      · exact hr z hz⟩
def rowB : D → Bool
  | .tup es => decide (es.length ≤ 30) && es.all isEv
  | _ => false
def shB : D → Bool
  | .tup rs => isInt (.int rs.length) 1 6 && rs.all rowB
  | _ => false
theorem rowB_tup {es : List D} : rowB (.tup es) = (decide (es.length ≤ 30) && es.all isEv) := rfl
theorem shB_tup {rs : List D} : shB (.tup rs) = (isInt (.int rs.length) 1 6 && rs.all rowB) := rfl
def RunShape (rows : Rn) : Prop := (1 ≤ rows.length ∧ rows.length ≤ 6) ∧ ∀ r ∈ rows, r.length ≤ 30 ∧ ∀ e ∈ r, e.ok
theorem rows_of : ∀ {xs : List D}, xs.all rowB = true → ∃ rows : Rn, xs = rows.map rowD ∧ ∀ r ∈ rows, r.length ≤ 30 ∧ ∀ e ∈ r, e.ok
  | [], _ => ⟨[], rfl, fun e h => by cases h⟩
  | x :: xs, h => by
    rw [List.all_cons, Bool.and_eq_true] at h
    obtain ⟨rows, rfl, hr⟩ := rows_of h.2
    have h1 := h.1
    cases x with
    | tup es =>
      unfold rowB at h1
      rw [Bool.and_eq_true, decide_eq_true_eq] at h1
      obtain ⟨r, rfl, he⟩ := evs_of h1.2
      refine ⟨r :: rows, rfl, fun z hz => ?_⟩
      rcases List.mem_cons.mp hz with rfl | hz
      · exact ⟨by have := h1.1; rw [List.length_map] at this; exact this, he⟩
      · exact hr z hz
    | _ => cases h1
theorem shB_rn {d : D} (h : shB d = true) : ∃ rows : Rn, d = rnD rows ∧ RunShape rows := by
  cases d with
  | tup rs =>
    unfold shB at h
    rw [Bool.and_eq_true] at h
    obtain ⟨rows, rfl, hr⟩ := rows_of h.2
    have h1 := h.1
    simp [isInt] at h1
    exact ⟨rows, rfl, ⟨by omega, by omega⟩, hr⟩
  | _ => cases h
theorem RunShape.small {rows : Rn} (h : RunShape rows) : Small rows := by
  refine ⟨h.1.2, fun p => ?_⟩
  by_cases c : p < rows.length
  · rw [List.getD_eq_getElem?_getD, List.getElem?_eq_getElem c]
    exact (h.2 _ (List.getElem_mem c)).1
  · rw [List.getD_eq_getElem?_getD, List.getElem?_eq_none (by omega)]
    exact Nat.zero_le _
def LetOk (rows : Rn) : Prop := (sends rows).Nodup ∧ (takes rows).Nodup
/-- what a run is -/
def IsRun (d : D) : Prop := shB d = true ∧ ∀ rows, d = rnD rows → LetOk rows ∧ Poss rows
theorem chD_pure (cs : List Ch) : pures (cs.map chD) = true := by
  induction cs with
  | nil => rfl
  | cons q cs ih => rw [List.map_cons, pures, ih]; rfl
theorem Ev.pure (e : Ev) : e.d.pure = true := by
  cases e <;> simp [Ev.d, csD, D.pure, pures, chD_pure]
theorem evs_pure (r : List Ev) : pures (r.map Ev.d) = true := by
  induction r with
  | nil => rfl
  | cons e r ih => rw [List.map_cons, pures, ih, Ev.pure]; rfl
theorem rows_pure' (rows : Rn) : pures (rows.map rowD) = true := by
  induction rows with
  | nil => rfl
  | cons e r ih => rw [List.map_cons, pures, ih, rowD, D.pure, evs_pure]; rfl
theorem rn_pure (rows : Rn) : (rnD rows).pure = true := by rw [rnD, D.pure, rows_pure']
theorem rnD_inj {a b : Rn} (h : rnD a = rnD b) : a = b := by
  have chi : ∀ {x y : Ch}, chD x = chD y → x = y := fun {x y} h => by
    obtain ⟨x1, x2⟩ := x
    obtain ⟨y1, y2⟩ := y
    simp [chD] at h
    rw [h.1, h.2]
  have csi : ∀ {x y : List Ch}, csD x = csD y → x = y := fun {x y} h => by
    injection h with h
    exact (List.map_inj_right (fun _ _ => chi)).mp h
  have evi : ∀ {x y : Ev}, x.d = y.d → x = y := fun {x y} h => by
    have n1 : ¬ (PySem.Str.ofString "send" = PySem.Str.ofString "take") := by decide +kernel
    have n2 : ¬ (PySem.Str.ofString "take" = PySem.Str.ofString "send") := by decide +kernel
    cases x <;> cases y <;> simp [Ev.d] at h
    · rw [csi h]
    · rw [h.1, csi h.2]
    · rw [h.1, csi h.2]
  have roi : ∀ {x y : List Ev}, rowD x = rowD y → x = y := fun {x y} h => by
    injection h with h
    exact (List.map_inj_right (fun _ _ => evi)).mp h
  injection h with h
  exact (List.map_inj_right (fun _ _ => roi)).mp h
end Lk
namespace Lk
open PyProof.Rows L2 Ip
/-! ### the law's helpers -/
theorem pds_ints : ∀ ns : List Int, pds (ns.map D.int) = some (ns.map PySem.PyData.int)
  | [] => rfl
  | n :: ns => by rw [List.map_cons, pds, pds_ints ns]; rfl
theorem lay_ints : ∀ ns : List Int, PySem.PyData.canLayAll0 (ns.map PySem.PyData.int) = true
  | [] => by simp [PySem.PyData.canLayAll0]
  | n :: ns => by simp [PySem.PyData.canLayAll0, PySem.PyData.canLay0, lay_ints ns]
theorem dep_ints : ∀ ns : List Int, PySem.PyData.depthAll (ns.map PySem.PyData.int) ≤ 1
  | [] => by simp [PySem.PyData.depthAll]
  | n :: ns => by have := dep_ints ns; simp [PySem.PyData.depthAll, PySem.PyData.depth]; omega
theorem ints_in {S : Sto} (l : Int) (ns : List Int) : inD S (.int l) (.lst (ns.map .int)) = some (decide (l ∈ ns)) := by
  have r1 : (ns.map D.int).map (res1 S) = ns.map D.int := by
    rw [List.map_map]
    exact List.map_congr_left fun _ _ => rfl
  have r2 : pd (res2 S (.lst (ns.map .int))) = some (.list (ns.map PySem.PyData.int)) := by
    show (pds ((ns.map D.int).map (res1 S))).map PySem.PyData.list = _
    rw [r1, pds_ints]; rfl
  have sh : PySem.SeqAt.shaped (.list (ns.map PySem.PyData.int)) = true := by
    unfold PySem.SeqAt.shaped
    have d := dep_ints ns
    rw [Bool.and_eq_true]
    refine ⟨by simp [PySem.PyData.canLay0, lay_ints ns], ?_⟩
    simp [PySem.PyData.depth]
    omega
  have sl : PySem.SeqAt.shaped (.int l) = true := by
    unfold PySem.SeqAt.shaped
    simp [PySem.PyData.canLay0, PySem.PyData.depth]
  show (match pd (.int l), pd (res2 S (.lst (ns.map .int))) with
    | some a, some (.list b) => if PySem.SeqAt.shaped a = true ∧ PySem.SeqAt.shaped (.list b) = true then some (b.any fun z => PySem.PyData.eqv z a) else none
    | _, _ => none) = _
  rw [r2]
  show (if PySem.SeqAt.shaped (.int l) = true ∧ PySem.SeqAt.shaped (.list (ns.map PySem.PyData.int)) = true then some ((ns.map PySem.PyData.int).any fun z => PySem.PyData.eqv z (.int l)) else none) = _
  rw [if_pos ⟨sl, sh⟩]
  congr 1
  rw [Bool.eq_iff_iff, List.any_eq_true, decide_eq_true_eq]
  constructor
  · rintro ⟨z, hz, e⟩
    obtain ⟨n, hn, rfl⟩ := List.mem_map.mp hz
    simp [PySem.PyData.eqv] at e
    rw [← e]; exact hn
  · intro h
    exact ⟨_, List.mem_map.mpr ⟨l, h, rfl⟩, by simp [PySem.PyData.eqv]⟩
theorem ints_pure : ∀ l : List Int, pures (l.map D.int) = true
  | [] => rfl
  | a :: l => by rw [List.map_cons, pures, ints_pure l]; rfl
theorem le2 : (0 + 1 + 1 ≤ PySem.sizeLine) := by rw [PySem.sizeLine_eq]; decide
theorem le3 : (0 + 1 + 1 + 1 ≤ PySem.sizeLine) := by rw [PySem.sizeLine_eq]; decide
theorem one_sl : (0 + 1 ≤ PySem.sizeLine) := by rw [PySem.sizeLine_eq]; decide
theorem ex_go {Γ : Gam} {T : Ip.Tab} {s : Stm} {r : Stms} {env E : Ip.En} {S U : Sto} (h : exec Γ T s env S = some (.nx E U)) : execs Γ T (.cons s r) env S = execs Γ T r E U := by
  rw [execs, h, seqS_nx]
theorem gt_of {S : Sto} {i : Nat} {o : Ob} (h : S[i]? = some o) (T : Sto) : (S ++ T)[i]? = some o := by
  rw [List.getElem?_append_left (List.getElem?_eq_some_iff.mp h).1]; exact h
/-! ### the drawing -/
structure Bs where
  (a b c : Int)
def Bs.ob (s : Bs) : Ob := .lst [.int s.a, .int s.b, .int s.c]
def Bs.wet (s : Bs) : Bs := if s.a = 0 then
    let seed := (s.b * 48271 + s.c * 69621 + 11) % 2147483647
    ⟨seed * 2147483629 + (seed * seed + s.c * 16807) % 2147483629, seed, s.c⟩
  else s
def dr (m : Int) (s : Bs) : Int := s.wet.a % m
def nx (m : Int) (s : Bs) : Bs := ⟨s.wet.a / m, s.wet.b, s.wet.c⟩
def bS (n : Nat) (s : Bs) (S : Sto) : Sto := S.set n s.ob
theorem dr_low {m : Int} (s : Bs) (h : 0 < m) : 0 ≤ dr m s := Int.emod_nonneg _ (by omega)
theorem dr_top {m : Int} (s : Bs) (h : 0 < m) : dr m s < m := Int.emod_lt_of_pos _ h
section
variable {n : Nat} {S : Sto} {s : Bs}
@[simp] theorem bS_len : (bS n s S).length = S.length := by simp [bS]
theorem bS_app {T : Sto} (h : n < S.length) : bS n s S ++ T = bS n s (S ++ T) := by
  unfold bS; rw [List.set_append_left _ _ h]
theorem bS_at (h : n < S.length) : (bS n s S)[n]? = some s.ob := by simp [bS, h]
theorem bS_ne {j : Nat} (h : n ≠ j) : (bS n s S)[j]? = S[j]? := by simp [bS, h]
theorem bS_set {j : Nat} {o : Ob} (h : n ≠ j) : (bS n s S).set j o = bS n s (S.set j o) := by
  unfold bS; rw [List.set_comm _ _ h]
@[simp] theorem bS_bS {t : Bs} : bS n t (bS n s S) = bS n t S := by simp [bS]
theorem bS_fold (a b c : Int) : (bS n s S).set n (.lst [.int a, .int b, .int c]) = bS n ⟨a, b, c⟩ S := by simp [bS, Bs.ob]
theorem bS_get (h : n < S.length) : getL (bS n s S) n = some [.int s.a, .int s.b, .int s.c] := getL_eq (bS_at h)
theorem draw_ok (k : Nat) (n : Nat) (s : Bs) (S : Sto) (m : Int) (h : n < S.length) (h0 : 0 < m) (h1 : m < 1073741824) :
    C (k + 1) i__law_draw [.ref n, .int m] (bS n s S) = some (.ok (.int (dr m s)) (bS n (nx m s) S)) := by
  rw [c__law_draw]
  have i0 : ∀ (t : Bs) (j : Int), ixD (bS n t S) (.ref n) (.int j) = atI [.int t.a, .int t.b, .int t.c] j := fun t j => ixD_ref (bS_at h)
  have m0 : ∀ (U : Sto) (i : Int), binD .mul false (.int i) (.int 48271) U = some (.ok (.int (i * 48271)) U) := fun U i => binD_mul (.inr (by decide))
  have m1 : ∀ (U : Sto) (i : Int), binD .mul false (.int i) (.int 69621) U = some (.ok (.int (i * 69621)) U) := fun U i => binD_mul (.inr (by decide))
  have m2 : ∀ (U : Sto) (i : Int), binD .mul false (.int i) (.int 2147483629) U = some (.ok (.int (i * 2147483629)) U) := fun U i => binD_mul (.inr (by decide))
  have m3 : ∀ (U : Sto) (i : Int), binD .mul false (.int i) (.int 16807) U = some (.ok (.int (i * 16807)) U) := fun U i => binD_mul (.inr (by decide))
  have n0 : ixN 3 0 = some 0 := rfl
  have n1 : ixN 3 1 = some 1 := rfl
  by_cases ha : s.a = 0
  · have m4 : ∀ (U : Sto) (i : Int), binD .mul false (.int (i % 2147483647)) (.int (i % 2147483647)) U = some (.ok (.int (i % 2147483647 * (i % 2147483647))) U) := fun U i => binD_mul (.inl (by omega))
    simp [b__law_draw, i0, m0, m1, m2, m3, m4, ha, binD_mod, binD_fdiv, h0, h1, bS_get h, n0, n1, bS_fold, dr, nx, Bs.wet]
  · simp [b__law_draw, i0, ha, binD_mod, binD_fdiv, h0, h1, bS_get h, n0, n1, bS_fold, dr, nx, Bs.wet]
end
theorem at_last (S : Sto) (o : Ob) : (S ++ [o])[S.length]? = some o := by simp
theorem set_last (S : Sto) (o o' : Ob) : (S ++ [o]).set S.length o' = S ++ [o'] := by
  rw [List.set_append_right _ _ (Nat.le_refl _), Nat.sub_self]; rfl
theorem app_lt {n : Nat} {S : Sto} (h : n < S.length) (T : Sto) : n < (S ++ T).length := by rw [List.length_append]; omega
theorem pk_ok {P : D → Prop} {l : List D} {i : Int} (h0 : 0 ≤ i) (h : i < l.length) (hp : ∀ d ∈ l, P d) : P (pk l i) := hp _ (pk_mem h0 h)
theorem pk_dr {P : D → Prop} {l : List D} {m : Int} {s : Bs} (h0 : 0 < m) (h : m ≤ l.length) (hp : ∀ d ∈ l, P d) : P (pk l (dr m s)) := pk_ok (dr_low s h0) (by have := dr_top s h0; omega) hp
theorem at_dr {l : List D} {m : Int} {s : Bs} (h0 : 0 < m) (h : m ≤ l.length) : atI l (dr m s) = some (pk l (dr m s)) := atI_pk (dr_low s h0) (by have := dr_top s h0; omega)
theorem bag_ok (k : Nat) (ns : List Int) (j : Nat) (S : Sto) : ∃ s, C (k + 1) i__law_bag [.scr ns, .int j] S = some (.ok (.ref S.length) (bS S.length s (S ++ [.lst []]))) := by
  rw [c__law_bag]
  have e : ∀ a b c : Int, bS S.length ⟨a, b, c⟩ (S ++ [.lst []]) = S ++ [.lst [.int a, .int b, .int c]] := fun a b c => by
    unfold bS; rw [set_last]; rfl
  by_cases h : (j : Int) < ns.length
  · have hj : j < ns.length := by omega
    have g : atI (ns.map D.int) (j : Int) = some (.int ns[j]) := by rw [atI_nn, List.getElem?_map, List.getElem?_eq_getElem hj]; rfl
    by_cases hc : (1000000000000000000 : Int) ≤ ns[j]
    · refine ⟨⟨ns[j], ns[j], j⟩, ?_⟩
      rw [e]
      simp [b__law_bag, h, g, binD_pow, hc, hj]
    · refine ⟨⟨0, ns[j], j⟩, ?_⟩
      rw [e]
      simp [b__law_bag, h, g, binD_pow, hc, hj]
  · refine ⟨⟨0, 0, j⟩, ?_⟩
    rw [e]
    have hj : ¬ j < ns.length := by omega
    simp [b__law_bag, h, binD_pow, hj]
/-! ### what the law draws -/
theorem abcd_it : itD (.str "abcd") = some [.str ⟨#[97]⟩, .str ⟨#[98]⟩, .str ⟨#[99]⟩, .str ⟨#[100]⟩] := by
  rw [itD_str, show (PySem.Str.ofString "abcd").cps.toList = [97, 98, 99, 100] by decide +kernel]; rfl
theorem abcd_cps : (PySem.Str.ofString "abcd").cps.toList = [97, 98, 99, 100] := by decide +kernel
end Lk
namespace Lk
open PyProof.Rows L2 Ip
/-! ### drawn changes are changes -/
theorem lt_one {a b : Nat} : ltS (mk [a]) (mk [b]) = decide (a < b) := by
  unfold ltS
  rw [decide_eq_decide]
  show [a] < [b] ↔ a < b
  rw [List.cons_lt_cons_iff]
  constructor
  · rintro (h | ⟨_, h⟩)
    · exact h
    · exact absurd h (List.not_lt_nil _)
  · exact .inl
theorem lt_nil {b : Nat} : ltS "" (mk [b]) = true := by
  unfold ltS
  exact decide_eq_true (List.nil_lt_cons _ _)
theorem chg_of : ∀ (cs : List Ch) (last : PySem.Str), (∀ q ∈ cs, chOk q) → (cs.map (·.1)).Pairwise (· < ·) → (∀ q ∈ cs, ltS last (mk [q.1]) = true) → chg last (cs.map chD) = true
  | [], _, _, _, _ => rfl
  | q :: cs, last, h, hp, hl => by
    rw [List.map_cons, List.pairwise_cons] at hp
    have hq := h q (List.mem_cons_self ..)
    have ih := chg_of cs (mk [q.1]) (fun z hz => h z (List.mem_cons_of_mem _ hz)) hp.2 (fun z hz => by
      rw [lt_one]
      exact decide_eq_true (hp.1 z.1 (List.mem_map.mpr ⟨z, hz, rfl⟩)))
    have l1 := hl q (List.mem_cons_self ..)
    have v1 : varC (mk [q.1]) = true := decide_eq_true (p := 97 ≤ q.1 ∧ q.1 ≤ 100) hq.1
    have i1 : isInt (.int q.2) (-1000) 1000 = true := by
      obtain ⟨_, h1, h2⟩ := hq
      simp [isInt, h1, h2]
    have nx : chgNext last (chD q) = some (mk [q.1]) := by
      show (if varC (mk [q.1]) && (ltS last (mk [q.1]) && isInt (.int q.2) (-1000) 1000) then some (mk [q.1]) else none) = _
      rw [v1, l1, i1]; rfl
    rw [List.map_cons, chg, nx]
    exact ih
/-- changes as the document wants them -/
def CsOk (cs : List Ch) : Prop := (∀ q ∈ cs, chOk q) ∧ (cs.map (·.1)).Pairwise (· < ·) ∧ cs.length ≤ 4
theorem CsOk.chg {cs : List Ch} (h : CsOk cs) : isChg (csD cs) = true := chg_of cs "" h.1 h.2.1 fun _ _ => lt_nil
/-! ### rows of events that grow -/
def addE (rows : Rn) (p : Nat) (e : Ev) : Rn := rows.set p (rows.getD p [] ++ [e])
theorem addE_len {rows : Rn} {p : Nat} {e : Ev} : (addE rows p e).length = rows.length := by simp [addE]
theorem getD_add {rows : Rn} {p : Nat} {e : Ev} (hp : p < rows.length) (q : Nat) : (addE rows p e).getD q [] = if q = p then rows.getD p [] ++ [e] else rows.getD q [] := by
  unfold addE
  rw [List.getD_eq_getElem?_getD]
  by_cases h : q = p
  · subst h
    rw [if_pos rfl, List.getElem?_set_self hp]
    rfl
  · rw [if_neg h, List.getElem?_set_ne (fun z => h z.symm), ← List.getD_eq_getElem?_getD]
theorem evAt_add {rows : Rn} {p : Nat} {e : Ev} (hp : p < rows.length) {q i : Nat} {x : Ev} (h : evAt rows q i = some x) : evAt (addE rows p e) q i = some x := by
  unfold evAt at h ⊢
  rw [getD_add hp]
  split
  · rename_i hq
    subst hq
    rw [List.getElem?_append_left (List.getElem?_eq_some_iff.mp h).1]
    exact h
  · exact h
theorem evAt_new {rows : Rn} {p : Nat} {e : Ev} (hp : p < rows.length) : evAt (addE rows p e) p (rows.getD p []).length = some e := by
  unfold evAt
  rw [getD_add hp, if_pos rfl, List.getElem?_append_right (Nat.le_refl _), Nat.sub_self]
  rfl
theorem Reach.add {rows : Rn} {p : Nat} {e : Ev} (hp : p < rows.length) {d : Nat → Nat} (h : Reach rows d) : Reach (addE rows p e) d := by
  induction h with
  | zero => exact .zero
  | step r en ih =>
    obtain ⟨x, hx, ht⟩ := en
    refine .step ih ⟨x, evAt_add hp hx, fun l cs z => ?_⟩
    obtain ⟨q, i, cs', hi, hs⟩ := ht l cs z
    exact ⟨q, i, cs', hi, evAt_add hp hs⟩
theorem lens_add {rows : Rn} {p : Nat} {e : Ev} (hp : p < rows.length) : lens (addE rows p e) = bump (lens rows) p := by
  funext q
  unfold lens bump
  rw [getD_add hp]
  split
  · rename_i hq
    subst hq
    rw [List.length_append]; rfl
  · rfl
theorem mem_sendsR {r : List Ev} {l : Int} : l ∈ sendsR r ↔ ∃ cs, Ev.send l cs ∈ r := by
  unfold sendsR
  rw [List.mem_filterMap]
  constructor
  · rintro ⟨e, he, h⟩
    cases e with
    | send m cs => cases h; exact ⟨cs, he⟩
    | step cs => cases h
    | take m cs => cases h
  · rintro ⟨cs, h⟩; exact ⟨_, h, rfl⟩
theorem mem_takesR {r : List Ev} {l : Int} : l ∈ takesR r ↔ ∃ cs, Ev.take l cs ∈ r := by
  unfold takesR
  rw [List.mem_filterMap]
  constructor
  · rintro ⟨e, he, h⟩
    cases e with
    | take m cs => cases h; exact ⟨cs, he⟩
    | step cs => cases h
    | send m cs => cases h
  · rintro ⟨cs, h⟩; exact ⟨_, h, rfl⟩
theorem evAt_mem {rows : Rn} {p i : Nat} {e : Ev} (h : evAt rows p i = some e) : ∃ r ∈ rows, e ∈ r := by
  unfold evAt at h
  by_cases c : p < rows.length
  · have e0 : rows.getD p [] = rows[p] := by rw [List.getD_eq_getElem?_getD, List.getElem?_eq_getElem c]; rfl
    rw [e0] at h
    exact ⟨rows[p], List.getElem_mem c, List.mem_of_getElem? h⟩
  · have e0 : rows.getD p [] = [] := by rw [List.getD_eq_getElem?_getD, List.getElem?_eq_none (by omega)]; rfl
    rw [e0] at h
    simp at h
theorem mem_evAt {rows : Rn} {r : List Ev} {e : Ev} (hr : r ∈ rows) (he : e ∈ r) : ∃ p i, evAt rows p i = some e := by
  obtain ⟨p, hp, rfl⟩ := List.getElem_of_mem hr
  obtain ⟨i, hi, rfl⟩ := List.getElem_of_mem he
  refine ⟨p, i, ?_⟩
  unfold evAt
  rw [List.getD_eq_getElem?_getD, List.getElem?_eq_getElem hp]
  exact List.getElem?_eq_getElem hi
theorem mem_sends {rows : Rn} {l : Int} : l ∈ sends rows ↔ ∃ p i cs, evAt rows p i = some (.send l cs) := by
  unfold sends
  rw [List.mem_flatMap]
  constructor
  · rintro ⟨r, hr, h⟩
    obtain ⟨cs, hc⟩ := mem_sendsR.mp h
    obtain ⟨p, i, z⟩ := mem_evAt hr hc
    exact ⟨p, i, cs, z⟩
  · rintro ⟨p, i, cs, h⟩
    obtain ⟨r, hr, he⟩ := evAt_mem h
    exact ⟨r, hr, mem_sendsR.mpr ⟨cs, he⟩⟩
theorem mem_takes {rows : Rn} {l : Int} : l ∈ takes rows ↔ ∃ p i cs, evAt rows p i = some (.take l cs) := by
  unfold takes
  rw [List.mem_flatMap]
  constructor
  · rintro ⟨r, hr, h⟩
    obtain ⟨cs, hc⟩ := mem_takesR.mp h
    obtain ⟨p, i, z⟩ := mem_evAt hr hc
    exact ⟨p, i, cs, z⟩
  · rintro ⟨p, i, cs, h⟩
    obtain ⟨r, hr, he⟩ := evAt_mem h
    exact ⟨r, hr, mem_takesR.mpr ⟨cs, he⟩⟩
theorem evAt_lt {rows : Rn} {p i : Nat} {e : Ev} (h : evAt rows p i = some e) : i < lens rows p := (List.getElem?_eq_some_iff.mp h).1
theorem sent_all {rows : Rn} {l : Int} : Sent rows (lens rows) l ↔ l ∈ sends rows := by
  rw [mem_sends]
  exact ⟨fun ⟨p, i, cs, _, h⟩ => ⟨p, i, cs, h⟩, fun ⟨p, i, cs, h⟩ => ⟨p, i, cs, evAt_lt h, h⟩⟩
theorem reach_add {rows : Rn} {p : Nat} {e : Ev} (hp : p < rows.length) (h : Reach rows (lens rows)) (ht : ∀ l cs, e = .take l cs → l ∈ sends rows) : Reach (addE rows p e) (lens (addE rows p e)) := by
  rw [lens_add hp]
  refine .step (h.add hp) ⟨e, evAt_new hp, fun l cs z => ?_⟩
  obtain ⟨q, i, cs', hi, hs⟩ := sent_all.mpr (ht l cs z)
  exact ⟨q, i, cs', hi, evAt_add hp hs⟩
theorem flat_add (f : List Ev → List Int) (hf : ∀ a b, f (a ++ b) = f a ++ f b) : ∀ (rows : Rn) (p : Nat) (e : Ev), p < rows.length → ((addE rows p e).flatMap f).Perm (f [e] ++ rows.flatMap f)
  | [], p, e, h => absurd h (Nat.not_lt_zero _)
  | r :: rows, 0, e, h => by
    show (f (r ++ [e]) ++ rows.flatMap f).Perm (f [e] ++ (f r ++ rows.flatMap f))
    rw [hf, ← List.append_assoc]
    exact List.Perm.append_right _ List.perm_append_comm
  | r :: rows, p + 1, e, h => by
    have ih := flat_add f hf rows p e (by simpa using h)
    show (f r ++ (addE rows p e).flatMap f).Perm (f [e] ++ (f r ++ rows.flatMap f))
    refine (ih.append_left (f r)).trans ?_
    rw [← List.append_assoc, ← List.append_assoc]
    exact List.Perm.append_right _ List.perm_append_comm
theorem sends_add {rows : Rn} {p : Nat} {e : Ev} (hp : p < rows.length) : (sends (addE rows p e)).Perm (sendsR [e] ++ sends rows) := flat_add sendsR (fun a b => by simp [sendsR]) rows p e hp
theorem takes_add {rows : Rn} {p : Nat} {e : Ev} (hp : p < rows.length) : (takes (addE rows p e)).Perm (takesR [e] ++ takes rows) := flat_add takesR (fun a b => by simp [takesR]) rows p e hp
/-! ### beginnings of runs -/
theorem reach_takes {rows : Rn} {q i : Nat} {x : Int} {cs : List Ch} (hi : evAt rows q i = some (.take x cs)) : ∀ {d : Nat → Nat}, Reach rows d → i < d q → Sent rows d x := fun {d} r => by
  induction r with
  | zero => intro z; exact absurd z (Nat.not_lt_zero _)
  | step r' en ih =>
    rename_i d' p'
    intro hq
    by_cases c : i < d' q
    · exact (ih c).mono bump_le
    · have e1 : q = p' := Classical.byContradiction fun n => by rw [bump_ne n] at hq; exact c hq
      subst e1
      rw [bump_same] at hq
      have e2 : i = d' q := by omega
      obtain ⟨y, hy, ht⟩ := en
      rw [← e2, hi] at hy
      exact (ht x cs (Option.some.inj hy).symm).mono bump_le
theorem getD_of {α : Type} {xs : List α} {d : α} {p : Nat} (h : p < xs.length) : xs.getD p d = xs[p] := by
  rw [List.getD_eq_getElem?_getD, List.getElem?_eq_getElem h]; rfl
theorem getD_no {α : Type} {xs : List α} {d : α} {p : Nat} (h : xs.length ≤ p) : xs.getD p d = d := by
  rw [List.getD_eq_getElem?_getD, List.getElem?_eq_none h]; rfl
theorem send_in {r : List Ev} {i : Nat} {l : Int} {cs : List Ch} (h : r[i]? = some (.send l cs)) : l ∈ sendsR r := mem_sendsR.mpr ⟨cs, List.mem_of_getElem? h⟩
/-- a letter is sent once -/
theorem uniq {rows : Rn} (hn : (sends rows).Nodup) {p i q j : Nat} {l : Int} {cs cs' : List Ch} (h1 : evAt rows p i = some (.send l cs)) (h2 : evAt rows q j = some (.send l cs')) : p = q ∧ i = j := by
  have lp : p < rows.length := Classical.byContradiction fun c => by
    unfold evAt at h1
    rw [getD_no (by omega)] at h1
    simp at h1
  have lq : q < rows.length := Classical.byContradiction fun c => by
    unfold evAt at h2
    rw [getD_no (by omega)] at h2
    simp at h2
  unfold evAt at h1 h2
  rw [getD_of lp] at h1
  rw [getD_of lq] at h2
  unfold sends List.Nodup at hn
  rw [List.pairwise_flatMap] at hn
  obtain ⟨a, b⟩ := hn
  rw [List.pairwise_iff_getElem] at b
  have e : p = q := by
    rcases Nat.lt_trichotomy p q with c | c | c
    · exact absurd rfl (b p q lp lq c l (send_in h1) l (send_in h2))
    · exact c
    · exact absurd rfl (b q p lq lp c l (send_in h2) l (send_in h1))
  subst e
  refine ⟨rfl, ?_⟩
  have z := a _ (List.getElem_mem lp)
  unfold sendsR at z
  rw [List.pairwise_filterMap, List.pairwise_iff_getElem] at z
  obtain ⟨i1, e1⟩ := List.getElem?_eq_some_iff.mp h1
  obtain ⟨j1, e2⟩ := List.getElem?_eq_some_iff.mp h2
  rcases Nat.lt_trichotomy i j with c | c | c
  · exact absurd rfl (z i j i1 j1 c l (by rw [e1]) l (by rw [e2]))
  · exact c
  · exact absurd rfl (z j i j1 i1 c l (by rw [e2]) l (by rw [e1]))
def cutF (rows : Rn) (κ : Nat → Nat) : Rn := (List.range rows.length).map fun p => (rows.getD p []).take (κ p)
theorem cut_getD {rows : Rn} {κ : Nat → Nat} (p : Nat) : (cutF rows κ).getD p [] = (rows.getD p []).take (κ p) := by
  unfold cutF
  by_cases c : p < rows.length
  · rw [getD_of (by simpa using c), List.getElem_map, List.getElem_range]
  · rw [getD_no (by simp; omega), getD_no (by omega)]
    simp
theorem cut_evAt {rows : Rn} {κ : Nat → Nat} {p i : Nat} : evAt (cutF rows κ) p i = if i < κ p then evAt rows p i else none := by
  unfold evAt
  rw [cut_getD, List.getElem?_take]
def TakesIn (rows : Rn) : Prop := ∀ l ∈ takes rows, l ∈ sends rows
theorem poss_takes {rows : Rn} (h : Poss rows) : TakesIn rows := fun l hl => by
  obtain ⟨d, hr, hf⟩ := h
  obtain ⟨p, i, cs, e⟩ := mem_takes.mp hl
  have hd : d = lens rows := funext hf
  subst hd
  exact sent_all.mp (reach_takes e hr (evAt_lt e))
theorem cut_reach {rows : Rn} {κ : Nat → Nat} (hn : (sends rows).Nodup) (ht : TakesIn (cutF rows κ)) {d : Nat → Nat} (h : Reach rows d) : Reach (cutF rows κ) (fun p => min (d p) (κ p)) := by
  induction h with
  | zero =>
    have : (fun p => min ((fun _ => 0 : Nat → Nat) p) (κ p)) = fun _ => 0 := funext fun p => Nat.zero_min _
    rw [this]; exact .zero
  | step r en ih =>
    rename_i d p
    by_cases c : d p < κ p
    · have e : (fun q => min (bump d p q) (κ q)) = bump (fun q => min (d q) (κ q)) p := by
        funext q
        unfold bump
        split
        · rename_i hq
          subst hq
          show min (d q + 1) (κ q) = min (d q) (κ q) + 1
          omega
        · rfl
      rw [e]
      obtain ⟨x, hx, hs⟩ := en
      have m1 : min (d p) (κ p) = d p := by omega
      have hx' : evAt (cutF rows κ) p (min (d p) (κ p)) = some x := by rw [cut_evAt, m1, if_pos c]; exact hx
      refine .step ih ⟨x, hx', fun l cs z => ?_⟩
      obtain ⟨q, i, cs', hi, hq⟩ := hs l cs z
      have lt : l ∈ takes (cutF rows κ) := mem_takes.mpr ⟨p, _, cs, by rw [← z]; exact hx'⟩
      obtain ⟨q2, i2, cs2, h2⟩ := mem_sends.mp (ht l lt)
      have h3 := h2
      rw [cut_evAt] at h3
      split at h3
      · rename_i c2
        obtain ⟨e1, e2⟩ := uniq hn hq h3
        subst e1 e2
        exact ⟨q, i, cs2, by show i < min (d q) (κ q); omega, h2⟩
      · cases h3
    · have e : (fun q => min (bump d p q) (κ q)) = fun q => min (d q) (κ q) := by
        funext q
        unfold bump
        split
        · rename_i hq; subst hq; omega
        · rfl
      rw [e]; exact ih
theorem cut_poss {rows : Rn} {κ : Nat → Nat} (hn : (sends rows).Nodup) (hr : Reach rows (lens rows)) : Poss (cutF rows κ) ↔ TakesIn (cutF rows κ) := by
  refine ⟨poss_takes, fun ht => ⟨_, cut_reach hn ht hr, fun p => ?_⟩⟩
  rw [cut_getD, List.length_take, Nat.min_comm]
  rfl
theorem flat_sub (f : List Ev → List Int) (hf : ∀ (l : List Ev) n, (f (l.take n)).Sublist (f l)) (rows : Rn) (κ : Nat → Nat) : ((cutF rows κ).flatMap f).Sublist (rows.flatMap f) := by
  have e : rows = (List.range rows.length).map fun p => rows.getD p [] := by
    refine List.ext_getElem? fun i => ?_
    rw [List.getElem?_map]
    by_cases c : i < rows.length
    · rw [List.getElem?_range c, List.getElem?_eq_getElem c]
      show some rows[i] = some (rows.getD i [])
      rw [getD_of c]
    · rw [List.getElem?_eq_none (by omega), List.getElem?_eq_none (by rw [List.length_range]; omega)]; rfl
  have key : ∀ L : List Nat, ((L.map fun p => (rows.getD p []).take (κ p)).flatMap f).Sublist ((L.map fun p => rows.getD p []).flatMap f) := by
    intro L
    induction L with
    | nil => exact .slnil
    | cons p L ih =>
      rw [List.map_cons, List.map_cons, List.flatMap_cons, List.flatMap_cons]
      exact (hf _ _).append ih
  have := key (List.range rows.length)
  rw [← e] at this
  exact this
theorem cut_let {rows : Rn} {κ : Nat → Nat} (h : LetOk rows) : LetOk (cutF rows κ) :=
  ⟨h.1.sublist (flat_sub sendsR (fun l n => (List.take_sublist n l).filterMap _) rows κ), h.2.sublist (flat_sub takesR (fun l n => (List.take_sublist n l).filterMap _) rows κ)⟩
/-- processes without events behind -/
theorem pad_getD (rows : Rn) (m p : Nat) : (rows ++ List.replicate m []).getD p [] = rows.getD p [] := by
  by_cases c : p < rows.length
  · rw [List.getD_eq_getElem?_getD, List.getElem?_append_left c, ← List.getD_eq_getElem?_getD]
  · rw [getD_no (by omega : rows.length ≤ p), List.getD_eq_getElem?_getD, List.getElem?_append_right (by omega), List.getElem?_replicate]
    split <;> rfl
theorem poss_eq {a b : Rn} (h : ∀ p, a.getD p [] = b.getD p []) : Poss a → Poss b := by
  have ev : ∀ p i, evAt a p i = evAt b p i := fun p i => by unfold evAt; rw [h]
  rintro ⟨d, hr, hf⟩
  refine ⟨d, ?_, fun p => by rw [← h]; exact hf p⟩
  clear hf
  induction hr with
  | zero => exact .zero
  | step r en ih =>
    obtain ⟨x, hx, hs⟩ := en
    refine .step ih ⟨x, by rw [← ev]; exact hx, fun l cs z => ?_⟩
    obtain ⟨q, i, cs', hi, hq⟩ := hs l cs z
    exact ⟨q, i, cs', hi, by rw [← ev]; exact hq⟩
theorem flat_pad (f : List Ev → List Int) (h0 : f [] = []) (rows : Rn) (m : Nat) : (rows ++ List.replicate m []).flatMap f = rows.flatMap f := by
  rw [List.flatMap_append]
  have : (List.replicate m ([] : List Ev)).flatMap f = [] := by
    rw [List.flatMap_eq_nil_iff]
    intro r hr
    rw [List.eq_of_mem_replicate hr, h0]
  rw [this, List.append_nil]
/-! #### rows of right events -/
def Good (rows : Rn) : Prop := ∀ r ∈ rows, r.length ≤ 30 ∧ ∀ e ∈ r, e.ok ∧ CsOk e.cs
theorem ev_isEv {e : Ev} (h : e.ok ∧ CsOk e.cs) : isEv e.d = true := by
  obtain ⟨⟨_, h3⟩, hc⟩ := h
  have cg := hc.chg
  cases e with
  | step cs =>
    show (decide (("step" : PySem.Str) = "step") && isChg (csD cs)) = true
    rw [show isChg (csD cs) = true from cg]
    simp
  | send i cs =>
    have hi := h3 i (.inl ⟨cs, rfl⟩)
    show (isST "send" && (isInt (.int i) 1 999 && isChg (csD cs))) = true
    rw [show isChg (csD cs) = true from cg, show isST "send" = true by decide +kernel]
    simp [isInt, hi.1, hi.2]
  | take i cs =>
    have hi := h3 i (.inr ⟨cs, rfl⟩)
    show (isST "take" && (isInt (.int i) 1 999 && isChg (csD cs))) = true
    rw [show isChg (csD cs) = true from cg, show isST "take" = true by decide +kernel]
    simp [isInt, hi.1, hi.2]
theorem Good.shape {rows : Rn} (h : Good rows) (h1 : 1 ≤ rows.length ∧ rows.length ≤ 6) : RunShape rows := ⟨h1, fun r hr => ⟨(h r hr).1, fun e he => ((h r hr).2 e he).1⟩⟩
theorem Good.sh {rows : Rn} (h : Good rows) (h1 : 1 ≤ rows.length ∧ rows.length ≤ 6) : shB (rnD rows) = true := by
  show (isInt (.int (rows.map rowD).length) 1 6 && (rows.map rowD).all rowB) = true
  rw [Bool.and_eq_true, List.all_eq_true]
  refine ⟨by simp [isInt]; omega, fun d hd => ?_⟩
  obtain ⟨r, hr, rfl⟩ := List.mem_map.mp hd
  show (decide ((r.map Ev.d).length ≤ 30) && (r.map Ev.d).all isEv) = true
  rw [Bool.and_eq_true, decide_eq_true_eq, List.length_map, List.all_eq_true]
  refine ⟨(h r hr).1, fun x hx => ?_⟩
  obtain ⟨e, he, rfl⟩ := List.mem_map.mp hx
  exact ev_isEv ((h r hr).2 e he)
theorem Good.isRun {rows : Rn} (h : Good rows) (h1 : 1 ≤ rows.length ∧ rows.length ≤ 6) : IsRun (rnD rows) ↔ LetOk rows ∧ Poss rows :=
  ⟨fun z => z.2 rows rfl, fun z => ⟨h.sh h1, fun rows' e => by rw [← rnD_inj e]; exact z⟩⟩
theorem Good.cut {rows : Rn} (h : Good rows) (κ : Nat → Nat) : Good (cutF rows κ) := fun r hr => by
  unfold cutF at hr
  obtain ⟨p, hp, rfl⟩ := List.mem_map.mp hr
  have hp := List.mem_range.mp hp
  rw [getD_of hp]
  obtain ⟨a, b⟩ := h _ (List.getElem_mem hp)
  exact ⟨by rw [List.length_take]; omega, fun e he => b e (List.mem_of_mem_take he)⟩
theorem Good.pad {rows : Rn} (h : Good rows) (m : Nat) : Good (rows ++ List.replicate m []) := fun r hr => by
  rcases List.mem_append.mp hr with hr | hr
  · exact h r hr
  · rw [List.eq_of_mem_replicate hr]
    exact ⟨Nat.zero_le _, fun e he => by cases he⟩
theorem one_leaf' {v : Nat} (h : 97 ≤ v ∧ v ≤ 100) : leaf (.str (mk [v])) = true := by
  have : v = 97 ∨ v = 98 ∨ v = 99 ∨ v = 100 := by omega
  rcases this with rfl | rfl | rfl | rfl <;> decide +kernel
theorem cs_dat {cs : List Ch} (h : ∀ q ∈ cs, chOk q) (hl : cs.length ≤ 4) : dat 2 (csD cs) = true := by
  refine dat_tup.mpr ⟨by rw [List.length_map]; omega, List.all_eq_true.mpr fun d hd => ?_⟩
  obtain ⟨q, hq, rfl⟩ := List.mem_map.mp hd
  refine dat_tup.mpr ⟨by simp, ?_⟩
  rw [List.all_cons, List.all_cons]
  show (leaf (.str (mk [q.1])) && _) = true
  rw [one_leaf' (h q hq).1]; rfl
theorem ev_dat {e : Ev} (h : e.ok) : dat 3 e.d = true := by
  obtain ⟨⟨h1, h2⟩, _⟩ := h
  have hc := cs_dat h1 h2
  cases e with
  | step cs =>
    refine dat_tup.mpr ⟨by simp, ?_⟩
    rw [List.all_cons, List.all_cons, show dat 2 (csD cs) = true from hc]
    decide +kernel
  | send i cs =>
    refine dat_tup.mpr ⟨by simp, ?_⟩
    rw [List.all_cons, List.all_cons, List.all_cons, show dat 2 (csD cs) = true from hc, dat_leaf (show leaf (.str "send") = true by decide +kernel)]
    rfl
  | take i cs =>
    refine dat_tup.mpr ⟨by simp, ?_⟩
    rw [List.all_cons, List.all_cons, List.all_cons, show dat 2 (csD cs) = true from hc, dat_leaf (show leaf (.str "take") = true by decide +kernel)]
    rfl
theorem rn_dat {rows : Rn} (h : RunShape rows) : dat 5 (rnD rows) = true := by
  refine dat_tup.mpr ⟨by rw [List.length_map]; have := h.1.2; omega, List.all_eq_true.mpr fun d hd => ?_⟩
  obtain ⟨r, hr, rfl⟩ := List.mem_map.mp hd
  refine dat_tup.mpr ⟨by rw [List.length_map]; have := (h.2 r hr).1; omega, List.all_eq_true.mpr fun x hx => ?_⟩
  obtain ⟨e, he, rfl⟩ := List.mem_map.mp hx
  exact ev_dat ((h.2 r hr).2 e he)
theorem meD_pop {S : Sto} {n : Nat} {xs : List D} {i : Int} {y : D} (h : S[n]? = some (.lst xs)) (h0 : 0 ≤ i) (hi : i < xs.length) (hy : xs[i.toNat]? = some y) (hz : xs.length ≤ 16777216) : meD .pop (.ref n) [.int i] S = some (.ok y (S.set n (.lst (xs.eraseIdx i.toNat)))) := by
  have e : ixN xs.length i = some i.toNat := by unfold ixN; rw [if_pos h0, if_pos hi]
  show (match getL S n with
    | some zs => match ixN zs.length i with
      | some k => match zs[k]? with
        | some y => if zs.length ≤ PySem.sizeLine then some (Ro.ok y (S.set n (.lst (zs.eraseIdx k)))) else none
        | none => none
      | none => none
    | _ => none) = _
  rw [getL_eq h]
  simp only [e, hy]
  rw [if_pos (by rw [PySem.sizeLine_eq]; exact hz)]
theorem tyM_pop {S : Sto} {n : Nat} {xs : List D} (h : S[n]? = some (.lst xs)) : tyM .pop (.ref n) S = true := by
  show (getL S n).isSome = true
  rw [getL_eq h]; rfl
theorem lenR {S : Sto} {n : Nat} {xs : List D} (h : S[n]? = some (.lst xs)) : biD .len [.ref n] S = some (.int xs.length) := by
  show (match dctD S (.ref n) with
    | some q => if q.1 = 0 then some (D.int q.2.1.length) else none
    | none => (seqD S (.ref n)).map fun (xs : List D) => D.int xs.length) = _
  rw [dctD_lst h]
  show ((getL S n).map fun (xs : List D) => D.int xs.length) = _
  rw [getL_eq h]; rfl
theorem erase_map {α β : Type} (f : α → β) : ∀ (xs : List α) (i : Nat), (xs.map f).eraseIdx i = (xs.eraseIdx i).map f
  | [], _ => rfl
  | x :: xs, 0 => rfl
  | x :: xs, i + 1 => by
    show f x :: (xs.map f).eraseIdx i = f x :: (xs.eraseIdx i).map f
    rw [erase_map f xs i]
/-! ### the law's drawn runs are runs -/
def refs (b c : Nat) : List D := (List.range c).map fun i => .ref (b + i)
theorem refs_at {b c : Nat} {i : Int} (h0 : 0 ≤ i) (h : i < c) : atI (refs b c) i = some (.ref (b + i.toNat)) := by
  obtain ⟨j, rfl⟩ : ∃ j : Nat, i = (j : Int) := ⟨i.toNat, by omega⟩
  rw [atI_nn]
  unfold refs
  rw [List.getElem?_map, List.getElem?_range (by omega)]
  simp
theorem rg_len : ∀ (n : Nat) (i : Int), (rg i n).length = n
  | 0, _ => rfl
  | n + 1, i => by rw [rg, List.length_cons, rg_len n]
end Lk
namespace Lk
open PyProof.Rows L2 Ip
/-! ### drawn changes are changes -/
/-- changes as the document wants them -/
theorem value_in (k n : Nat) (s : Bs) (S : Sto) (hn : n < S.length) : ∃ i s', C (k + 2) i__law_value [.ref n] (bS n s S) = some (.ok (.int i) (bS n s' S)) ∧ -1000 ≤ i ∧ i ≤ 1000 := by
  rw [c__law_value]
  have l0 := dr_low (m := 2001) s (by decide)
  have l1 := dr_top (m := 2001) s (by decide)
  have e : ∃ i, pk [.int 0, .int 1, .int (-1), .int 2, .int 5, .int 1000, .int (-1000), .int (dr 2001 s - 1000)] (dr 8 (nx 2001 s)) = .int i ∧ -1000 ≤ i ∧ i ≤ 1000 :=
    pk_dr (P := fun d => ∃ i, d = D.int i ∧ -1000 ≤ i ∧ i ≤ 1000) (by decide) (by simp) (by
      intro d hd
      simp only [List.mem_cons, List.not_mem_nil, or_false] at hd
      rcases hd with rfl | rfl | rfl | rfl | rfl | rfl | rfl | rfl
      all_goals first
        | exact ⟨_, rfl, by decide, by decide⟩
        | exact ⟨_, rfl, by omega, by omega⟩)
  obtain ⟨i, hi, h1, h2⟩ := e
  refine ⟨i, nx 8 (nx 2001 s), ?_, h1, h2⟩
  simp [b__law_value, draw_ok, hn, at_dr, hi]
theorem chs_step (k n : Nat) (s : Bs) (S : Sto) (cs : List Ch) (v : Nat) (hn : n < S.length) (hl : cs.length ≤ 1000) :
    ∃ s' cs', execs (C (k + 2)) T0 l__law_changes_1 [some (.ref n), some (.ref S.length), some (.str (mk [v]))] (bS n s (S ++ [.lst (cs.map chD)])) =
      some (.nx [some (.ref n), some (.ref S.length), some (.str (mk [v]))] (bS n s' (S ++ [.lst (cs'.map chD)]))) ∧ (cs' = cs ∨ ∃ i, cs' = cs ++ [(v, i)] ∧ -1000 ≤ i ∧ i ≤ 1000) := by
  have d1 := draw_ok (k + 1) n s (S ++ [.lst (cs.map chD)]) 4 (app_lt hn _) (by decide) (by decide)
  by_cases h : dr 4 s = 0
  · obtain ⟨i, s', e, i1, i2⟩ := value_in k n (nx 4 s) (S ++ [.lst (cs.map chD)]) (app_lt hn _)
    have g : (bS n s' (S ++ [.lst (cs.map chD)]))[S.length]? = some (.lst (cs.map chD)) := by rw [bS_ne (by omega), at_last]
    have ma := meD_app (d := chD (v, i)) g (by rw [PySem.sizeLine_eq, List.length_map]; omega)
    have e1 : cs.map chD ++ [chD (v, i)] = (cs ++ [(v, i)]).map chD := by simp
    rw [e1, bS_set (show n ≠ S.length by omega), set_last] at ma
    have ma : meD .append (.ref S.length) [.tup [.str (mk [v]), .int i]] (bS n s' (S ++ [.lst (cs.map chD)])) = some (.ok .non (bS n s' (S ++ [.lst ((cs ++ [(v, i)]).map chD)]))) := ma
    refine ⟨s', cs ++ [(v, i)], ?_, .inr ⟨i, rfl, i1, i2⟩⟩
    have g2 : ∀ t : Bs, tyM .append (.ref S.length) (bS n t (S ++ [.lst (cs.map chD)])) = true := fun t => tyM_app (by rw [bS_ne (by omega), at_last])
    rw [show l__law_changes_1 = l__law_changes_1 from rfl]
    generalize (cs ++ [(v, i)]).map chD = zs at ma ⊢
    generalize cs.map chD = ys at *
    simp [l__law_changes_1, d1, h, e, ma, g2]
  · refine ⟨nx 4 s, cs, ?_, .inl rfl⟩
    generalize cs.map chD = ys at *
    simp [l__law_changes_1, d1, h]
theorem chs_loop (k n : Nat) (S : Sto) (hn : n < S.length) : ∀ (vs : List Nat) (s : Bs) (cs : List Ch) (c0 : Option D), vs.Pairwise (· < ·) → (∀ v ∈ vs, 97 ≤ v ∧ v ≤ 100) → (∀ q ∈ cs, chOk q) → (cs.map (·.1)).Pairwise (· < ·) → (∀ q ∈ cs, ∀ v ∈ vs, q.1 < v) → cs.length + vs.length ≤ 4 →
    ∃ s' cs' c1, forL (.n 2) (fun e S => execs (C (k + 2)) T0 l__law_changes_1 e S) (vs.map fun v => .str (mk [v])) [some (.ref n), some (.ref S.length), c0] (bS n s (S ++ [.lst (cs.map chD)])) =
      some (.nx [some (.ref n), some (.ref S.length), c1] (bS n s' (S ++ [.lst (cs'.map chD)]))) ∧ CsOk cs'
  | [], s, cs, c0, _, _, h, hp, _, hl => ⟨s, cs, c0, rfl, h, hp, by simpa using hl⟩
  | v :: vs, s, cs, c0, hv, hr, h, hp, hx, hl => by
    rw [List.pairwise_cons] at hv
    rw [List.length_cons] at hl
    obtain ⟨s1, cs1, e1, hc⟩ := chs_step k n s S cs v hn (by omega)
    have v1 := hr v (List.mem_cons_self ..)
    have next : (∀ q ∈ cs1, chOk q) ∧ (cs1.map (·.1)).Pairwise (· < ·) ∧ (∀ q ∈ cs1, ∀ w ∈ vs, q.1 < w) ∧ cs1.length ≤ cs.length + 1 := by
      rcases hc with rfl | ⟨i, rfl, i1, i2⟩
      · exact ⟨h, hp, fun q hq w hw => hx q hq w (List.mem_cons_of_mem _ hw), by omega⟩
      · refine ⟨fun q hq => ?_, ?_, fun q hq w hw => ?_, by simp⟩
        · rcases List.mem_append.mp hq with hq | hq
          · exact h q hq
          · rw [List.mem_singleton.mp hq]; exact ⟨v1, i1, i2⟩
        · rw [List.map_append, List.pairwise_append]
          refine ⟨hp, by simp, fun a ha b hb => ?_⟩
          obtain ⟨q, hq, rfl⟩ := List.mem_map.mp ha
          simp at hb
          rw [hb]
          exact hx q hq v (List.mem_cons_self ..)
        · rcases List.mem_append.mp hq with hq | hq
          · exact hx q hq w (List.mem_cons_of_mem _ hw)
          · rw [List.mem_singleton.mp hq]; exact hv.1 w hw
    obtain ⟨n1, n2, n3, n4⟩ := next
    obtain ⟨s2, cs2, c2, e2, h2⟩ := chs_loop k n S hn vs s1 cs1 (some (.str (mk [v]))) hv.2 (fun w hw => hr w (List.mem_cons_of_mem _ hw)) n1 n2 n3 (by omega)
    refine ⟨s2, cs2, c2, ?_, h2⟩
    rw [List.map_cons]
    simp only [forL, asg_n, List.set_cons_succ, List.set_cons_zero]
    rw [e1]
    exact e2
theorem chs_ok (k n : Nat) (s : Bs) (S : Sto) (hn : n < S.length) : ∃ cs s' T, C (k + 3) i__law_changes [.ref n] (bS n s S) = some (.ok (csD cs) (bS n s' (S ++ T))) ∧ CsOk cs := by
  rw [c__law_changes]
  obtain ⟨s', cs, c1, e, h⟩ := chs_loop k n S hn [97, 98, 99, 100] s [] none (by decide) (by decide) (fun q h => by cases h) (by simp) (fun q h => by cases h) (by simp)
  simp only [List.map_cons, List.map_nil] at e
  have g : biD .tuple [.ref S.length] (bS n s' (S ++ [.lst (cs.map chD)])) = some (.tup (cs.map chD)) := biD_tupR (by rw [bS_ne (by omega), at_last])
  refine ⟨cs, s', [.lst (cs.map chD)], ?_, h⟩
  unfold csD
  generalize cs.map chD = ys at *
  simp [b__law_changes, abcd_cps, bS_app hn, e, g]
/-! ### rows of events that grow -/
/-- what is kept while rows are drawn -/
structure GP (rows : Rn) (fl : List Int) (m : Nat) : Prop where
  ok : ∀ r ∈ rows, r.length ≤ m ∧ ∀ e ∈ r, e.ok ∧ CsOk e.cs
  sn : (sends rows).Nodup
  rg : ∀ l ∈ sends rows, ∃ i : Int, (0 ≤ i ∧ i < m) ∧ (l = i + 1 ∨ l = 999 - i)
  fs : ∀ l ∈ fl, l ∈ sends rows
  fn : fl.Nodup
  ft : ∀ l ∈ fl, l ∉ takes rows
  tn : (takes rows).Nodup
  re : Reach rows (lens rows)
  fll : fl.length ≤ m
theorem GP.okAdd {rows : Rn} {fl : List Int} {m : Nat} (h : GP rows fl m) {p : Nat} (hp : p < rows.length) {e : Ev} (he : e.ok ∧ CsOk e.cs) : ∀ r ∈ addE rows p e, r.length ≤ m + 1 ∧ ∀ e ∈ r, e.ok ∧ CsOk e.cs := fun r hr => by
  have hg : rows.getD p [] ∈ rows := by
    rw [List.getD_eq_getElem?_getD, List.getElem?_eq_getElem hp]
    exact List.getElem_mem hp
  rcases List.mem_or_eq_of_mem_set hr with hr | rfl
  · obtain ⟨a, b⟩ := h.ok r hr
    exact ⟨by omega, b⟩
  · obtain ⟨a, b⟩ := h.ok _ hg
    refine ⟨by rw [List.length_append, List.length_singleton]; omega, fun x hx => ?_⟩
    rcases List.mem_append.mp hx with hx | hx
    · exact b x hx
    · rw [List.mem_singleton.mp hx]; exact he
theorem GP.step {rows : Rn} {fl : List Int} {m : Nat} (h : GP rows fl m) {p : Nat} (hp : p < rows.length) {cs : List Ch} (hc : CsOk cs) : GP (addE rows p (.step cs)) fl (m + 1) := by
  have s1 := sends_add (e := .step cs) hp
  have t1 := takes_add (e := .step cs) hp
  have s1 : (sends (addE rows p (.step cs))).Perm (sends rows) := s1
  have t1 : (takes (addE rows p (.step cs))).Perm (takes rows) := t1
  refine ⟨h.okAdd hp ⟨⟨⟨hc.1, hc.2.2⟩, fun l z => by rcases z with ⟨_, z⟩ | ⟨_, z⟩ <;> cases z⟩, hc⟩, s1.nodup_iff.mpr h.sn, fun l hl => ?_, fun l hl => s1.mem_iff.mpr (h.fs l hl), h.fn, fun l hl z => h.ft l hl (t1.mem_iff.mp z), t1.nodup_iff.mpr h.tn, reach_add hp h.re (fun l cs z => by cases z), by have := h.fll; omega⟩
  obtain ⟨i, h1, h2⟩ := h.rg l (s1.mem_iff.mp hl)
  exact ⟨i, by omega, h2⟩
theorem GP.send {rows : Rn} {fl : List Int} {m : Nat} (h : GP rows fl m) (hm : m ≤ 400) {p : Nat} (hp : p < rows.length) {l : Int} (hl : l = (m : Int) + 1 ∨ l = 999 - (m : Int)) {cs : List Ch} (hc : CsOk cs) : GP (addE rows p (.send l cs)) (fl ++ [l]) (m + 1) := by
  have s1 : (sends (addE rows p (.send l cs))).Perm (l :: sends rows) := sends_add (e := .send l cs) hp
  have t1 : (takes (addE rows p (.send l cs))).Perm (takes rows) := takes_add (e := .send l cs) hp
  have fresh : l ∉ sends rows := fun z => by
    obtain ⟨i, h1, h2⟩ := h.rg l z
    omega
  have tks : ∀ x, x ∈ takes rows → x ∈ sends rows := fun x hx => by
    obtain ⟨q, i, cs', hi⟩ := mem_takes.mp hx
    have key : ∀ d, Reach rows d → i < d q → Sent rows d x := fun d r => by
      induction r with
      | zero => intro z; exact absurd z (Nat.not_lt_zero _)
      | step r' en ih =>
        rename_i d' p'
        intro hq
        by_cases c : i < d' q
        · exact (ih c).mono bump_le
        · have e1 : q = p' := Classical.byContradiction fun n => by rw [bump_ne n] at hq; exact c hq
          subst e1
          rw [bump_same] at hq
          have e2 : i = d' q := by omega
          obtain ⟨y, hy, ht⟩ := en
          rw [← e2, hi] at hy
          exact (ht x cs' (Option.some.inj hy).symm).mono bump_le
    exact sent_all.mp (key _ h.re (evAt_lt hi))
  refine ⟨h.okAdd hp ⟨⟨⟨hc.1, hc.2.2⟩, fun l' z => ?_⟩, hc⟩, s1.nodup_iff.mpr (List.nodup_cons.mpr ⟨fresh, h.sn⟩), fun x hx => ?_, fun x hx => s1.mem_iff.mpr ?_, ?_, fun x hx z => ?_, t1.nodup_iff.mpr h.tn, reach_add hp h.re (fun l cs z => by cases z), by rw [List.length_append, List.length_singleton]; have := h.fll; omega⟩
  · rcases z with ⟨_, z⟩ | ⟨_, z⟩ <;> cases z
    omega
  · rcases List.mem_cons.mp (s1.mem_iff.mp hx) with rfl | hx
    · exact ⟨m, by omega, hl⟩
    · obtain ⟨i, h1, h2⟩ := h.rg x hx
      exact ⟨i, by omega, h2⟩
  · rcases List.mem_append.mp hx with hx | hx
    · exact List.mem_cons_of_mem _ (h.fs x hx)
    · rw [List.mem_singleton.mp hx]; exact List.mem_cons_self ..
  · rw [List.nodup_append]
    refine ⟨h.fn, by simp, fun a ha b hb e => ?_⟩
    rw [List.mem_singleton.mp hb] at e
    rw [e] at ha
    exact fresh (h.fs l ha)
  · have z := t1.mem_iff.mp z
    rcases List.mem_append.mp hx with hx | hx
    · exact h.ft x hx z
    · rw [List.mem_singleton.mp hx] at z
      exact fresh (tks l z)
theorem GP.take {rows : Rn} {fl : List Int} {m : Nat} (h : GP rows fl m) {p : Nat} (hp : p < rows.length) (hm : m ≤ 400) {q : Nat} (hq : q < fl.length) {cs : List Ch} (hc : CsOk cs) : GP (addE rows p (.take fl[q] cs)) (fl.eraseIdx q) (m + 1) := by
  have s1 : (sends (addE rows p (.take fl[q] cs))).Perm (sends rows) := sends_add (e := .take fl[q] cs) hp
  have t1 : (takes (addE rows p (.take fl[q] cs))).Perm (fl[q] :: takes rows) := takes_add (e := .take fl[q] cs) hp
  have mq : fl[q] ∈ fl := List.getElem_mem hq
  have nq : fl[q] ∉ fl.eraseIdx q := fun z => by
    obtain ⟨i, hi, e⟩ := List.getElem_of_mem z
    rw [List.getElem_eraseIdx] at e
    split at e
    · rename_i c
      have := (List.getElem_inj h.fn).mp e
      omega
    · rename_i c
      have := (List.getElem_inj h.fn).mp e
      omega
  refine ⟨h.okAdd hp ⟨⟨⟨hc.1, hc.2.2⟩, fun l' z => ?_⟩, hc⟩, s1.nodup_iff.mpr h.sn, fun x hx => ?_, fun x hx => s1.mem_iff.mpr (h.fs x (List.mem_of_mem_eraseIdx hx)), h.fn.sublist (List.eraseIdx_sublist _ _), fun x hx z => ?_, t1.nodup_iff.mpr (List.nodup_cons.mpr ⟨h.ft _ mq, h.tn⟩), reach_add hp h.re (fun l cs z => by cases z; exact h.fs _ mq), by have := h.fll; have := List.length_eraseIdx_le fl q; omega⟩
  · rcases z with ⟨_, z⟩ | ⟨_, z⟩ <;> cases z
    obtain ⟨i, h1, h2⟩ := h.rg _ (h.fs _ mq)
    omega
  · obtain ⟨i, h1, h2⟩ := h.rg x (s1.mem_iff.mp hx)
    exact ⟨i, by omega, h2⟩
  · rcases List.mem_cons.mp (t1.mem_iff.mp z) with rfl | z
    · exact nq hx
    · exact h.ft x (List.mem_of_mem_eraseIdx hx) z
/-- .. and where it lies -/
structure StI (b c f : Nat) (V : Sto) (rows : Rn) (fl : List Int) : Prop where
  len : rows.length = c
  row : ∀ i, i < c → V[b + i]? = some (.lst ((rows.getD i []).map Ev.d))
  fl : V[f]? = some (.lst (fl.map D.int))
theorem StI.app {b c f : Nat} {V : Sto} {rows : Rn} {fl : List Int} (h : StI b c f V rows fl) (T : Sto) : StI b c f (V ++ T) rows fl :=
  ⟨h.len, fun i hi => by rw [List.getElem?_append_left (List.getElem?_eq_some_iff.mp (h.row i hi)).1]; exact h.row i hi, by rw [List.getElem?_append_left (List.getElem?_eq_some_iff.mp h.fl).1]; exact h.fl⟩
theorem StI.setR {b c f r : Nat} {V : Sto} {rows : Rn} {fl : List Int} (h : StI b c f V rows fl) (hr : r < c) (hf : ∀ i, i < c → f ≠ b + i) (e : Ev) : StI b c f (V.set (b + r) (.lst ((rows.getD r []).map Ev.d ++ [e.d]))) (addE rows r e) fl := by
  refine ⟨by rw [addE_len]; exact h.len, fun i hi => ?_, by rw [List.getElem?_set_ne (fun z => hf r hr z.symm)]; exact h.fl⟩
  rw [getD_add (by rw [h.len]; exact hr)]
  by_cases c : i = r
  · subst c
    rw [if_pos rfl, List.getElem?_set_self (List.getElem?_eq_some_iff.mp (h.row i hi)).1]
    simp
  · rw [if_neg c, List.getElem?_set_ne (by omega)]
    exact h.row i hi
theorem StI.setF {b c f : Nat} {V : Sto} {rows : Rn} {fl : List Int} (h : StI b c f V rows fl) (hf : ∀ i, i < c → f ≠ b + i) (ys : List Int) : StI b c f (V.set f (.lst (ys.map D.int))) rows ys :=
  ⟨h.len, fun i hi => by rw [List.getElem?_set_ne (hf i hi)]; exact h.row i hi, List.getElem?_set_self (List.getElem?_eq_some_iff.mp h.fl).1⟩
end Lk
namespace Lk
open PyProof.Rows L2 Ip
/-! ### the law's drawn runs are runs -/
theorem run_turn2 (k n b c f : Nat) (hc : 0 < c) (hc6 : c ≤ 6) {V : Sto} {rows : Rn} {fl : List Int} {m : Nat} (h : StI b c f V rows fl) (g : GP rows fl m) (hm : m ≤ 400) (hn : n < V.length) (hnf : n ≠ f) (hnr : ∀ i, i < c → n ≠ b + i) (hf : ∀ i, i < c → f ≠ b + i) (hbf : b ≤ f) (s : Bs) (v2 v4 v7 v8 v9 v10 : Option D) :
    ∃ s' V' rows' fl' b7 b8 b9 b10, execs (C (k + 4)) T0 l__law_run_1 [some (.ref n), some (.int c), v2, some (.lst (refs b c)), v4, some (.ref f), some (.int (m : Int)), v7, v8, v9, v10] (bS n s V) =
      some (.nx [some (.ref n), some (.int c), v2, some (.lst (refs b c)), v4, some (.ref f), some (.int (m : Int)), b7, b8, b9, b10] (bS n s' V')) ∧ StI b c f V' rows' fl' ∧ GP rows' fl' (m + 1) ∧ V.length ≤ V'.length ∧ ∀ i, i < b → V'[i]? = V[i]? := by
  have d1 := fun s m h0 h1 => draw_ok (k + 3) n s V m hn h0 h1
  have l0 := dr_low (m := c) s (by omega)
  have l1 := dr_top (m := c) s (by omega)
  obtain ⟨r, hr⟩ : ∃ r : Nat, dr c s = (r : Int) := ⟨(dr c s).toNat, by omega⟩
  have hrc : r < c := by omega
  have at1 : atI (refs b c) (r : Int) = some (.ref (b + r)) := by rw [refs_at (by omega) (by omega)]; rfl
  obtain ⟨cs, s2, T, e2, cok⟩ := chs_ok (k + 1) n (nx 5 (nx c s)) V hn
  have hn1 := app_lt hn T
  have h1 := h.app T
  have vl : V.length ≤ (V ++ T).length := by rw [List.length_append]; omega
  have wk : ∀ i, i < b → (V ++ T)[i]? = V[i]? := fun i hi => by
    have := (List.getElem?_eq_some_iff.mp (h.row r hrc)).1
    rw [List.getElem?_append_left (by omega)]
  generalize V ++ T = W at e2 hn1 h1 vl wk
  have d2 := fun s m h0 h1 => draw_ok (k + 3) n s W m hn1 h0 h1
  have x1 := h1.row r hrc
  have y1 := h1.fl
  have rlen : r < rows.length := by rw [h.len]; exact hrc
  have x2 : ((rows.getD r []).map Ev.d).length ≤ m := by
    rw [List.length_map]
    have hg : rows.getD r [] ∈ rows := by
      rw [List.getD_eq_getElem?_getD, List.getElem?_eq_getElem rlen]
      exact List.getElem_mem rlen
    exact (g.ok _ hg).1
  have y2 := g.fll
  generalize hxs : (rows.getD r []).map Ev.d = xs at x1 x2
  generalize hys : fl = ys at y1 y2
  have nr := hnr r hrc
  have gx : ∀ t, (bS n t W)[b + r]? = some (.lst xs) := fun t => by rw [bS_ne nr]; exact x1
  have gy : ∀ t, (bS n t W)[f]? = some (.lst (ys.map D.int)) := fun t => by rw [bS_ne hnf]; exact y1
  have ap : ∀ t d, meD .append (.ref (b + r)) [d] (bS n t W) = some (.ok .non (bS n t (W.set (b + r) (.lst (xs ++ [d]))))) := fun t d => by
    rw [meD_app (gx t) (by rw [PySem.sizeLine_eq]; omega), bS_set nr]
  have ty : ∀ t, tyM .append (.ref (b + r)) (bS n t W) = true := fun t => tyM_app (gx t)
  have full : ∀ e : Ev, StI b c f (W.set (b + r) (.lst (xs ++ [e.d]))) (addE rows r e) fl := fun e => by rw [← hxs]; exact h1.setR hrc hf e
  have csd : csD cs = .tup (cs.map chD) := rfl
  have kp : ∀ o i, i < b → (W.set (b + r) o)[i]? = V[i]? := fun o i hi => by rw [List.getElem?_set_ne (by omega)]; exact wk i hi
  have wl : ∀ o, V.length ≤ (W.set (b + r) o).length := fun o => by rw [List.length_set]; exact vl
  by_cases k2 : dr 5 (nx c s) < 2
  · refine ⟨s2, W.set (b + r) (.lst (xs ++ [(Ev.step cs).d])), addE rows r (.step cs), fl, some (.ref (b + r)), some (.int (dr 5 (nx c s))), some (csD cs), v10, ?_, full _, g.step rlen cok, wl _, kp _⟩
    generalize hcd : csD cs = dcs at e2
    simp only [Ev.d, hcd]
    simp [l__law_run_1, d1, hc, hr, at1, e2, k2, ap, ty, show (c : Int) < 1073741824 by omega]
  · have send : ∀ s3, ∃ s' V' rows' fl' b10, execs (C (k + 4)) T0 (.cons (.asg (.n 10) (.ix (.lst false (.cons (.bin .add false (.v 6) (.c (.int 1))) (.cons (.bin .sub false (.c (.int 999)) (.v 6)) .nil))) (.call i__law_draw false (.cons (.v 0) (.cons (.c (.int 2)) .nil))))) (.cons (.ex (.me .append (.v 7) (.cons (.tup (.cons (.c (.str "send")) (.cons (.v 10) (.cons (.v 9) .nil)))) .nil))) (.cons (.ex (.me .append (.v 5) (.cons (.v 10) .nil))) .nil)))
        [some (.ref n), some (.int c), v2, some (.lst (refs b c)), v4, some (.ref f), some (.int (m : Int)), some (.ref (b + r)), some (.int (dr 5 (nx c s))), some (csD cs), v10] (bS n s3 W) =
        some (.nx [some (.ref n), some (.int c), v2, some (.lst (refs b c)), v4, some (.ref f), some (.int (m : Int)), some (.ref (b + r)), some (.int (dr 5 (nx c s))), some (csD cs), b10] (bS n s' V')) ∧ StI b c f V' rows' fl' ∧ GP rows' fl' (m + 1) ∧ V.length ≤ V'.length ∧ ∀ i, i < b → V'[i]? = V[i]? := fun s3 => by
      obtain ⟨i, hi, il⟩ : ∃ i, pk [.int ((m : Int) + 1), .int (999 - (m : Int))] (dr 2 s3) = .int i ∧ (i = (m : Int) + 1 ∨ i = 999 - (m : Int)) := pk_dr (P := fun d => ∃ i, d = D.int i ∧ (i = (m : Int) + 1 ∨ i = 999 - (m : Int))) (by decide) (by simp) (by simp)
      have st2 := (full (.send i cs)).setF hf (fl ++ [i])
      have gp2 := g.send hm rlen il cok
      simp only [Ev.d] at st2
      generalize csD cs = dcs at *
      have gf : ∀ t, (bS n t (W.set (b + r) (.lst (xs ++ [.tup [.str "send", .int i, dcs]]))))[f]? = some (.lst (ys.map D.int)) := fun t => by
        rw [bS_ne hnf, List.getElem?_set_ne (fun e => hf r hrc e.symm)]; exact y1
      have af : ∀ t, meD .append (.ref f) [.int i] (bS n t (W.set (b + r) (.lst (xs ++ [.tup [.str "send", .int i, dcs]])))) = some (.ok .non (bS n t ((W.set (b + r) (.lst (xs ++ [.tup [.str "send", .int i, dcs]]))).set f (.lst ((ys ++ [i]).map D.int))))) := fun t => by
        rw [meD_app (gf t) (by rw [PySem.sizeLine_eq, List.length_map]; omega), bS_set hnf, List.map_append]; rfl
      have tf := fun t => tyM_app (gf t)
      refine ⟨nx 2 s3, (W.set (b + r) (.lst (xs ++ [.tup [.str "send", .int i, dcs]]))).set f (.lst ((ys ++ [i]).map D.int)), _, _, some (.int i), ?_, by rw [← hys]; exact st2, gp2, by rw [List.length_set]; exact wl _, fun i hi => by rw [List.getElem?_set_ne (by omega)]; exact kp _ i hi⟩
      simp [d2, at_dr, hi, ap, ty, af, tf]
    have u : ∃ sB : Stms, sB = ((.cons (.asg (.n 10) (.ix (.lst false (.cons (.bin .add false (.v 6) (.c (.int 1))) (.cons (.bin .sub false (.c (.int 999)) (.v 6)) .nil))) (.call i__law_draw false (.cons (.v 0) (.cons (.c (.int 2)) .nil))))) (.cons (.ex (.me .append (.v 7) (.cons (.tup (.cons (.c (.str "send")) (.cons (.v 10) (.cons (.v 9) .nil)))) .nil))) (.cons (.ex (.me .append (.v 5) (.cons (.v 10) .nil))) .nil))) : Stms) ∧ l__law_run_1 = (.cons (.asg (.n 7) (.ix (.v 3) (.call i__law_draw false (.cons (.v 0) (.cons (.v 1) .nil))))) (.cons (.asg (.n 8) (.call i__law_draw false (.cons (.v 0) (.cons (.c (.int 5)) .nil)))) (.cons (.asg (.n 9) (.call i__law_changes false (.cons (.v 0) .nil))) (.cons (.ifs (.cmp .lt (.v 8) (.c (.int 2))) (.cons (.ex (.me .append (.v 7) (.cons (.tup (.cons (.c (.str "step")) (.cons (.v 9) .nil))) .nil))) .nil) (.cons (.ifs (.and (.cmp .lt (.v 8) (.c (.int 4))) (.and (.cmp .gt (.call i__law_draw false (.cons (.v 0) (.cons (.c (.int 3)) .nil))) (.c (.int 0))) (.cmp .gt (.bi .len (.cons (.v 5) .nil)) (.c (.int 0))))) (.cons (.ex (.me .append (.v 7) (.cons (.tup (.cons (.c (.str "take")) (.cons (.me .pop (.v 5) (.cons (.call i__law_draw false (.cons (.v 0) (.cons (.bi .len (.cons (.v 5) .nil)) .nil))) .nil)) (.cons (.v 9) .nil)))) .nil))) .nil) sB) .nil)) .nil)))) := ⟨_, rfl, rfl⟩
    obtain ⟨sB, eB, u⟩ := u
    rw [← eB] at send
    by_cases k4 : dr 5 (nx c s) < 4
    · by_cases k3 : 0 < dr 3 s2
      · by_cases hy : 0 < ys.length
        · have m0 := dr_low (m := (ys.length : Int)) (nx 3 s2) (by omega)
          have m1 := dr_top (m := (ys.length : Int)) (nx 3 s2) (by omega)
          have q1 : (dr (ys.length : Int) (nx 3 s2)).toNat < ys.length := by omega
          have gi : (ys.map D.int)[(dr (ys.length : Int) (nx 3 s2)).toNat]? = some (.int ys[(dr (ys.length : Int) (nx 3 s2)).toNat]) := by
            rw [List.getElem?_map, List.getElem?_eq_getElem q1]; rfl
          have gt := fun (q : (dr (ys.length : Int) (nx 3 s2)).toNat < fl.length) => g.take rlen hm q cok
          have gl : ∀ q : (dr (ys.length : Int) (nx 3 s2)).toNat < fl.length, fl[(dr (ys.length : Int) (nx 3 s2)).toNat] = ys[(dr (ys.length : Int) (nx 3 s2)).toNat] := fun q => by simp only [hys]
          have gt := gt (by rw [hys]; exact q1)
          rw [gl] at gt
          generalize ys[(dr (ys.length : Int) (nx 3 s2)).toNat] = l at gi gt
          have po : ∀ t, meD .pop (.ref f) [.int (dr (ys.length : Int) (nx 3 s2))] (bS n t W) = some (.ok (.int l) (bS n t (W.set f (.lst ((ys.eraseIdx (dr (ys.length : Int) (nx 3 s2)).toNat).map D.int))))) := fun t => by
            rw [meD_pop (gy t) m0 (by rw [List.length_map]; exact m1) gi (by rw [List.length_map]; omega), bS_set hnf]
            rw [erase_map]
          have tp := fun t => tyM_pop (gy t)
          have lr := fun t => lenR (gy t)
          have h2 : StI b c f (W.set f (.lst ((ys.eraseIdx (dr (ys.length : Int) (nx 3 s2)).toNat).map D.int))) rows (ys.eraseIdx (dr (ys.length : Int) (nx 3 s2)).toNat) := h1.setF hf _
          have st2 := h2.setR hrc hf (.take l cs)
          rw [hxs] at st2
          generalize hW2 : W.set f (.lst ((ys.eraseIdx (dr (ys.length : Int) (nx 3 s2)).toNat).map D.int)) = W2 at po h2 st2
          have wl2 : V.length ≤ W2.length := by rw [← hW2, List.length_set]; exact vl
          have wk2 : ∀ i, i < b → W2[i]? = V[i]? := fun i hi => by rw [← hW2, List.getElem?_set_ne (by omega)]; exact wk i hi
          have x1' := h2.row r hrc
          rw [hxs] at x1'
          have gx' : ∀ t, (bS n t W2)[b + r]? = some (.lst xs) := fun t => by rw [bS_ne nr]; exact x1'
          have ap' : ∀ t d, meD .append (.ref (b + r)) [d] (bS n t W2) = some (.ok .non (bS n t (W2.set (b + r) (.lst (xs ++ [d]))))) := fun t d => by
            rw [meD_app (gx' t) (by rw [PySem.sizeLine_eq]; omega), bS_set nr]
          have dl := d2 (nx 3 s2) (ys.length : Int) (by omega) (by omega)
          refine ⟨nx (ys.length : Int) (nx 3 s2), W2.set (b + r) (.lst (xs ++ [(Ev.take l cs).d])), _, _, some (.ref (b + r)), some (.int (dr 5 (nx c s))), some (csD cs), v10, ?_, st2, by rw [hys] at gt; exact gt, by rw [List.length_set]; exact wl2, fun i hi => by rw [List.getElem?_set_ne (by omega)]; exact wk2 i hi⟩
          simp only [Ev.d]
          generalize csD cs = dcs at *
          have hy' : (0 : Int) < (ys.length : Int) := by omega
          simp [l__law_run_1, d1, d2, hc, hr, at1, e2, k2, k4, k3, ty, tp, lr, po, ap', dl, hy, show (c : Int) < 1073741824 by omega]
        · obtain ⟨s', V', rows', fl', b10, es, q1, q2⟩ := send (nx 3 s2)
          refine ⟨s', V', rows', fl', some (.ref (b + r)), some (.int (dr 5 (nx c s))), some (csD cs), b10, ?_, q1, q2⟩
          have lr := fun t => lenR (gy t)
          have hy' : ¬ (0 : Int) < (ys.length : Int) := by omega
          rw [u]
          simp [d1, d2, hc, hr, at1, e2, k2, k4, k3, lr, hy, es, show (c : Int) < 1073741824 by omega]
      · obtain ⟨s', V', rows', fl', b10, es, q1, q2⟩ := send (nx 3 s2)
        refine ⟨s', V', rows', fl', some (.ref (b + r)), some (.int (dr 5 (nx c s))), some (csD cs), b10, ?_, q1, q2⟩
        rw [u]
        simp [d1, d2, hc, hr, at1, e2, k2, k4, k3, es, show (c : Int) < 1073741824 by omega]
    · obtain ⟨s', V', rows', fl', b10, es, q1, q2⟩ := send s2
      refine ⟨s', V', rows', fl', some (.ref (b + r)), some (.int (dr 5 (nx c s))), some (csD cs), b10, ?_, q1, q2⟩
      rw [u]
      simp [d1, d2, hc, hr, at1, e2, k2, k4, es, show (c : Int) < 1073741824 by omega]
theorem run_loop2 (k n b c f : Nat) (hc : 0 < c) (hc6 : c ≤ 6) (hnf : n ≠ f) (hnr : ∀ i, i < c → n ≠ b + i) (hf : ∀ i, i < c → f ≠ b + i) (hbf : b ≤ f) (v2 v4 : Option D) : ∀ (q : Nat) (m : Nat) (s : Bs) (V : Sto) (rows : Rn) (fl : List Int) (v7 v8 v9 v10 v6 : Option D), StI b c f V rows fl → GP rows fl m → m + q ≤ 400 → n < V.length →
    ∃ s' V' rows' fl' b6 b7 b8 b9 b10, forL (.n 6) (fun e S => execs (C (k + 4)) T0 l__law_run_1 e S) (rg (m : Int) q) [some (.ref n), some (.int c), v2, some (.lst (refs b c)), v4, some (.ref f), v6, v7, v8, v9, v10] (bS n s V) =
      some (.nx [some (.ref n), some (.int c), v2, some (.lst (refs b c)), v4, some (.ref f), b6, b7, b8, b9, b10] (bS n s' V')) ∧ StI b c f V' rows' fl' ∧ GP rows' fl' (m + q) ∧ V.length ≤ V'.length ∧ ∀ i, i < b → V'[i]? = V[i]?
  | 0, m, s, V, rows, fl, v7, v8, v9, v10, v6, h, g, hm, hn => ⟨s, V, rows, fl, v6, v7, v8, v9, v10, rfl, h, g, Nat.le_refl _, fun _ _ => rfl⟩
  | q + 1, m, s, V, rows, fl, v7, v8, v9, v10, v6, h, g, hm, hn => by
    obtain ⟨s1, V1, rows1, fl1, b7, b8, b9, b10, e1, h1, g1, l1, p1⟩ := run_turn2 k n b c f hc hc6 h g (by omega) hn hnf hnr hf hbf s v2 v4 v7 v8 v9 v10
    obtain ⟨s2, V2, rows2, fl2, c6, c7, c8, c9, c10, e2, h2, g2, l2, p2⟩ := run_loop2 k n b c f hc hc6 hnf hnr hf hbf v2 v4 q (m + 1) s1 V1 rows1 fl1 b7 b8 b9 b10 (some (.int (m : Int))) h1 g1 (by omega) (by omega)
    refine ⟨s2, V2, rows2, fl2, c6, c7, c8, c9, c10, ?_, h2, by rw [show m + (q + 1) = m + 1 + q by omega]; exact g2, by omega, fun i hi => (p2 i hi).trans (p1 i hi)⟩
    rw [rg]
    simp only [forL, asg_n, List.set_cons_succ, List.set_cons_zero]
    rw [e1]
    rw [show ((m + 1 : Nat) : Int) = (m : Int) + 1 by omega] at e2
    exact e2
theorem mk_rows (k : Nat) (env : Ip.En) : ∀ (c : Nat) (j : Int) (S : Sto) (acc : List D),
    lcLoop (fun x S => match asgT (.n 4) x (wipeE env [4]) with
      | some env1 => bnd (evalC (C k) T0 .no env1 S) fun b S2 => match b with
        | true => bnd (evalE (C k) T0 e__law_run_2 env1 S2) fun y S3 => some (.ok (some y) S3)
        | false => some (.ok none S2)
      | none => none) (rg j c) S acc = some (.ok (acc ++ refs S.length c) (S ++ List.replicate c (.lst [])))
  | 0, j, S, acc => by simp [rg, lcLoop, refs]
  | c + 1, j, S, acc => by
    have ih := mk_rows k env c (j + 1) (S ++ [.lst []]) (acc ++ [.ref S.length])
    rw [rg]
    have st : evalE (C k) T0 e__law_run_2 ((wipeE env [4]).set 4 (some (.int j))) S = some (.ok (.ref S.length) (S ++ [.lst []])) := by simp [e__law_run_2]
    simp only [lcLoop, asg_n, evalC, bnd_ok, st]
    refine ih.trans ?_
    have e1 : acc ++ [D.ref S.length] ++ refs (S ++ [Ob.lst []]).length c = acc ++ refs S.length (c + 1) := by
      unfold refs
      rw [List.append_assoc, List.length_append, List.range_succ_eq_map, List.map_cons, List.map_map]
      congr 1
      simp only [List.singleton_append, Nat.add_zero]
      congr 1
      refine List.map_congr_left fun i _ => ?_
      simp only [Function.comp, List.length_cons, List.length_nil]
      congr 1
      omega
    rw [e1, List.replicate_succ, List.append_assoc, List.singleton_append]
theorem law_run_run (k n : Nat) (c : Nat) (hc : 0 < c) (hc6 : c ≤ 6) (M : Int) (hM : 0 ≤ M ∧ M ≤ 30) (s : Bs) (S : Sto) (hn : n < S.length) :
    ∃ rows fl m s' V, C (k + 5) i__law_run [.ref n, .int c, .int M] (bS n s S) = some (.ok (rnD rows) (bS n s' V)) ∧ rows.length = c ∧ m ≤ 30 ∧ GP rows fl m ∧ S.length ≤ V.length ∧ ∀ i, i < S.length → V[i]? = S[i]? := by
  rw [c__law_run]
  have hr : rngD 0 (c : Int) = some (rg 0 c) := rngD_len (by omega)
  have lb : (bS n s S).length = S.length := by unfold bS; rw [List.length_set]
  -- the rows
  have a1 : exec (C (k + 4)) T0 k__law_run_2 [some (.ref n), some (.int c), some (.int M), none, none, none, none, none, none, none, none] (bS n s S) =
      some (.nx [some (.ref n), some (.int c), some (.int M), some (.lst (refs S.length c)), none, none, none, none, none, none, none] (bS n s (S ++ List.replicate c (.lst [])))) := by
    unfold k__law_run_2
    have mr := mk_rows (k + 4) [some (.ref n), some (.int c), some (.int M), none, none, none, none, none, none, none, none] c 0 (bS n s S) []
    rw [List.nil_append, lb, bS_app hn] at mr
    rw [exec, evalE]
    simp only [evalI, evalE, List.getElem?_cons_succ, List.getElem?_cons_zero, bnd_ok, hr, okO_some]
    rw [if_pos (by rw [PySem.sizeLine_eq, rg_len]; omega)]
    refine (congrArg (fun z => bnS (bnd z fun ys S2 => mkL false ys S2) _ fun d S1 => some (So.nx (List.set [some (.ref n), some (.int c), some (.int M), none, none, none, none, none, none, none, none] 3 (some d)) S1)) mr).trans ?_
    rfl
  have hn1 : n < (S ++ List.replicate c (Ob.lst [])).length := app_lt hn _
  have hn2 : n < ((S ++ List.replicate c (Ob.lst [])) ++ [Ob.lst []]).length := app_lt hn1 _
  have d1 := draw_ok (k + 3) n s ((S ++ List.replicate c (Ob.lst [])) ++ [Ob.lst []]) (M + 1) hn2 (by omega) (by omega)
  have l0 := dr_low (m := M + 1) s (by omega)
  have l1 := dr_top (m := M + 1) s (by omega)
  obtain ⟨q, hq⟩ : ∃ q : Nat, dr (M + 1) s = (q : Int) := ⟨(dr (M + 1) s).toNat, by omega⟩
  have gr : ∀ i, (List.replicate c ([] : List Ev)).getD i [] = [] := fun i => by
    rw [List.getD_eq_getElem?_getD, List.getElem?_replicate]
    split <;> rfl
  have inv : StI S.length c (S.length + c) ((S ++ List.replicate c (Ob.lst [])) ++ [Ob.lst []]) (List.replicate c []) [] := by
    refine ⟨List.length_replicate, fun i hi => ?_, ?_⟩
    · rw [gr, List.getElem?_append_left (by rw [List.length_append, List.length_replicate]; omega), List.getElem?_append_right (by omega), List.getElem?_replicate]
      simp; omega
    · rw [List.getElem?_append_right (by rw [List.length_append, List.length_replicate]; omega)]
      simp
  have gp : GP (List.replicate c []) [] 0 := by
    have s0 : sends (List.replicate c []) = [] := by
      unfold sends
      rw [List.flatMap_eq_nil_iff]
      intro r hr
      rw [List.eq_of_mem_replicate hr]; rfl
    have t0 : takes (List.replicate c []) = [] := by
      unfold takes
      rw [List.flatMap_eq_nil_iff]
      intro r hr
      rw [List.eq_of_mem_replicate hr]; rfl
    refine ⟨fun r hr => ?_, (by rw [s0]; exact List.nodup_nil), (fun l hl => by rw [s0] at hl; cases hl), (fun l hl => by cases hl), List.nodup_nil, (fun l hl => by cases hl), (by rw [t0]; exact List.nodup_nil), ?_, Nat.le_refl _⟩
    · rw [List.eq_of_mem_replicate hr]
      exact ⟨Nat.le_refl _, fun e he => by cases he⟩
    · have : lens (List.replicate c []) = fun _ => 0 := funext fun q => by unfold lens; rw [gr]; rfl
      rw [this]
      exact .zero
  obtain ⟨s2, V2, rows2, fl2, b6, b7, b8, b9, b10, e2, h2, g2, l2, p2⟩ := run_loop2 k n S.length c (S.length + c) hc hc6 (by omega) (fun i hi => by omega) (fun i hi => by omega) (by omega) (some (.int M)) none q 0 (nx (M + 1) s) _ _ _ none none none none none inv gp (by omega) hn2
  have hrq : rngD 0 (q : Int) = some (rg 0 q) := rngD_len (by omega)
  -- the tuples
  have lc : ∀ v0 v1 v2 v4 v5 v6 v7 v8 v9 v10, evalE (C (k + 4)) T0 k__law_run_1 [v0, v1, v2, some (.lst (refs S.length c)), v4, v5, v6, v7, v8, v9, v10] (bS n s2 V2) = some (.ok (.lst (rows2.map rowD)) (bS n s2 V2)) := by
    let f : D → D := fun d => match d with
      | .ref i => (match V2[i]? with
        | some (.lst xs) => .tup xs
        | _ => .non)
      | _ => .non
    have fe : ∀ i, i < c → f (.ref (S.length + i)) = rowD (rows2.getD i []) := fun i hi => by
      show (match V2[S.length + i]? with
        | some (.lst xs) => D.tup xs
        | _ => .non) = _
      rw [h2.row i hi]; rfl
    have mp : (refs S.length c).map f = rows2.map rowD := by
      refine List.ext_getElem? fun i => ?_
      rw [List.getElem?_map, List.getElem?_map]
      unfold refs
      rw [List.getElem?_map]
      by_cases hi : i < c
      · rw [List.getElem?_range hi]
        have hl : i < rows2.length := by rw [h2.len]; exact hi
        rw [List.getElem?_eq_getElem hl]
        show some (f (.ref (S.length + i))) = some (rowD rows2[i])
        rw [fe i hi, List.getD_eq_getElem?_getD, List.getElem?_eq_getElem hl]; rfl
      · rw [List.getElem?_eq_none (by rw [List.length_range]; omega), List.getElem?_eq_none (by rw [h2.len]; omega)]; rfl
    intro v0 v1 v2 v4 v5 v6 v7 v8 v9 v10
    unfold k__law_run_1
    rw [lc_no (S := bS n s2 V2) (xs := refs S.length c) f (by simp) (by rw [PySem.sizeLine_eq]; simp [refs]; omega)]
    · rw [mp]; rfl
    · intro y hy
      obtain ⟨i, hi, rfl⟩ := List.mem_map.mp hy
      have hi := List.mem_range.mp hi
      have t1 : biD .tuple [.ref (S.length + i)] (bS n s2 V2) = some (rowD (rows2.getD i [])) := biD_tupR (by rw [bS_ne (by omega)]; exact h2.row i hi)
      rw [fe i hi]
      generalize rowD (rows2.getD i []) = rd at t1
      simp [e__law_run_1, t1]
  refine ⟨rows2, fl2, 0 + q, s2, V2, ?_, h2.len, by omega, g2, ?_, fun i hi => ?_⟩
  · have app : bS n s (S ++ List.replicate c (Ob.lst [])) ++ [Ob.lst []] = bS n s ((S ++ List.replicate c (Ob.lst [])) ++ [Ob.lst []]) := bS_app hn1
    have len2 : (bS n s (S ++ List.replicate c (Ob.lst []))).length = S.length + c := by unfold bS; rw [List.length_set, List.length_append, List.length_replicate]
    have a2 : exec (C (k + 4)) T0 (.asg (.n 5) (.lst true .nil)) [some (.ref n), some (.int c), some (.int M), some (.lst (refs S.length c)), none, none, none, none, none, none, none] (bS n s (S ++ List.replicate c (.lst []))) =
        some (.nx [some (.ref n), some (.int c), some (.int M), some (.lst (refs S.length c)), none, some (.ref (S.length + c)), none, none, none, none, none] (bS n s ((S ++ List.replicate c (Ob.lst [])) ++ [Ob.lst []]))) := by
      simp [len2]
      rw [app]
      simp
    have a3 : exec (C (k + 4)) T0 (.for (.n 6) (.rng1 (.call i__law_draw false (.cons (.v 0) (.cons (.bin .add false (.v 2) (.c (.int 1))) .nil)))) l__law_run_1) [some (.ref n), some (.int c), some (.int M), some (.lst (refs S.length c)), none, some (.ref (S.length + c)), none, none, none, none, none] (bS n s ((S ++ List.replicate c (Ob.lst [])) ++ [Ob.lst []])) =
        some (.nx [some (.ref n), some (.int c), some (.int M), some (.lst (refs S.length c)), none, some (.ref (S.length + c)), b6, b7, b8, b9, b10] (bS n s2 V2)) := by
      rw [exec]
      simp only [evalI, evalE, evalEs, List.getElem?_cons_succ, List.getElem?_cons_zero, bnd_ok, callP_f, binD_add, Cst.d, d1, hq, okO_some, hrq, bnS_ok]
      exact e2
    simp only [b__law_run, execs, a1, a2, a3, seqS_nx]
    simp only [exec, evalE, evalEs, lc, bnd_ok, biD_tupL, okO_some, bnS_ok, seqS_rt, outS_rt, rnD]
  · rw [List.length_append, List.length_append] at l2; omega
  · rw [p2 i hi, List.getElem?_append_left (by rw [List.length_append]; omega), List.getElem?_append_left hi]
end Lk
namespace Lk
open PyProof.Rows L2 Ip
/-! ### fed events -/
abbrev Fr : Type := List (Nat × Ev)
abbrev Fd : Type := List Fr
def lk (r : Fr) (i : Nat) : Option Ev := (r.find? fun z => decide (z.1 = i)).map (·.2)
def rowK (r : Fr) : List D := r.map fun z => .int (z.1 : Int)
def rowV (r : Fr) : List D := r.map fun z => z.2.d
def rowF (r : Fr) : Ob := .dct 0 (rowK r) (rowV r)
theorem lookK_row (i : Nat) : ∀ r : Fr, lookK kKey (.inl (i : Int)) (rowK r) (rowV r) = (lk r i).map Ev.d
  | [] => rfl
  | z :: r => by
    show (if kKey (.int (z.1 : Int)) = some (.inl (i : Int)) then some z.2.d else lookK kKey (.inl (i : Int)) (rowK r) (rowV r)) = _
    unfold lk
    rw [List.find?_cons]
    by_cases h : z.1 = i
    · rw [if_pos (by rw [h]; rfl), decide_eq_true h]; rfl
    · rw [if_neg (fun e => h (by
        have e : (some (Sum.inl (z.1 : Int)) : Option Key) = some (.inl (i : Int)) := e
        injection e with e
        injection e with e
        omega)), decide_eq_false h]
      exact lookK_row i r
theorem lk_mem {r : Fr} {i : Nat} {e : Ev} (h : lk r i = some e) : (i, e) ∈ r := by
  unfold lk at h
  obtain ⟨z, hz, rfl⟩ := Option.map_eq_some_iff.mp h
  have h1 := List.find?_some hz
  have h2 := List.mem_of_find?_eq_some hz
  rw [decide_eq_true_eq] at h1
  rw [← h1]; exact h2
theorem lk_of {r : Fr} (nd : (r.map (·.1)).Nodup) {i : Nat} {e : Ev} (h : (i, e) ∈ r) : lk r i = some e := by
  induction r with
  | nil => cases h
  | cons z r ih =>
    rw [List.map_cons, List.nodup_cons] at nd
    unfold lk
    rw [List.find?_cons]
    rcases List.mem_cons.mp h with rfl | h
    · rw [decide_eq_true rfl]; rfl
    · have : z.1 ≠ i := fun e' => nd.1 (by rw [e']; exact List.mem_map.mpr ⟨(i, e), h, rfl⟩)
      rw [decide_eq_false this]
      exact ih nd.2 h
theorem lk_none {r : Fr} {i : Nat} : lk r i = none ↔ i ∉ r.map (·.1) := by
  unfold lk
  rw [Option.map_eq_none_iff, List.find?_eq_none]
  constructor
  · intro h hm
    obtain ⟨z, hz, e⟩ := List.mem_map.mp hm
    exact h z hz (decide_eq_true e)
  · intro h z hz e
    rw [decide_eq_true_eq] at e
    exact h (List.mem_map.mpr ⟨z, hz, e⟩)
theorem lk_app {r : Fr} {i j : Nat} {e : Ev} : lk (r ++ [(j, e)]) i = match lk r i with
    | some x => some x
    | none => if j = i then some e else none := by
  unfold lk
  rw [List.find?_append]
  cases r.find? fun z => decide (z.1 = i) with
  | some z => rfl
  | none =>
    show Option.map (·.2) (([(j, e)] : Fr).find? fun z => decide (z.1 = i)) = _
    rw [List.find?_cons]
    by_cases h : j = i
    · rw [decide_eq_true h, if_pos h]; rfl
    · rw [decide_eq_false h, if_neg h]; rfl
/-- the beginning of a row that is fed without a gap -/
def beg (r : Fr) : Nat → Nat → List Ev
  | 0, _ => []
  | m + 1, j => match lk r j with
    | some e => e :: beg r m (j + 1)
    | none => []
theorem beg_at (r : Fr) : ∀ (m j i : Nat) (e : Ev), (beg r m j)[i]? = some e ↔ i < m ∧ (∀ t, t < i → (lk r (j + t)).isSome = true) ∧ lk r (j + i) = some e
  | 0, j, i, e => by simp [beg]
  | m + 1, j, i, e => by
    rw [beg]
    cases h : lk r j with
    | none =>
      constructor
      · intro z; simp at z
      · rintro ⟨h1, h2, h3⟩
        cases i with
        | zero => rw [Nat.add_zero, h] at h3; cases h3
        | succ i => have := h2 0 (by omega); rw [Nat.add_zero, h] at this; cases this
    | some e0 =>
      cases i with
      | zero =>
        have h' : lk r (j + 0) = some e0 := h
        rw [List.getElem?_cons_zero, h']
        exact ⟨fun z => ⟨by omega, fun t ht => absurd ht (Nat.not_lt_zero _), z⟩, fun z => z.2.2⟩
      | succ i =>
        rw [List.getElem?_cons_succ, beg_at r m (j + 1) i e]
        constructor
        · rintro ⟨h1, h2, h3⟩
          refine ⟨by omega, fun t ht => ?_, by rw [show j + (i + 1) = j + 1 + i by omega]; exact h3⟩
          cases t with
          | zero => rw [Nat.add_zero, h]; rfl
          | succ t => rw [show j + (t + 1) = j + 1 + t by omega]; exact h2 t (by omega)
        · rintro ⟨h1, h2, h3⟩
          refine ⟨by omega, fun t ht => ?_, by rw [show j + 1 + i = j + (i + 1) by omega]; exact h3⟩
          rw [show j + 1 + t = j + (t + 1) by omega]; exact h2 (t + 1) (by omega)
def kr (F : Fd) : Rn := F.map fun r => beg r 30 1
def ro (F : Fd) (p : Nat) : Fr := F.getD p []
theorem kr_row (F : Fd) (p : Nat) : (kr F).getD p [] = beg (ro F p) 30 1 := by
  unfold kr ro
  rw [List.getD_eq_getElem?_getD, List.getElem?_map, List.getD_eq_getElem?_getD]
  cases F[p]? <;> rfl
theorem kr_len (F : Fd) : (kr F).length = F.length := List.length_map ..
theorem kr_at {F : Fd} {p i : Nat} {e : Ev} : evAt (kr F) p i = some e ↔ i < 30 ∧ (∀ t, t < i → (lk (ro F p) (t + 1)).isSome = true) ∧ lk (ro F p) (i + 1) = some e := by
  unfold evAt
  rw [kr_row, beg_at]
  simp only [Nat.add_comm 1]
/-- what was fed, as it must be -/
structure FOk (F : Fd) : Prop where
  l6 : F.length ≤ 6
  nd : ∀ p, ((ro F p).map (·.1)).Nodup
  ix : ∀ p z, z ∈ ro F p → (1 ≤ z.1 ∧ z.1 ≤ 30) ∧ z.2.ok
theorem ro_no {F : Fd} {p : Nat} (h : F.length ≤ p) : ro F p = [] := by
  unfold ro
  rw [List.getD_eq_getElem?_getD, List.getElem?_eq_none h]; rfl
theorem kr_next {F : Fd} (h : FOk F) {d : Nat → Nat} (hr : Reach (kr F) d) (p : Nat) : evAt (kr F) p (d p) = lk (ro F p) (d p + 1) := by
  have hl := hr.le_len p
  have fill : ∀ t, t < d p → (lk (ro F p) (t + 1)).isSome = true := fun t ht => by
    have : evAt (kr F) p t = some ((kr F).getD p [])[t] := List.getElem?_eq_getElem (by omega)
    rw [(kr_at.mp this).2.2]; rfl
  cases e : lk (ro F p) (d p + 1) with
  | some x =>
    have := (h.ix p _ (lk_mem e)).1.2
    have : d p + 1 ≤ 30 := this
    exact kr_at.mpr ⟨by omega, fill, e⟩
  | none =>
    cases e2 : evAt (kr F) p (d p) with
    | none => rfl
    | some x => have := (kr_at.mp e2).2.2; rw [e] at this; cases this
/-! the greatest beginning that is a run -/
theorem nxt_lt {rows : Rn} {d : Nat → Nat} {p : Nat} (h : Nxt rows d p) : p < rows.length := en_lt h
theorem stuck_ex (rows : Rn) : ∃ d, Reach rows d ∧ ∀ p, ¬ Nxt rows d p := by
  have go : ∀ (m : Nat) (d : Nat → Nat), tot rows.length (lens rows) - tot rows.length d = m → Reach rows d → ∃ d, Reach rows d ∧ ∀ p, ¬ Nxt rows d p := by
    intro m
    induction m with
    | zero =>
      intro d hm hr
      refine ⟨d, hr, fun p hp => ?_⟩
      have hb := (Reach.step hr hp).le_len
      have t1 := tot_mono (d := bump d p) (d' := lens rows) hb rows.length
      rw [tot_bump rows.length (nxt_lt hp)] at t1
      omega
    | succ m ih =>
      intro d hm hr
      by_cases h : ∃ p, Nxt rows d p
      · obtain ⟨p, hp⟩ := h
        have hb := (Reach.step hr hp).le_len
        have t1 := tot_mono (d := bump d p) (d' := lens rows) hb rows.length
        rw [tot_bump rows.length (nxt_lt hp)] at t1
        exact ih (bump d p) (by rw [tot_bump rows.length (nxt_lt hp)]; omega) (.step hr hp)
      · exact ⟨d, hr, fun p hp => h ⟨p, hp⟩⟩
  exact go _ _ rfl .zero
theorem stuck_eq {rows : Rn} {d d' : Nat → Nat} (h : Reach rows d) (hs : ∀ p, ¬ Nxt rows d p) (h' : Reach rows d') (hs' : ∀ p, ¬ Nxt rows d' p) : d = d' :=
  funext fun q => Nat.le_antisymm (h.le_stuck hs' q) (h'.le_stuck hs q)
noncomputable def kd (F : Fd) : Nat → Nat := Classical.choose (stuck_ex (kr F))
theorem kd_reach (F : Fd) : Reach (kr F) (kd F) := (Classical.choose_spec (stuck_ex (kr F))).1
theorem kd_stuck (F : Fd) : ∀ p, ¬ Nxt (kr F) (kd F) p := (Classical.choose_spec (stuck_ex (kr F))).2
theorem kd_eq {F : Fd} {d : Nat → Nat} (h : Reach (kr F) d) (hs : ∀ p, ¬ Nxt (kr F) d p) : d = kd F := stuck_eq h hs (kd_reach F) (kd_stuck F)
noncomputable def knR (F : Fd) : Rn := cutF (kr F) (kd F)
theorem knR_len (F : Fd) : (knR F).length = F.length := by unfold knR cutF; rw [List.length_map, List.length_range, kr_len]
theorem kd_le (F : Fd) (p : Nat) : kd F p ≤ lens (kr F) p := (kd_reach F).le_len p
theorem knR_row (F : Fd) (p : Nat) : (knR F).getD p [] = (beg (ro F p) 30 1).take (kd F p) := by unfold knR; rw [cut_getD, kr_row]
theorem knR_rlen (F : Fd) (p : Nat) : ((knR F).getD p []).length = kd F p := by
  rw [knR_row, List.length_take]
  have := kd_le F p
  unfold lens at this
  rw [kr_row] at this
  omega
/-! ### events of one run -/
structure Sub (F : Fd) (rows : Rn) : Prop where
  len : F.length = rows.length
  ev : ∀ p z, z ∈ ro F p → 1 ≤ z.1 ∧ evAt rows p (z.1 - 1) = some z.2
theorem Sub.at_ {F : Fd} {rows : Rn} (h : Sub F rows) {p i : Nat} {e : Ev} (he : evAt (kr F) p i = some e) : evAt rows p i = some e := by
  have := h.ev p _ (lk_mem (kr_at.mp he).2.2)
  exact this.2
theorem Sub.take_ {F : Fd} {rows : Rn} (h : Sub F rows) (p m : Nat) (hm : m ≤ lens (kr F) p) : ((kr F).getD p []).take m = (rows.getD p []).take m := by
  refine List.ext_getElem? fun i => ?_
  rw [List.getElem?_take, List.getElem?_take]
  by_cases c : i < m
  · rw [if_pos c, if_pos c]
    have hl : i < ((kr F).getD p []).length := by unfold lens at hm; omega
    have e : evAt (kr F) p i = some ((kr F).getD p [])[i] := List.getElem?_eq_getElem hl
    have e2 := h.at_ e
    unfold evAt at e2
    rw [List.getElem?_eq_getElem hl, e2]
  · rw [if_neg c, if_neg c]
theorem Sub.kn {F : Fd} {rows : Rn} (h : Sub F rows) : knR F = cutF rows (kd F) := by
  unfold knR cutF
  rw [kr_len, h.len]
  refine List.map_congr_left fun p hp => ?_
  exact h.take_ p _ (kd_le F p)
/-- what is reached of a part is reached of more -/
theorem reach_more {F F' : Fd} (hs : ∀ p i e, evAt (kr F) p i = some e → evAt (kr F') p i = some e) {d : Nat → Nat} (h : Reach (kr F) d) : Reach (kr F') d := by
  induction h with
  | zero => exact .zero
  | step r en ih =>
    obtain ⟨e, he, ht⟩ := en
    refine .step ih ⟨e, hs _ _ _ he, fun l cs z => ?_⟩
    obtain ⟨q, i, cs', hi, hq⟩ := ht l cs z
    exact ⟨q, i, cs', hi, hs _ _ _ hq⟩
theorem kd_mono {F F' : Fd} (hs : ∀ p i e, lk (ro F p) i = some e → lk (ro F' p) i = some e) (q : Nat) : kd F q ≤ kd F' q := by
  refine (reach_more (F := F) (F' := F') (fun p i e he => ?_) (kd_reach F)).le_stuck (kd_stuck F') q
  obtain ⟨h1, h2, h3⟩ := kr_at.mp he
  refine kr_at.mpr ⟨h1, fun t ht => ?_, hs _ _ _ h3⟩
  obtain ⟨x, hx⟩ := Option.isSome_iff_exists.mp (h2 t ht)
  rw [hs _ _ _ hx]; rfl
theorem kr_congr {F F' : Fd} (hl : F.length = F'.length) (hs : ∀ p i, lk (ro F p) i = lk (ro F' p) i) : kr F = kr F' := by
  have key : ∀ (r r' : Fr), (∀ i, lk r i = lk r' i) → ∀ m j, beg r m j = beg r' m j := by
    intro r r' h m
    induction m with
    | zero => intro j; rfl
    | succ m ih => intro j; rw [beg, beg, h, ih]
  refine List.ext_getElem? fun p => ?_
  by_cases c : p < F.length
  · have e1 : (kr F)[p]? = some ((kr F).getD p []) := by rw [getD_of (by rw [kr_len]; exact c)]; exact List.getElem?_eq_getElem _
    have e2 : (kr F')[p]? = some ((kr F').getD p []) := by rw [getD_of (by rw [kr_len]; omega)]; exact List.getElem?_eq_getElem _
    rw [e1, e2, kr_row, kr_row, key _ _ (hs p)]
  · rw [List.getElem?_eq_none (by rw [kr_len]; omega), List.getElem?_eq_none (by rw [kr_len]; omega)]
theorem kn_congr {F F' : Fd} (hl : F.length = F'.length) (hs : ∀ p i, lk (ro F p) i = lk (ro F' p) i) : knR F = knR F' ∧ kd F = kd F' := by
  have e := kr_congr hl hs
  have e2 : kd F = kd F' := kd_eq (by rw [← e]; exact kd_reach F) (by rw [← e]; exact kd_stuck F)
  exact ⟨by unfold knR; rw [e, e2], e2⟩
/-- all was fed: all is known -/
theorem Sub.all {F : Fd} {rows : Rn} (h : Sub F rows) (hr : Reach rows (lens rows)) (hall : ∀ p i, i < lens rows p → (lk (ro F p) (i + 1)).isSome = true) (h30 : ∀ p, lens rows p ≤ 30) : kd F = lens rows ∧ knR F = rows := by
  have ev : ∀ p i, evAt (kr F) p i = evAt rows p i := fun p i => by
    cases e : evAt (kr F) p i with
    | some x => exact (h.at_ e).symm
    | none =>
      cases e2 : evAt rows p i with
      | none => rfl
      | some x =>
        exfalso
        have hi := evAt_lt e2
        obtain ⟨y, hy⟩ := Option.isSome_iff_exists.mp (hall p i hi)
        have : evAt (kr F) p i = some y := kr_at.mpr ⟨by have := h30 p; omega, fun t ht => hall p t (by omega), hy⟩
        rw [e] at this; cases this
  have re : Reach (kr F) (lens rows) := by
    have : ∀ {d}, Reach rows d → Reach (kr F) d := fun {d} h => by
      induction h with
      | zero => exact .zero
      | step r en ih =>
        obtain ⟨e, he, ht⟩ := en
        refine .step ih ⟨e, by rw [ev]; exact he, fun l cs z => ?_⟩
        obtain ⟨q, i, cs', hi, hq⟩ := ht l cs z
        exact ⟨q, i, cs', hi, by rw [ev]; exact hq⟩
    exact this hr
  have st : ∀ p, ¬ Nxt (kr F) (lens rows) p := fun p ⟨e, he, _⟩ => by
    rw [ev] at he
    have := evAt_lt he
    omega
  have e := kd_eq re st
  refine ⟨e.symm, ?_⟩
  rw [h.kn, ← e]
  unfold cutF
  refine List.ext_getElem? fun p => ?_
  by_cases c : p < rows.length
  · rw [List.getElem?_map, List.getElem?_range c, List.getElem?_eq_getElem c]
    show some ((rows.getD p []).take (lens rows p)) = _
    unfold lens
    rw [List.take_length, getD_of c]
  · rw [List.getElem?_eq_none (by rw [List.length_map, List.length_range]; omega), List.getElem?_eq_none (by omega)]
end Lk
namespace Lk
open PyProof.Rows L2 Ip
/-! ### can fed events be put into one row? -/
/-- a send of l is left -/
def Uns (L : Rn) (d : Nat → Nat) (l : Int) : Prop := ∃ q i cs, d q ≤ i ∧ evAt L q i = some (.send l cs)
def Nx2 (L : Rn) (d : Nat → Nat) (p : Nat) : Prop := ∃ e, evAt L p (d p) = some e ∧ ∀ l cs, e = .take l cs → ¬ Uns L d l
inductive Re2 (L : Rn) : (Nat → Nat) → Prop
  | zero : Re2 L (fun _ => 0)
  | step {d : Nat → Nat} {p : Nat} : Re2 L d → Nx2 L d p → Re2 L (bump d p)
theorem Uns.mono {L : Rn} {d d' : Nat → Nat} {l : Int} (h : ∀ q, d q ≤ d' q) : Uns L d' l → Uns L d l := fun ⟨q, i, cs, hi, e⟩ => ⟨q, i, cs, Nat.le_trans (h q) hi, e⟩
theorem Re2.le_stuck {L : Rn} {d d' : Nat → Nat} (h : Re2 L d) (hs : ∀ p, ¬ Nx2 L d' p) : ∀ q, d q ≤ d' q := by
  induction h with
  | zero => intro q; exact Nat.zero_le _
  | step r en ih =>
    rename_i d p
    intro q
    by_cases c : q = p
    · subst c
      rw [bump_same]
      refine Classical.byContradiction fun z => ?_
      have e : d q = d' q := by have := ih q; omega
      obtain ⟨x, hx, ht⟩ := en
      exact hs q ⟨x, by rw [← e]; exact hx, fun l cs hl hu => ht l cs hl (hu.mono ih)⟩
    · rw [bump_ne c]; exact ih q
theorem Re2.le_len {L : Rn} {d : Nat → Nat} (h : Re2 L d) : ∀ q, d q ≤ lens L q := by
  induction h with
  | zero => intro q; exact Nat.zero_le _
  | step r en ih =>
    rename_i d p
    intro q
    by_cases c : q = p
    · subst c
      rw [bump_same]
      obtain ⟨x, hx, _⟩ := en
      exact evAt_lt hx
    · rw [bump_ne c]; exact ih q
def Po2 (L : Rn) : Prop := Re2 L (lens L)
theorem po2_stuck {L : Rn} {d : Nat → Nat} (h : Re2 L d) (hs : ∀ p, ¬ Nx2 L d p) : Po2 L ↔ ∀ p, d p = lens L p := by
  constructor
  · intro hp p
    exact Nat.le_antisymm (h.le_len p) (Re2.le_stuck hp hs p)
  · intro hp
    have : d = lens L := funext hp
    unfold Po2
    rw [← this]; exact h
/-! the fed events in the order of their numbers -/
def ixs (r : Fr) : List Nat := (sortI (r.map fun z => (z.1 : Int))).map Int.toNat
def evI (r : Fr) (i : Nat) : Ev := (lk r i).getD (.step [])
def srt (r : Fr) : List Ev := (ixs r).map (evI r)
def sL (F : Fd) : Rn := F.map srt
theorem insI_perm' (i : Int) : ∀ js : List Int, (insI i js).Perm (i :: js)
  | [] => .refl _
  | j :: js => by
    unfold insI
    split
    · exact .refl _
    · exact ((insI_perm' i js).cons j).trans (.swap i j js)
theorem sortI_perm' : ∀ is : List Int, (sortI is).Perm is
  | [] => .refl _
  | i :: is => (insI_perm' i _).trans ((sortI_perm' is).cons i)
theorem insI_sort (i : Int) : ∀ js : List Int, js.Pairwise (· ≤ ·) → (insI i js).Pairwise (· ≤ ·)
  | [], _ => by simp [insI]
  | j :: js, h => by
    unfold insI
    rw [List.pairwise_cons] at h
    split
    · rename_i c
      rw [List.pairwise_cons]
      refine ⟨fun z hz => ?_, List.pairwise_cons.mpr h⟩
      rcases List.mem_cons.mp hz with rfl | hz
      · exact c
      · exact Int.le_trans c (h.1 z hz)
    · rename_i c
      rw [List.pairwise_cons]
      refine ⟨fun z hz => ?_, insI_sort i js h.2⟩
      rcases List.mem_cons.mp ((insI_perm' i js).mem_iff.mp hz) with rfl | hz
      · omega
      · exact h.1 z hz
theorem sortI_sort : ∀ is : List Int, (sortI is).Pairwise (· ≤ ·)
  | [] => List.Pairwise.nil
  | i :: is => insI_sort i _ (sortI_sort is)
theorem ixs_perm (r : Fr) : (ixs r).Perm (r.map (·.1)) := by
  have h := (sortI_perm' (r.map fun z => (z.1 : Int))).map Int.toNat
  have e : (r.map fun z => (z.1 : Int)).map Int.toNat = r.map (·.1) := by
    rw [List.map_map]
    exact List.map_congr_left fun z _ => by simp
  rw [e] at h
  exact h
theorem ixs_int (r : Fr) : (sortI (r.map fun z => (z.1 : Int))) = (ixs r).map fun i : Nat => (i : Int) := by
  unfold ixs
  rw [List.map_map]
  have : ∀ x ∈ sortI (r.map fun z => (z.1 : Int)), ((fun i : Nat => (i : Int)) ∘ Int.toNat) x = x := fun x hx => by
    have := (sortI_perm' _).mem_iff.mp hx
    obtain ⟨z, _, rfl⟩ := List.mem_map.mp this
    simp
  conv => lhs; rw [← List.map_id (sortI (r.map fun z => (z.1 : Int)))]
  exact (List.map_congr_left fun x hx => (this x hx)).symm
theorem ixs_sorted (r : Fr) (nd : (r.map (·.1)).Nodup) : (ixs r).Pairwise (· < ·) := by
  have h1 : (ixs r).Nodup := (ixs_perm r).nodup_iff.mpr nd
  have h2 : (ixs r).Pairwise (· ≤ ·) := by
    unfold ixs
    exact (sortI_sort _).map _ fun a b h => by omega
  exact List.Pairwise.imp₂ (fun {a b} h1 h2 => Nat.lt_of_le_of_ne h1 h2) h2 h1
theorem ixs_mem {r : Fr} {i : Nat} : i ∈ ixs r ↔ i ∈ r.map (·.1) := (ixs_perm r).mem_iff
theorem ixs_eq {r r' : Fr} (nd : (r.map (·.1)).Nodup) (nd' : (r'.map (·.1)).Nodup) (h : ∀ i, i ∈ r.map (·.1) ↔ i ∈ r'.map (·.1)) : ixs r = ixs r' := by
  refine List.Perm.eq_of_pairwise (le := (· ≤ ·)) (fun a b _ _ h1 h2 => Nat.le_antisymm h1 h2) ((ixs_sorted r nd).imp Nat.le_of_lt) ((ixs_sorted r' nd').imp Nat.le_of_lt) ?_
  exact (ixs_perm r).trans (((List.perm_ext_iff_of_nodup nd nd').mpr h).trans (ixs_perm r').symm)
theorem srt_len (r : Fr) : (srt r).length = r.length := by
  unfold srt
  rw [List.length_map, (ixs_perm r).length_eq, List.length_map]
theorem sL_row (F : Fd) (p : Nat) : (sL F).getD p [] = srt (ro F p) := by
  unfold sL ro
  rw [List.getD_eq_getElem?_getD, List.getElem?_map, List.getD_eq_getElem?_getD]
  cases F[p]? <;> rfl
theorem sL_len (F : Fd) : (sL F).length = F.length := List.length_map ..
theorem sL_at {F : Fd} {p n : Nat} {e : Ev} : evAt (sL F) p n = some e ↔ ∃ i, (ixs (ro F p))[n]? = some i ∧ lk (ro F p) i = some e := by
  unfold evAt
  rw [sL_row]
  unfold srt
  rw [List.getElem?_map]
  constructor
  · intro h
    obtain ⟨i, hi, he⟩ := Option.map_eq_some_iff.mp h
    refine ⟨i, hi, ?_⟩
    have : i ∈ (ro F p).map (·.1) := ixs_mem.mp (List.mem_of_getElem? hi)
    unfold evI at he
    cases hl : lk (ro F p) i with
    | none => exact absurd this (lk_none.mp hl)
    | some x => rw [hl] at he; rw [← he]; rfl
  · rintro ⟨i, hi, hl⟩
    rw [hi]
    show some (evI (ro F p) i) = _
    unfold evI
    rw [hl]; rfl
theorem sL_lens (F : Fd) (p : Nat) : lens (sL F) p = (ro F p).length := by unfold lens; rw [sL_row, srt_len]
/-! events of one run can be put into one row -/
def cnt (F : Fd) (d : Nat → Nat) (p : Nat) : Nat := ((ixs (ro F p)).filter fun i => decide (i ≤ d p)).length
theorem filt_take {l : List Nat} (h : l.Pairwise (· < ·)) (m : Nat) : l.filter (fun i => decide (i ≤ m)) = l.take (l.filter fun i => decide (i ≤ m)).length := by
  induction l with
  | nil => rfl
  | cons a l ih =>
    rw [List.pairwise_cons] at h
    by_cases c : a ≤ m
    · rw [List.filter_cons, if_pos (decide_eq_true c), List.length_cons, List.take_succ_cons, ← ih h.2]
    · rw [List.filter_cons, if_neg (by rw [decide_eq_false c]; decide)]
      have : l.filter (fun i => decide (i ≤ m)) = [] := List.filter_eq_nil_iff.mpr fun b hb => by
        have := h.1 b hb
        rw [decide_eq_true_eq]; omega
      rw [this]; rfl
theorem cnt_lt {F : Fd} (nd : ∀ p, ((ro F p).map (·.1)).Nodup) {d : Nat → Nat} {p n i : Nat} (h : (ixs (ro F p))[n]? = some i) : n < cnt F d p ↔ i ≤ d p := by
  have hs := ixs_sorted (ro F p) (nd p)
  have ht := filt_take hs (d p)
  unfold cnt
  constructor
  · intro hn
    have : i ∈ (ixs (ro F p)).filter (fun i => decide (i ≤ d p)) := by
      rw [ht]
      refine List.mem_of_getElem? (i := n) ?_
      rw [List.getElem?_take, if_pos hn]; exact h
    have := (List.mem_filter.mp this).2
    rwa [decide_eq_true_eq] at this
  · intro hi
    have hm : i ∈ (ixs (ro F p)).filter (fun i => decide (i ≤ d p)) := List.mem_filter.mpr ⟨List.mem_of_getElem? h, decide_eq_true hi⟩
    rw [ht] at hm
    obtain ⟨m, hm1, hm2⟩ := List.getElem_of_mem hm
    rw [List.length_take] at hm1
    rw [List.getElem_take] at hm2
    have hnd : (ixs (ro F p)).Nodup := (ixs_perm _).nodup_iff.mpr (nd p)
    have : m = n := by
      obtain ⟨hn, hn2⟩ := List.getElem?_eq_some_iff.mp h
      exact (List.getElem_inj (h₀ := by omega) (h₁ := hn) hnd).mp (by rw [hm2, hn2])
    omega
theorem sub_po2 {F : Fd} {rows : Rn} (h : Sub F rows) (nd : ∀ p, ((ro F p).map (·.1)).Nodup) (hn : (sends rows).Nodup) (hr : Reach rows (lens rows)) : Po2 (sL F) := by
  have key : ∀ {d : Nat → Nat}, Reach rows d → Re2 (sL F) (cnt F d) := fun {d} hd => by
    induction hd with
    | zero =>
      have : cnt F (fun _ => 0) = fun _ => 0 := funext fun p => by
        unfold cnt
        rw [List.length_eq_zero_iff, List.filter_eq_nil_iff]
        intro i hi
        obtain ⟨z, hz, rfl⟩ := List.mem_map.mp (ixs_mem.mp hi)
        have := (h.ev p z hz).1
        rw [decide_eq_true_eq]
        show ¬ z.1 ≤ 0
        omega
      rw [this]; exact .zero
    | step r en ih =>
      rename_i d p
      have other : ∀ q, q ≠ p → cnt F (bump d p) q = cnt F d q := fun q hq => by unfold cnt; rw [bump_ne hq]
      by_cases hin : d p + 1 ∈ (ro F p).map (·.1)
      · obtain ⟨z, hz, hz1⟩ := List.mem_map.mp hin
        have hm : d p + 1 ∈ ixs (ro F p) := ixs_mem.mpr hin
        obtain ⟨n, hn1, hn2⟩ := List.getElem_of_mem hm
        have hg : (ixs (ro F p))[n]? = some (d p + 1) := by rw [List.getElem?_eq_getElem hn1, hn2]
        have c1 : n < cnt F (bump d p) p := (cnt_lt nd hg).mpr (by rw [bump_same]; exact Nat.le_refl _)
        have c2 : ¬ n < cnt F d p := fun z => by have := (cnt_lt nd hg).mp z; omega
        have c3 : cnt F (bump d p) p ≤ cnt F d p + 1 := by
          refine Classical.byContradiction fun c => ?_
          -- the item at cnt F d p would be at most d p + 1, and so would the next one
          have l1 : cnt F (bump d p) p ≤ (ixs (ro F p)).length := List.length_filter_le ..
          have hs := ixs_sorted (ro F p) (nd p)
          have g1 : (ixs (ro F p))[cnt F d p]? = some (ixs (ro F p))[cnt F d p] := List.getElem?_eq_getElem (by omega)
          have g2 : (ixs (ro F p))[cnt F d p + 1]? = some (ixs (ro F p))[cnt F d p + 1] := List.getElem?_eq_getElem (by omega)
          have a1 := (cnt_lt nd g2).mp (show cnt F d p + 1 < cnt F (bump d p) p by omega)
          rw [bump_same] at a1
          have a2 : ¬ (ixs (ro F p))[cnt F d p] ≤ d p := fun z => by have := (cnt_lt nd g1).mpr z; omega
          have a3 := List.pairwise_iff_getElem.mp hs (cnt F d p) (cnt F d p + 1) (by omega) (by omega) (by omega)
          omega
        have c4 : n = cnt F d p := by omega
        have e : cnt F (bump d p) = bump (cnt F d) p := funext fun q => by
          by_cases hq : q = p
          · subst hq; rw [bump_same]; omega
          · rw [bump_ne hq]; exact other q hq
        rw [e]
        obtain ⟨x, hx, ht⟩ := en
        have hx2 := (h.ev p z hz).2
        have hz1 : z.1 = d p + 1 := hz1
        rw [hz1, Nat.add_sub_cancel, hx] at hx2
        cases hx2
        have lkz : lk (ro F p) (d p + 1) = some z.2 := lk_of (nd p) (by rw [← hz1]; exact hz)
        refine .step ih ⟨z.2, sL_at.mpr ⟨d p + 1, by rw [← c4]; exact hg, lkz⟩, fun l cs hl hu => ?_⟩
        obtain ⟨q, i, cs', hi, hs⟩ := ht l cs hl
        obtain ⟨q2, n2, cs2, hn2', hs2⟩ := hu
        obtain ⟨j, hj, hlj⟩ := sL_at.mp hs2
        have e2 := h.ev q2 _ (lk_mem hlj)
        obtain ⟨e3, e4⟩ := uniq hn hs e2.2
        subst e3
        have : n2 < cnt F d q := (cnt_lt nd hj).mpr (by
          have h1 : 1 ≤ j := e2.1
          have h2 : i = j - 1 := e4
          omega)
        omega
      · have e : cnt F (bump d p) = cnt F d := funext fun q => by
          by_cases hq : q = p
          · subst hq
            unfold cnt
            congr 1
            refine List.filter_congr fun i hi => ?_
            rw [decide_eq_decide, bump_same]
            constructor
            · intro hle
              have : i ≠ d q + 1 := fun z => hin (by rw [← z]; exact ixs_mem.mp hi)
              omega
            · intro hle; omega
          · exact other q hq
        rw [e]; exact ih
  have e : cnt F (lens rows) = lens (sL F) := funext fun p => by
    rw [sL_lens]
    unfold cnt
    rw [List.filter_eq_self.mpr fun i hi => ?_, (ixs_perm _).length_eq, List.length_map]
    obtain ⟨z, hz, rfl⟩ := List.mem_map.mp (ixs_mem.mp hi)
    have := h.ev p z hz
    have h2 := evAt_lt this.2
    rw [decide_eq_true_eq]; omega
  have := key hr
  rw [e] at this
  exact this
end Lk
namespace Lk
open PyProof.Rows L2 Ip
/-! ### the watcher in the store -/
def wNm : List PySem.Str := ["_count", "_rows"]
structure Wat (S : Sto) (w : Nat) (F : Fd) : Prop where
  ob : S[w]? = some (.ins 0 wNm [.int (F.length : Nat), .lst (refs (w + 1) F.length)])
  row : ∀ p, p < F.length → S[w + 1 + p]? = some (rowF (ro F p))
theorem Wat.app {S : Sto} {w : Nat} {F : Fd} (h : Wat S w F) (T : Sto) : Wat (S ++ T) w F :=
  ⟨by rw [List.getElem?_append_left (List.getElem?_eq_some_iff.mp h.ob).1]; exact h.ob, fun p hp => by
    rw [List.getElem?_append_left (List.getElem?_eq_some_iff.mp (h.row p hp)).1]; exact h.row p hp⟩
section
variable {S : Sto} {w : Nat} {F : Fd}
theorem w_rows (h : Wat S w F) : fldD S 0 (.ref w) "_rows" = some (.lst (refs (w + 1) F.length)) := by
  unfold fldD insD
  simp only [h.ob]
  simp [wNm, fldL]
theorem w_count (h : Wat S w F) : fldD S 0 (.ref w) "_count" = some (.int (F.length : Nat)) := by
  unfold fldD insD
  simp only [h.ob]
  simp [wNm, fldL]
theorem w_mth (h : Wat S w F) (m : PySem.Str) (hm : (wNm.all fun n => decide (n ≠ m)) = true) : mthD S 0 (.ref w) m = true := by
  unfold mthD insD
  simp only [h.ob]
  rw [hm]; rfl
theorem row_dct {p : Nat} (h : Wat S w F) (hp : p < F.length) : dctD S (.ref (w + 1 + p)) = some (0, rowK (ro F p), rowV (ro F p)) := dctD_dref (h.row p hp)
theorem row_ix {p i : Nat} (h : Wat S w F) (hp : p < F.length) : ixD S (.ref (w + 1 + p)) (.int (i : Int)) = (lk (ro F p) i).map Ev.d := by
  rw [ixD_dref (h.row p hp), dGet_0i]
  show lookK kKey (.inl (i : Int)) (rowK (ro F p)) (rowV (ro F p)) = _
  rw [lookK_row]
theorem rows_at {p : Nat} (hp : p < F.length) (U : Sto) : ixD U (.lst (refs (w + 1) F.length)) (.int (p : Int)) = some (.ref (w + 1 + p)) := by
  rw [ixD_lst, refs_at (by omega) (by omega)]
  simp
def evO : Option Ev → D
  | some e => e.d
  | none => .non
theorem row_get {p i : Nat} (h : Wat S w F) (hp : p < F.length) : meD .get (.ref (w + 1 + p)) [.int (i : Int)] S = some (.ok (evO (lk (ro F p) i)) S) := by
  have e : meD .get (.ref (w + 1 + p)) [.int (i : Int)] S = (match dctD S (.ref (w + 1 + p)) with
    | some q => okO ((dGet q (.int (i : Int))).map fun r => r.getD .non) S
    | none => none) := rfl
  rw [e, row_dct h hp]
  show okO (some ((lookK kKey (.inl (i : Int)) (rowK (ro F p)) (rowV (ro F p))).getD .non)) S = _
  rw [lookK_row]
  cases lk (ro F p) i <;> rfl
theorem row_ty {p : Nat} (h : Wat S w F) (hp : p < F.length) : tyM .get (.ref (w + 1 + p)) S = true := by
  show (dctD S (.ref (w + 1 + p))).isSome = true
  rw [row_dct h hp]; rfl
/-! two things behind the store -/
theorem p2_0 (x y : Ob) : (S ++ [x, y])[S.length]? = some x := by simp
theorem p2_1 (x y : Ob) : (S ++ [x, y])[S.length + 1]? = some y := by simp
theorem s2_0 (x y z : Ob) : (S ++ [x, y]).set S.length z = S ++ [z, y] := by simp
theorem s2_1 (x y z : Ob) : (S ++ [x, y]).set (S.length + 1) z = S ++ [x, z] := by simp
theorem ev_non (e : Ev) : isD e.d .non = some false := by cases e <;> rfl
theorem ev_0 (e : Ev) (U : Sto) : ixD U e.d (.int 0) = some (.str (match e with
    | .step _ => "step"
    | .send _ _ => "send"
    | .take _ _ => "take")) := by cases e <;> rfl
/-! known: the loop -/
def kS (S : Sto) (n : Nat) (d : Nat → Nat) (ks : List Int) : Sto := S ++ [.lst (dl n d), kt ks]
def kE (w a : Nat) (mv : Bool) (v4 v5 v6 v7 : Option D) : Ip.En := [some (.ref w), some (.ref a), some (.ref (a + 1)), some (.bl mv), v4, v5, v6, v7]
theorem kn_step (k : Nat) (hF : FOk F) (hW : Wat S w F) {p : Nat} (hp : p < F.length) {d : Nat → Nat} {ks : List Int} (hr : Reach (kr F) d) (hk : KS (kr F) d ks) (mv : Bool) (v6 v7 : Option D) :
    ∃ d' ks' mv' c6, Reach (kr F) d' ∧ KS (kr F) d' ks' ∧ ((Nxt (kr F) d p ∧ d' = bump d p ∧ mv' = true) ∨ (¬ Nxt (kr F) d p ∧ d' = d ∧ mv' = mv)) ∧
      (execs (C k) T0 l_Watcher_known_1 (kE w S.length mv (some (.int (p : Int))) (some (.ref (w + 1 + p))) v6 v7) (kS S F.length d ks) = some (.nx (kE w S.length mv' (some (.int (p : Int))) (some (.ref (w + 1 + p))) c6 v7) (kS S F.length d' ks')) ∨
       execs (C k) T0 l_Watcher_known_1 (kE w S.length mv (some (.int (p : Int))) (some (.ref (w + 1 + p))) v6 v7) (kS S F.length d ks) = some (.ct (kE w S.length mv' (some (.int (p : Int))) (some (.ref (w + 1 + p))) c6 v7) (kS S F.length d' ks'))) := by
  have hW' : Wat (kS S F.length d ks) w F := hW.app _
  have hn := kr_next hF hr p
  have tt : tot (kr F).length d ≤ 180 := by
    have := tot_le (m := 30) (fun q => Nat.le_trans (hr.le_len q) (by
      refine Classical.byContradiction fun c => ?_
      have e : evAt (kr F) q 30 = some ((kr F).getD q [])[30] := List.getElem?_eq_getElem (by omega)
      have := (kr_at.mp e).1
      omega)) (n := (kr F).length)
    have h6 := hF.l6
    rw [kr_len] at this ⊢
    omega
  have kl : ks.length ≤ 1000 := by have := hk.2; omega
  have hpk : p < (kr F).length := by rw [kr_len]; exact hp
  have g0 : (kS S F.length d ks)[S.length]? = some (.lst (dl F.length d)) := p2_0 _ _
  have g1 : (kS S F.length d ks)[S.length + 1]? = some (kt ks) := p2_1 _ _
  have i1 : ixD (kS S F.length d ks) (.ref S.length) (.int (p : Int)) = some (.int (d p : Nat)) := by rw [ixD_ref g0, atI_nn, dl_get hp]
  have gt := row_get (i := d p + 1) hW' hp
  have ty := row_ty hW' hp
  have x1 : exec (C k) T0 (.asg (.n 6) (.me .get (.v 5) (.cons (.bin .add false (.ix (.v 1) (.v 4)) (.c (.int 1))) .nil))) (kE w S.length mv (some (.int (p : Int))) (some (.ref (w + 1 + p))) v6 v7) (kS S F.length d ks) = some (.nx (kE w S.length mv (some (.int (p : Int))) (some (.ref (w + 1 + p))) (some (evO (lk (ro F p) (d p + 1)))) v7) (kS S F.length d ks)) := by
    have gt : meD .get (.ref (w + 1 + p)) [.int ((d p : Int) + 1)] (kS S F.length d ks) = _ := gt
    unfold kE
    generalize kS S F.length d ks = U at *
    simp only [exec, evalE, evalEs, List.getElem?_cons_succ, List.getElem?_cons_zero, bnd_ok, ty, if_true, i1, okO_some, Cst.d, binD_add, gt, bnS_ok, asg_n, List.set_cons_succ, List.set_cons_zero]
  -- numbers[process] += 1; moved = True
  have x4 : ∀ ks v6, execs (C k) T0 (.cons (.augS (.v 1) (.v 4) .add (.c (.int 1))) (.cons (.asg (.n 3) (.c (.bl true))) .nil)) (kE w S.length mv (some (.int (p : Int))) (some (.ref (w + 1 + p))) v6 v7) (kS S F.length d ks) = some (.nx (kE w S.length true (some (.int (p : Int))) (some (.ref (w + 1 + p))) v6 v7) (kS S F.length (bump d p) ks)) := fun ks v6 => by
    have g0 : getL (kS S F.length d ks) S.length = some (dl F.length d) := getL_eq (p2_0 _ _)
    have a1 : atI (dl F.length d) (p : Int) = some (.int (d p : Nat)) := by rw [atI_nn, dl_get hp]
    have nx : ixN (dl F.length d).length (p : Int) = some p := by
      unfold ixN
      rw [dl_len, if_pos (by omega), if_pos (by omega)]; simp
    have st : (kS S F.length d ks).set S.length (.lst ((dl F.length d).set p (.int ((d p : Int) + 1)))) = kS S F.length (bump d p) ks := by
      unfold kS
      rw [s2_0, dl_set hp]
    unfold kE
    simp only [execs, exec, evalE, List.getElem?_cons_succ, List.getElem?_cons_zero, bnS_ok, g0, a1, Cst.d, augI, nx, st, seqS_nx, asg_n, List.set_cons_succ, List.set_cons_zero]
  cases hl : lk (ro F p) (d p + 1) with
  | none =>
    rw [hl] at hn x1
    refine ⟨d, ks, mv, some .non, hr, hk, .inr ⟨(fun ⟨e, he, _⟩ => by rw [hn] at he; cases he), rfl, rfl⟩, .inr ?_⟩
    unfold l_Watcher_known_1
    rw [ex_go x1]
    unfold kE
    simp only [execs, exec, evalT, evalE, List.getElem?_cons_succ, List.getElem?_cons_zero, bnd_ok, Cst.d, cmpD_is, evO, isD_nn, okO_some, bnS_ok, seqS_ct]
  | some e =>
    rw [hl] at hn x1
    have nn := ev_non e
    have e0 := fun U => ev_0 e U
    cases e with
    | step cs =>
      have q1 : ∀ U, cmpD .eq (.str "step") (.str "take") U = some false := fun U => by simp
      have q2 : ∀ U, cmpD .eq (.str "step") (.str "send") U = some false := fun U => by simp
      refine ⟨bump d p, ks, true, some (Ev.step cs).d, .step hr ⟨_, hn, fun l cs' z => by cases z⟩, hk.none hpk hn (fun _ _ z => by cases z), .inl ⟨⟨_, hn, fun l cs' z => by cases z⟩, rfl, rfl⟩, .inl ?_⟩
      have x2 : exec (C k) T0 (.ifs (.or (.cmp .is_ (.v 6) (.c .non)) (.and (.cmp .eq (.ix (.v 6) (.c (.int 0))) (.c (.str "take"))) (.cmp .notin (.ix (.v 6) (.c (.int 1))) (.v 2)))) (.cons .cont .nil) .nil) (kE w S.length mv (some (.int (p : Int))) (some (.ref (w + 1 + p))) (some (evO (some (.step cs)))) v7) (kS S F.length d ks) = some (.nx (kE w S.length mv (some (.int (p : Int))) (some (.ref (w + 1 + p))) (some (evO (some (.step cs)))) v7) (kS S F.length d ks)) := by
        unfold kE evO
        simp only [exec, evalT, evalE, List.getElem?_cons_succ, List.getElem?_cons_zero, bnd_ok, Cst.d, cmpD_is, nn, okO_some, e0, q1, bnS_ok, execs]
      have x3 : exec (C k) T0 (.ifs (.cmp .eq (.ix (.v 6) (.c (.int 0))) (.c (.str "send"))) (.cons (.asgS (.v 2) (.ix (.v 6) (.c (.int 1))) (.c (.bl true))) .nil) .nil) (kE w S.length mv (some (.int (p : Int))) (some (.ref (w + 1 + p))) (some (evO (some (.step cs)))) v7) (kS S F.length d ks) = some (.nx (kE w S.length mv (some (.int (p : Int))) (some (.ref (w + 1 + p))) (some (evO (some (.step cs)))) v7) (kS S F.length d ks)) := by
        unfold kE evO
        simp only [exec, evalT, evalE, List.getElem?_cons_succ, List.getElem?_cons_zero, bnd_ok, Cst.d, okO_some, e0, q2, bnS_ok, execs]
      unfold l_Watcher_known_1
      rw [ex_go x1, ex_go x2, ex_go x3, x4]; rfl
    | send l cs =>
      have q1 : ∀ U, cmpD .eq (.str "send") (.str "take") U = some false := fun U => by simp
      have q2 : ∀ U, cmpD .eq (.str "send") (.str "send") U = some true := fun U => by simp
      refine ⟨bump d p, insK l ks, true, some (Ev.send l cs).d, .step hr ⟨_, hn, fun l cs' z => by cases z⟩, hk.send hpk hn, .inl ⟨⟨_, hn, fun l cs' z => by cases z⟩, rfl, rfl⟩, .inl ?_⟩
      have x2 : exec (C k) T0 (.ifs (.or (.cmp .is_ (.v 6) (.c .non)) (.and (.cmp .eq (.ix (.v 6) (.c (.int 0))) (.c (.str "take"))) (.cmp .notin (.ix (.v 6) (.c (.int 1))) (.v 2)))) (.cons .cont .nil) .nil) (kE w S.length mv (some (.int (p : Int))) (some (.ref (w + 1 + p))) (some (evO (some (.send l cs)))) v7) (kS S F.length d ks) = some (.nx (kE w S.length mv (some (.int (p : Int))) (some (.ref (w + 1 + p))) (some (evO (some (.send l cs)))) v7) (kS S F.length d ks)) := by
        unfold kE evO
        simp only [exec, evalT, evalE, List.getElem?_cons_succ, List.getElem?_cons_zero, bnd_ok, Cst.d, cmpD_is, nn, okO_some, e0, q1, bnS_ok, execs]
      have i1' : ∀ U, ixD U (Ev.send l cs).d (.int 1) = some (.int l) := fun U => rfl
      have pu : ∀ env, putS (S.length + 1) (.int l) (.bl true) env (kS S F.length d ks) = some (.nx env (kS S F.length d (insK l ks))) := fun env => by
        unfold putS
        rw [show (kS S F.length d ks)[S.length + 1]? = some (.dct 0 (ks.map .int) (ks.map fun _ => .bl true)) from g1]
        simp only
        rw [if_pos (by rw [List.length_map, PySem.sizeLine_eq]; omega)]
        show (some (putW kKey (.inl l) (.int l) (.bl true) (ks.map .int) (ks.map fun _ => .bl true))).map (fun q => So.nx env ((kS S F.length d ks).set (S.length + 1) (.dct 0 q.1 q.2))) = _
        unfold putW
        rw [lookK_kt]
        by_cases c : l ∈ ks
        · rw [if_pos c]
          simp only [Option.isSome_some, if_true, Option.map_some, repV_kt]
          unfold kS insK
          rw [s2_1, if_pos c]; rfl
        · rw [if_neg c]
          simp only [Option.isSome_none, Bool.false_eq_true, if_false, Option.map_some]
          unfold kS insK
          rw [s2_1, if_neg c]
          congr 3
          unfold kt
          simp
      have gl : getL (kS S F.length d ks) (S.length + 1) = none := by unfold getL; rw [g1]; rfl
      have x3 : exec (C k) T0 (.ifs (.cmp .eq (.ix (.v 6) (.c (.int 0))) (.c (.str "send"))) (.cons (.asgS (.v 2) (.ix (.v 6) (.c (.int 1))) (.c (.bl true))) .nil) .nil) (kE w S.length mv (some (.int (p : Int))) (some (.ref (w + 1 + p))) (some (evO (some (.send l cs)))) v7) (kS S F.length d ks) = some (.nx (kE w S.length mv (some (.int (p : Int))) (some (.ref (w + 1 + p))) (some (evO (some (.send l cs)))) v7) (kS S F.length d (insK l ks))) := by
        unfold kE evO
        simp only [exec, evalT, evalE, List.getElem?_cons_succ, List.getElem?_cons_zero, bnd_ok, Cst.d, okO_some, e0, q2, i1', bnS_ok, execs, gl, pu, seqS_nx]
      unfold l_Watcher_known_1
      rw [ex_go x1, ex_go x2, ex_go x3, x4]; rfl
    | take l cs =>
      have q1 : ∀ U, cmpD .eq (.str "take") (.str "take") U = some true := fun U => by simp
      have q2 : ∀ U, cmpD .eq (.str "take") (.str "send") U = some false := fun U => by simp
      have i1' : ∀ U, ixD U (Ev.take l cs).d (.int 1) = some (.int l) := fun U => rfl
      have ni : cmpD .notin (.int l) (.ref (S.length + 1)) (kS S F.length d ks) = some (!decide (l ∈ ks)) := by
        rw [cmpD_nin, inD_dref (t := 0) (ks := ks.map .int) (vs := ks.map fun _ => .bl true) g1, dGet_0i, lookK_kt]
        by_cases c : l ∈ ks
        · rw [if_pos c, decide_eq_true c]; rfl
        · rw [if_neg c, decide_eq_false c]; rfl
      by_cases c : l ∈ ks
      · rw [decide_eq_true c] at ni
        have nx : Nxt (kr F) d p := ⟨_, hn, fun l' cs' z => by cases z; exact (hk.1 l).mp c⟩
        refine ⟨bump d p, ks, true, some (Ev.take l cs).d, .step hr nx, hk.none hpk hn (fun _ _ z => by cases z), .inl ⟨nx, rfl, rfl⟩, .inl ?_⟩
        have x2 : exec (C k) T0 (.ifs (.or (.cmp .is_ (.v 6) (.c .non)) (.and (.cmp .eq (.ix (.v 6) (.c (.int 0))) (.c (.str "take"))) (.cmp .notin (.ix (.v 6) (.c (.int 1))) (.v 2)))) (.cons .cont .nil) .nil) (kE w S.length mv (some (.int (p : Int))) (some (.ref (w + 1 + p))) (some (evO (some (.take l cs)))) v7) (kS S F.length d ks) = some (.nx (kE w S.length mv (some (.int (p : Int))) (some (.ref (w + 1 + p))) (some (evO (some (.take l cs)))) v7) (kS S F.length d ks)) := by
          unfold kE evO
          simp only [exec, evalT, evalE, List.getElem?_cons_succ, List.getElem?_cons_zero, bnd_ok, Cst.d, cmpD_is, nn, okO_some, e0, q1, i1', ni, Bool.not_true, bnS_ok, execs]
        have x3 : exec (C k) T0 (.ifs (.cmp .eq (.ix (.v 6) (.c (.int 0))) (.c (.str "send"))) (.cons (.asgS (.v 2) (.ix (.v 6) (.c (.int 1))) (.c (.bl true))) .nil) .nil) (kE w S.length mv (some (.int (p : Int))) (some (.ref (w + 1 + p))) (some (evO (some (.take l cs)))) v7) (kS S F.length d ks) = some (.nx (kE w S.length mv (some (.int (p : Int))) (some (.ref (w + 1 + p))) (some (evO (some (.take l cs)))) v7) (kS S F.length d ks)) := by
          unfold kE evO
          simp only [exec, evalT, evalE, List.getElem?_cons_succ, List.getElem?_cons_zero, bnd_ok, Cst.d, okO_some, e0, q2, bnS_ok, execs]
        unfold l_Watcher_known_1
        rw [ex_go x1, ex_go x2, ex_go x3, x4]; rfl
      · rw [decide_eq_false c] at ni
        refine ⟨d, ks, mv, some (Ev.take l cs).d, hr, hk, .inr ⟨fun ⟨e', he', h⟩ => c ((hk.1 l).mpr (h l cs (by rw [hn] at he'; exact (Option.some.inj he').symm))), rfl, rfl⟩, .inr ?_⟩
        unfold l_Watcher_known_1
        rw [ex_go x1]
        unfold kE evO
        simp only [execs, exec, evalT, evalE, List.getElem?_cons_succ, List.getElem?_cons_zero, bnd_ok, Cst.d, cmpD_is, nn, okO_some, e0, q1, i1', ni, Bool.not_false, bnS_ok, seqS_ct]
end
end Lk
namespace Lk
open PyProof.Rows L2 Ip
/-! known: the passes -/
theorem enF_rng (g : Nat → D) : ∀ (m i : Nat), enF i ((List.range' i m).map g) = (List.range' i m).map fun p : Nat => .tup [.int (p : Int), g p]
  | 0, i => rfl
  | m + 1, i => by rw [List.range'_succ, List.map_cons, enF, enF_rng g m (i + 1), List.map_cons]
theorem dl_rng (n : Nat) (d : Nat → Nat) : dl n d = (List.range' 0 n).map fun p : Nat => .int (d p : Int) := by unfold dl; rw [List.range_eq_range']
theorem refs_rng (b n : Nat) : refs b n = (List.range' 0 n).map fun p => .ref (b + p) := by unfold refs; rw [List.range_eq_range']
section
variable {S : Sto} {w : Nat} {F : Fd}
theorem kn_pass (k : Nat) (hF : FOk F) (hW : Wat S w F) : ∀ (m j : Nat), j + m = F.length → ∀ (d : Nat → Nat) (ks : List Int) (mv : Bool) (v4 v5 v6 v7 : Option D), Reach (kr F) d → KS (kr F) d ks →
    ∃ d' ks' c4 c5 c6, forL (.t (.cons (.n 4) (.cons (.n 5) .nil))) (fun e S => execs (C k) T0 l_Watcher_known_1 e S) ((List.range' j m).map fun p : Nat => .tup [.int (p : Int), .ref (w + 1 + p)]) (kE w S.length mv v4 v5 v6 v7) (kS S F.length d ks) =
      some (.nx (kE w S.length (mv || decide (tot F.length d < tot F.length d')) c4 c5 c6 v7) (kS S F.length d' ks')) ∧ Reach (kr F) d' ∧ KS (kr F) d' ks' ∧ (∀ q, d q ≤ d' q) ∧ (tot F.length d = tot F.length d' → ∀ p, j ≤ p → p < F.length → ¬ Nxt (kr F) d p)
  | 0, j, _, d, ks, mv, v4, v5, v6, v7, hr, hk => ⟨d, ks, v4, v5, v6, by simp [forL], hr, hk, fun _ => Nat.le_refl _, fun _ p h1 h2 => by omega⟩
  | m + 1, j, hj, d, ks, mv, v4, v5, v6, v7, hr, hk => by
    have hp : j < F.length := by omega
    obtain ⟨d1, ks1, mv1, b6, r1, k1, hcase, hex⟩ := kn_step k hF hW hp hr hk mv v6 v7
    obtain ⟨d2, ks2, c4, c5, c6, e, r2, k2, l2, n2⟩ := kn_pass k hF hW m (j + 1) (by omega) d1 ks1 mv1 (some (.int (j : Int))) (some (.ref (w + 1 + j))) b6 v7 r1 k1
    have as : asgT (.t (.cons (.n 4) (.cons (.n 5) .nil))) (.tup [.int (j : Int), .ref (w + 1 + j)]) (kE w S.length mv v4 v5 v6 v7) = some (kE w S.length mv (some (.int (j : Int))) (some (.ref (w + 1 + j))) v6 v7) := rfl
    have hlp : forL (.t (.cons (.n 4) (.cons (.n 5) .nil))) (fun e S => execs (C k) T0 l_Watcher_known_1 e S) ((List.range' j (m + 1)).map fun p : Nat => .tup [.int (p : Int), .ref (w + 1 + p)]) (kE w S.length mv v4 v5 v6 v7) (kS S F.length d ks) =
        some (.nx (kE w S.length (mv1 || decide (tot F.length d1 < tot F.length d2)) c4 c5 c6 v7) (kS S F.length d2 ks2)) := by
      rw [List.range'_succ, List.map_cons]
      rcases hex with h | h
      · simp only [forL, as, h]; exact e
      · simp only [forL, as, h]; exact e
    have t2 := tot_mono l2 F.length
    rcases hcase with ⟨hn, rfl, rfl⟩ | ⟨hn, rfl, rfl⟩
    · have tb := tot_bump (d := d) F.length hp
      refine ⟨d2, ks2, c4, c5, c6, ?_, r2, k2, fun q => Nat.le_trans (bump_le q) (l2 q), fun h => by omega⟩
      rw [hlp, decide_eq_true (show tot F.length d < tot F.length d2 by omega), Bool.true_or, Bool.or_true]
    · refine ⟨d2, ks2, c4, c5, c6, hlp, r2, k2, l2, fun h p h1 h2 => ?_⟩
      by_cases hpj : p = j
      · subst hpj; exact hn
      · exact n2 h p (by omega) h2
theorem kn_outer (k : Nat) (hF : FOk F) (hW : Wat S w F) : ∀ (m : Nat) (d : Nat → Nat) (ks : List Int) (v4 v5 v6 v7 : Option D), tot F.length (lens (kr F)) - tot F.length d = m → Reach (kr F) d → KS (kr F) d ks →
    ∃ ks' b4 b5 b6, lfp (whlStep (fun e S => evalT (C k) T0 w_Watcher_known_1 e S) (fun e S => execs (C k) T0 l_Watcher_known_2 e S)) (kE w S.length true v4 v5 v6 v7, kS S F.length d ks) =
      some (.nx (kE w S.length false b4 b5 b6 v7) (kS S F.length (kd F) ks')) := by
  intro m
  induction m using Nat.strongRecOn with
  | _ m ih =>
    intro d ks v4 v5 v6 v7 hm hr hk
    obtain ⟨d1, ks1, b4, b5, b6, e1, r1, k1, l1, n1⟩ := kn_pass k hF hW F.length 0 (by omega) d ks false v4 v5 v6 v7 hr hk
    have hW' : Wat (kS S F.length d ks) w F := hW.app _
    have wr := w_rows hW'
    have st : execs (C k) T0 l_Watcher_known_2 (kE w S.length true v4 v5 v6 v7) (kS S F.length d ks) = some (.nx (kE w S.length (decide (tot F.length d < tot F.length d1)) b4 b5 b6 v7) (kS S F.length d1 ks1)) := by
      have a1 : exec (C k) T0 (.asg (.n 3) (.c (.bl false))) (kE w S.length true v4 v5 v6 v7) (kS S F.length d ks) = some (.nx (kE w S.length false v4 v5 v6 v7) (kS S F.length d ks)) := rfl
      have a2 : exec (C k) T0 (.for (.t (.cons (.n 4) (.cons (.n 5) .nil))) (.enum (.att 0 (.v 0) "_rows")) l_Watcher_known_1) (kE w S.length false v4 v5 v6 v7) (kS S F.length d ks) = some (.nx (kE w S.length (decide (tot F.length d < tot F.length d1)) b4 b5 b6 v7) (kS S F.length d1 ks1)) := by
        have g0 : (kE w S.length false v4 v5 v6 v7)[0]? = some (some (.ref w)) := rfl
        rw [exec]
        simp only [evalI, evalE, g0, bnd_ok, wr, okO_some, bnS_ok]
        rw [refs_rng, enF_rng, e1, Bool.false_or]
      unfold l_Watcher_known_2
      rw [ex_go a1, execs, a2]
      simp only [seqS_nx, execs]
    have t1 : ∀ mv v4 v5 v6 v7 d ks, evalT (C k) T0 w_Watcher_known_1 (kE w S.length mv v4 v5 v6 v7) (kS S F.length d ks) = some (.ok mv (kS S F.length d ks)) := fun mv v4 v5 v6 v7 d ks => by
      unfold w_Watcher_known_1 kE
      simp only [evalT, List.getElem?_cons_succ, List.getElem?_cons_zero, truD_bl, okO_some]
    have a := tot_mono l1 F.length
    have b := tot_mono (d' := lens (kr F)) r1.le_len F.length
    by_cases c : tot F.length d < tot F.length d1
    · rw [decide_eq_true c] at st
      obtain ⟨ks2, c4, c5, c6, e2⟩ := ih _ (by omega) d1 ks1 b4 b5 b6 v7 rfl r1 k1
      refine ⟨ks2, c4, c5, c6, ?_⟩
      rw [lfp_eq]
      simp only [whlStep, t1, st]
      exact e2
    · rw [decide_eq_false c] at st
      have hs : ∀ p, ¬ Nxt (kr F) d p := fun p hn => by
        have hp := nxt_lt hn
        rw [kr_len] at hp
        exact n1 (by omega) p (Nat.zero_le _) hp hn
      have ed : d1 = d := by
        funext q
        by_cases c : q < F.length
        · exact (tot_eq l1 (n := F.length) (by omega) q c).symm
        · have z1 := r1.le_len q
          have z2 := hr.le_len q
          have e0 : ((kr F).getD q []) = [] := by rw [List.getD_eq_getElem?_getD, List.getElem?_eq_none (by rw [kr_len]; omega)]; rfl
          rw [e0] at z1 z2
          simp at z1 z2
          omega
      have ek := kd_eq hr hs
      refine ⟨ks1, b4, b5, b6, ?_⟩
      rw [lfp_eq]
      simp only [whlStep, t1, st]
      rw [lfp_eq]
      simp only [whlStep, t1]
      rw [ed, ek]
/-! _beginning -/
theorem beg_map (r : Fr) : ∀ (m j : Nat) (M : Nat), m ≤ (beg r M j).length → (rg (j : Int) m).map (fun d => match d with
      | .int i => evO (lk r i.toNat)
      | _ => .non) = ((beg r M j).take m).map Ev.d
  | 0, j, M, _ => by simp [rg]
  | m + 1, j, 0, h => by simp [beg] at h
  | m + 1, j, M + 1, h => by
    rw [beg] at h ⊢
    cases hl : lk r j with
    | none => rw [hl] at h; simp at h
    | some e =>
      rw [hl] at h
      have h : m + 1 ≤ (beg r M (j + 1)).length + 1 := h
      rw [rg, List.map_cons, show ((j : Int) + 1) = ((j + 1 : Nat) : Int) by omega, beg_map r m (j + 1) M (by omega)]
      show evO (lk r (j : Int).toNat) :: _ = _
      rw [show (j : Int).toNat = j by omega, hl]
      show e.d :: _ = _
      rw [List.take_succ_cons, List.map_cons]
theorem beginning_ok (k : Nat) (hW : Wat S w F) {p m : Nat} (hp : p < F.length) (hm : m ≤ (beg (ro F p) 30 1).length) (hm2 : m ≤ 30) : C (k + 1) i_Watcher__beginning [.ref w, .int (p : Int), .int (m : Int)] S = some (.ok (rowD ((beg (ro F p) 30 1).take m)) S) := by
  rw [c_Watcher__beginning]
  have wr := w_rows hW
  have ra := fun U => rows_at (w := w) hp U
  have lc : evalE (C k) T0 k_Watcher__beginning_1 [some (.ref w), some (.int (p : Int)), some (.int (m : Int)), none] S = some (.ok (.lst (((beg (ro F p) 30 1).take m).map Ev.d)) S) := by
    unfold k_Watcher__beginning_1
    rw [lc_no (S := S) (xs := rg 1 m) (fun d => match d with
      | .int i => evO (lk (ro F p) i.toNat)
      | _ => .non) (by
      have hr : rngD 1 ((m : Int) + 1) = some (rg 1 m) := by
        rw [rngD_rg ⟨by decide, by decide, by omega, by omega⟩]
        congr 2
        omega
      simp only [evalI, evalE, List.getElem?_cons_succ, List.getElem?_cons_zero, bnd_ok, Cst.d, binD_add, hr, okO_some]) (by
      have : ∀ (n : Nat) (i : Int), (rg i n).length = n := fun n => by
        induction n with
        | zero => intro i; rfl
        | succ n ih => intro i; rw [rg, List.length_cons, ih]
      rw [this, PySem.sizeLine_eq]; omega) (fun y hy => ?_), mkL_f]
    · have bm := beg_map (ro F p) m 1 30 hm
      rw [show ((1 : Nat) : Int) = 1 from rfl] at bm
      rw [bm]
    · obtain ⟨i, hi1, hi2, rfl⟩ : ∃ i : Nat, 1 ≤ i ∧ i ≤ m ∧ y = .int (i : Int) := by
        rw [← rg_eq] at hy
        obtain ⟨x, hx, rfl⟩ := List.mem_map.mp hy
        have := List.mem_range.mp hx
        exact ⟨x + 1, by omega, by omega, by congr 1; omega⟩
      have g : (beg (ro F p) 30 1)[i - 1]? = some (beg (ro F p) 30 1)[i - 1] := List.getElem?_eq_getElem (by omega)
      have l1 := ((beg_at _ _ _ _ _).mp g).2.2
      rw [show 1 + (i - 1) = i by omega] at l1
      have ix := row_ix (i := i) hW hp
      rw [l1] at ix
      unfold e_Watcher__beginning_1
      simp only [List.map_cons, List.map_nil, wipeE, List.set_cons_succ, List.set_cons_zero, evalE, List.getElem?_cons_succ, List.getElem?_cons_zero, bnd_ok, wr, okO_some, ra, ix, Option.map_some]
      rw [show (i : Int).toNat = i by omega, l1]; rfl
  unfold b_Watcher__beginning
  simp only [execs, exec, evalE, evalEs, lc, bnd_ok, biD_tupL, okO_some, bnS_ok, seqS_rt, outS_rt]
  rfl
theorem known_ok (k : Nat) (hF : FOk F) (hW : Wat S w F) : ∃ T, C (k + 2) i_Watcher_known [.ref w] S = some (.ok (rnD (knR F)) (S ++ T)) := by
  have h6 := hF.l6
  have wc := w_count hW
  have k0 : KS (kr F) (fun _ => 0) [] := ⟨fun l => ⟨fun h => (nomatch h), fun ⟨_, _, _, h, _⟩ => absurd h (Nat.not_lt_zero _)⟩, Nat.zero_le _⟩
  obtain ⟨ks, b4, b5, b6, e⟩ := kn_outer (k + 1) hF hW _ (fun _ => 0) [] none none none none rfl .zero k0
  refine ⟨[.dead, kt ks], ?_⟩
  rw [c_Watcher_known]
  have x1 : exec (C (k + 1)) T0 (.asg (.n 1) (.bin .mul true (.lst false (.cons (.c (.int 0)) .nil)) (.att 0 (.v 0) "_count"))) [some (.ref w), none, none, none, none, none, none, none] S = some (.nx [some (.ref w), some (.ref S.length), none, none, none, none, none, none] (S ++ [.lst (dl F.length fun _ => 0)])) := by
    have bm : binD .mul true (.lst [.int 0]) (.int (F.length : Nat)) S = some (.ok (.ref S.length) (S ++ [.lst (dl F.length fun _ => 0)])) := by
      show (@ite _ (-(2 ^ 63) ≤ ((F.length : Nat) : Int) ∧ ((F.length : Nat) : Int) < 2 ^ 63 ∧ ([D.int 0] : List D).length * ((F.length : Nat) : Int).toNat ≤ PySem.sizeLine) (Classical.propDecidable _) (mkL true (List.replicate ((F.length : Nat) : Int).toNat [D.int 0]).flatten S) none) = _
      rw [if_pos ⟨by omega, by omega, by rw [PySem.sizeLine_eq]; simp; omega⟩, mkL_t]
      congr 4
      rw [show ((F.length : Nat) : Int).toNat = F.length by omega]
      unfold dl
      generalize F.length = n
      induction n with
      | zero => rfl
      | succ n ih =>
        rw [List.replicate_succ, List.flatten_cons, Ob.lst.inj ih, List.range_succ_eq_map, List.map_cons, List.map_map]; rfl
    have o1 : 0 + 1 ≤ PySem.sizeLine := by rw [PySem.sizeLine_eq]; decide
    simp only [exec, evalE, evalEs, List.getElem?_cons_zero, bnd_ok, Cst.d, List.length_cons, List.length_nil, o1, if_true, mkL_f, wc, okO_some, bm, bnS_ok, asg_n, List.set_cons_succ, List.set_cons_zero]
  have x2 : exec (C (k + 1)) T0 (.asg (.n 2) (.dct true 0 [] [])) [some (.ref w), some (.ref S.length), none, none, none, none, none, none] (S ++ [.lst (dl F.length fun _ => 0)]) = some (.nx [some (.ref w), some (.ref S.length), some (.ref (S.length + 1)), none, none, none, none, none] (kS S F.length (fun _ => 0) [])) := by
    unfold kS
    simp only [exec, evalE, mkD_t, List.map_nil, bnS_ok, asg_n, List.set_cons_succ, List.set_cons_zero, List.length_append, List.length_cons, List.length_nil, List.append_assoc]
    rfl
  have x3 : exec (C (k + 1)) T0 (.asg (.n 3) (.c (.bl true))) [some (.ref w), some (.ref S.length), some (.ref (S.length + 1)), none, none, none, none, none] (kS S F.length (fun _ => 0) []) = some (.nx (kE w S.length true none none none none) (kS S F.length (fun _ => 0) [])) := rfl
  have x4 : exec (C (k + 1)) T0 (.whl w_Watcher_known_1 l_Watcher_known_2) (kE w S.length true none none none none) (kS S F.length (fun _ => 0) []) = some (.nx (kE w S.length false b4 b5 b6 none) (kS S F.length (kd F) ks)) := e
  have fz : fzD 1 (kE w S.length false b4 b5 b6 none) (kS S F.length (kd F) ks) = some ([some (.ref w), some (.lst (dl F.length (kd F))), some (.ref (S.length + 1)), some (.bl false), b4, b5, b6, none], S ++ [.dead, kt ks]) := by
    have g : (kS S F.length (kd F) ks)[S.length]? = some (.lst (dl F.length (kd F))) := p2_0 _ _
    have pu : pures (dl F.length (kd F)) = true := by
      unfold dl
      have : ∀ l : List Nat, pures (l.map fun p => D.int (kd F p)) = true := fun l => by
        induction l with
        | nil => rfl
        | cons a l ih => rw [List.map_cons, pures, ih]; rfl
      exact this _
    unfold fzD kE
    simp only [List.getElem?_cons_succ, List.getElem?_cons_zero, g, pu, if_true, List.set_cons_succ, List.set_cons_zero]
    unfold kS
    rw [s2_0]
  have hW2 : Wat (S ++ [.dead, kt ks]) w F := hW.app _
  have lc : evalE (C (k + 1)) T0 k_Watcher_known_1 [some (.ref w), some (.lst (dl F.length (kd F))), some (.ref (S.length + 1)), some (.bl false), b4, b5, b6, none] (S ++ [.dead, kt ks]) = some (.ok (.lst ((knR F).map rowD)) (S ++ [.dead, kt ks])) := by
    unfold k_Watcher_known_1
    rw [evalE]
    simp only [evalI, evalE, List.getElem?_cons_succ, List.getElem?_cons_zero, bnd_ok]
    rw [dl_rng, enF_rng, if_pos (by rw [List.length_map, List.length_range', PySem.sizeLine_eq]; omega)]
    rw [lcLoop_map (S := S ++ [.dead, kt ks]) (f := fun x => match x with
      | .tup [.int p, .int m] => some (rowD ((beg (ro F p.toNat) 30 1).take m.toNat))
      | _ => none) _ [] (fun x hx => ?_)]
    · simp only [bnd_ok, List.nil_append, mkL_f]
      congr 3
      unfold knR cutF
      rw [kr_len, List.filterMap_map, List.map_map, ← List.range_eq_range']
      have : ∀ l : List Nat, l.filterMap ((fun x : D => match x with
          | .tup [.int p, .int m] => some (rowD ((beg (ro F p.toNat) 30 1).take m.toNat))
          | _ => none) ∘ fun p : Nat => D.tup [.int (p : Int), .int (kd F p : Int)]) = l.map (rowD ∘ fun p => ((kr F).getD p []).take (kd F p)) := fun l => by
        induction l with
        | nil => rfl
        | cons a l ih =>
          have e1 : ((fun x : D => match x with
            | .tup [.int p, .int m] => some (rowD ((beg (ro F p.toNat) 30 1).take m.toNat))
            | _ => none) ∘ fun p : Nat => D.tup [.int (p : Int), .int (kd F p : Int)]) a = some (rowD (((kr F).getD a []).take (kd F a))) := by
            show some (rowD ((beg (ro F (a : Int).toNat) 30 1).take (kd F a : Int).toNat)) = _
            rw [kr_row]
            simp
          rw [List.filterMap_cons, e1, List.map_cons, ih]; rfl
      exact this _
    · obtain ⟨p, hp, rfl⟩ := List.mem_map.mp hx
      have hp : p < F.length := by
        rw [← List.range_eq_range'] at hp
        exact List.mem_range.mp hp
      have hl := kd_le F p
      unfold lens at hl
      rw [kr_row] at hl
      have h30 : kd F p ≤ 30 := by
        refine Classical.byContradiction fun c => ?_
        have g : (beg (ro F p) 30 1)[30]? = some (beg (ro F p) 30 1)[30] := List.getElem?_eq_getElem (by omega)
        have := ((beg_at _ _ _ _ _).mp g).1
        omega
      have bg := beginning_ok k hW2 hp hl h30
      have mt := w_mth hW2 "_beginning" (by simp [wNm])
      have as : asgT (.t (.cons (.n 4) (.cons (.n 7) .nil))) (.tup [.int (p : Int), .int (kd F p : Int)]) [some (.ref w), some (.lst (dl F.length (kd F))), some (.ref (S.length + 1)), some (.bl false), none, b5, b6, none] = some [some (.ref w), some (.lst (dl F.length (kd F))), some (.ref (S.length + 1)), some (.bl false), some (.int (p : Int)), b5, b6, some (.int (kd F p : Int))] := rfl
      rw [dl_rng] at as
      unfold e_Watcher_known_1
      simp only [List.map_cons, List.map_nil, wipeE, List.set_cons_succ, List.set_cons_zero, as, evalC, evalE, evalEs, List.getElem?_cons_succ, List.getElem?_cons_zero, bnd_ok, mt, if_true, callP_f, bg, Int.toNat_natCast]
  unfold b_Watcher_known
  rw [ex_go x1, ex_go x2, ex_go x3, ex_go x4, execs, fz]
  simp only [execs, exec, evalE, evalEs, lc, bnd_ok, biD_tupL, okO_some, bnS_ok, seqS_rt, outS_rt]
  rfl
end
end Lk
namespace Lk
open PyProof.Rows L2 Ip
/-! a row that is walked -/
section
variable {S : Sto} {w : Nat} {F : Fd}
def lkS (S : Sto) (w : Nat) (F : Fd) (p : Nat) : Sto := S.set (w + 1 + p) (.lck 0 (rowK (ro F p)) (rowV (ro F p)))
theorem lkS_len (S : Sto) (w : Nat) (F : Fd) (p : Nat) : (lkS S w F p).length = S.length := List.length_set ..
theorem row_wk (h : Wat S w F) {p : Nat} (hp : p < F.length) (T : Sto) : wkD .vals (S ++ T) (.ref (w + 1 + p)) = some (rowV (ro F p), lkS S w F p ++ T, some (w + 1 + p)) := by
  have g := (h.app T).row p hp
  have hl := (List.getElem?_eq_some_iff.mp (h.row p hp)).1
  show (match (S ++ T)[w + 1 + p]? with
    | some (.dct t ks vs) => if wkB .vals t = true then some (dWalk .vals ks vs, (S ++ T).set (w + 1 + p) (.lck t ks vs), some (w + 1 + p)) else none
    | _ => none) = _
  rw [g]
  show some (rowV (ro F p), (S ++ T).set (w + 1 + p) (.lck 0 (rowK (ro F p)) (rowV (ro F p))), some (w + 1 + p)) = _
  rw [List.set_append_left _ _ hl]; rfl
theorem set_same {n : Nat} {x : Ob} (h : S[n]? = some x) : S.set n x = S := by
  obtain ⟨hl, e⟩ := List.getElem?_eq_some_iff.mp h
  rw [← e, List.set_getElem_self]
theorem row_un (h : Wat S w F) {p : Nat} (hp : p < F.length) (T : Sto) : unS (w + 1 + p) (lkS S w F p ++ T) = some (S ++ T) := by
  have hl := (List.getElem?_eq_some_iff.mp (h.row p hp)).1
  unfold unS lkS
  rw [List.getElem?_append_left (by rw [List.length_set]; exact hl), List.getElem?_set_self hl]
  show some ((S.set (w + 1 + p) (.lck 0 (rowK (ro F p)) (rowV (ro F p))) ++ T).set (w + 1 + p) (.dct 0 (rowK (ro F p)) (rowV (ro F p)))) = _
  rw [List.set_append_left _ _ (by rw [List.length_set]; exact hl), List.set_set, show Ob.dct 0 (rowK (ro F p)) (rowV (ro F p)) = rowF (ro F p) from rfl, set_same (h.row p hp)]
/-! _has -/
def hit (k : Bool) (l : Int) : Ev → Bool
  | .send m _ => k && decide (m = l)
  | .take m _ => !k && decide (m = l)
  | .step _ => false
def kdD (k : Bool) : D := .str (if k then "send" else "take")
def hE (w : Nat) (k : Bool) (l : Int) (v3 v4 : Option D) : Ip.En := [some (.ref w), some (kdD k), some (.int l), v3, v4]
theorem has_ev (j : Nat) (k : Bool) (l : Int) (w : Nat) (v3 : Option D) (e : Ev) (U : Sto) : execs (C j) T0 l_Watcher__has_1 (hE w k l v3 (some e.d)) U = if hit k l e = true then some (.rt (.bl true) U) else some (.nx (hE w k l v3 (some e.d)) U) := by
  have e0 := ev_0 e U
  have no : ∀ a b : PySem.Str, a ≠ b → cmpD .eq (.str a) (.str b) U = some false := fun a b h => by simp [h]
  have ye : ∀ a : PySem.Str, cmpD .eq (.str a) (.str a) U = some true := fun a => by simp
  unfold l_Watcher__has_1 hE kdD
  cases e with
  | step cs =>
    have q : ∀ b : Bool, cmpD .eq (.str "step") (.str (if b = true then "send" else "take")) U = some false := fun b => by cases b <;> simp
    simp only [execs, exec, evalT, evalE, List.getElem?_cons_succ, List.getElem?_cons_zero, bnd_ok, Cst.d, okO_some, e0, q, bnS_ok, seqS_nx, hit, Bool.false_eq_true, if_false]
  | send m cs =>
    have i1 : ixD U (Ev.send m cs).d (.int 1) = some (.int m) := rfl
    cases k with
    | false =>
      have q : cmpD .eq (.str "send") (.str "take") U = some false := by simp
      simp only [execs, exec, evalT, evalE, List.getElem?_cons_succ, List.getElem?_cons_zero, bnd_ok, Cst.d, okO_some, e0, q, bnS_ok, seqS_nx, hit, Bool.false_and, Bool.false_eq_true, if_false]
    | true =>
      have q : cmpD .eq (.str "send") (.str "send") U = some true := by simp
      have q2 : cmpD .eq (.int m) (.int l) U = some (decide (m = l)) := rfl
      by_cases c : m = l
      · rw [decide_eq_true c] at q2
        simp only [execs, exec, evalT, evalE, List.getElem?_cons_succ, List.getElem?_cons_zero, bnd_ok, Cst.d, okO_some, e0, q, i1, q2, bnS_ok, seqS_rt, hit, decide_eq_true c, Bool.true_and, if_true]
      · rw [decide_eq_false c] at q2
        simp only [execs, exec, evalT, evalE, List.getElem?_cons_succ, List.getElem?_cons_zero, bnd_ok, Cst.d, okO_some, e0, q, i1, q2, bnS_ok, seqS_nx, hit, decide_eq_false c, Bool.and_false, Bool.false_eq_true, if_false, if_true]
  | take m cs =>
    have i1 : ixD U (Ev.take m cs).d (.int 1) = some (.int m) := rfl
    cases k with
    | true =>
      have q : cmpD .eq (.str "take") (.str "send") U = some false := by simp
      simp only [execs, exec, evalT, evalE, List.getElem?_cons_succ, List.getElem?_cons_zero, bnd_ok, Cst.d, okO_some, e0, q, bnS_ok, seqS_nx, hit, Bool.not_true, Bool.false_and, Bool.false_eq_true, if_false, if_true]
    | false =>
      have q : cmpD .eq (.str "take") (.str "take") U = some true := by simp
      have q2 : cmpD .eq (.int m) (.int l) U = some (decide (m = l)) := rfl
      by_cases c : m = l
      · rw [decide_eq_true c] at q2
        simp only [execs, exec, evalT, evalE, List.getElem?_cons_succ, List.getElem?_cons_zero, bnd_ok, Cst.d, okO_some, e0, q, i1, q2, bnS_ok, seqS_rt, hit, decide_eq_true c, Bool.not_false, Bool.true_and, if_true, Bool.false_eq_true, if_false]
      · rw [decide_eq_false c] at q2
        simp only [execs, exec, evalT, evalE, List.getElem?_cons_succ, List.getElem?_cons_zero, bnd_ok, Cst.d, okO_some, e0, q, i1, q2, bnS_ok, seqS_nx, hit, decide_eq_false c, Bool.and_false, Bool.false_eq_true, if_false, if_true]
theorem has_row (j : Nat) (k : Bool) (l : Int) (w : Nat) (v3 : Option D) (U : Sto) : ∀ (r : Fr) (v4 : Option D), ∃ c4, forL (.n 4) (fun e S => execs (C j) T0 l_Watcher__has_1 e S) (rowV r) (hE w k l v3 v4) U = if (r.any fun z => hit k l z.2) = true then some (.rt (.bl true) U) else some (.nx (hE w k l v3 c4) U)
  | [], v4 => ⟨v4, by simp [rowV, forL]⟩
  | z :: r, v4 => by
    obtain ⟨c4, e⟩ := has_row j k l w v3 U r (some z.2.d)
    have as : asgT (.n 4) z.2.d (hE w k l v3 v4) = some (hE w k l v3 (some z.2.d)) := rfl
    have ev := has_ev j k l w v3 z.2 U
    by_cases c : hit k l z.2 = true
    · rw [if_pos c] at ev
      refine ⟨v4, ?_⟩
      rw [List.any_cons, c, Bool.true_or, if_pos rfl]
      show forL (.n 4) _ (z.2.d :: rowV r) _ _ = _
      simp only [forL, as, ev]
    · rw [if_neg c] at ev
      refine ⟨c4, ?_⟩
      rw [List.any_cons, Bool.not_eq_true _ |>.mp c, Bool.false_or, ← e]
      show forL (.n 4) _ (z.2.d :: rowV r) _ _ = _
      simp only [forL, as, ev]
theorem has_rows (j : Nat) (k : Bool) (l : Int) (hW : Wat S w F) : ∀ (m i : Nat), i + m = F.length → ∀ v3 v4 : Option D, ∃ c3 c4, forL (.n 3) (fun e S => execs (C j) T0 l_Watcher__has_2 e S) ((List.range' i m).map fun p => .ref (w + 1 + p)) (hE w k l v3 v4) S =
      if ((List.range' i m).any fun p => (ro F p).any fun z => hit k l z.2) = true then some (.rt (.bl true) S) else some (.nx (hE w k l c3 c4) S)
  | 0, i, _, v3, v4 => ⟨v3, v4, by simp [forL]⟩
  | m + 1, i, hi, v3, v4 => by
    have hp : i < F.length := by omega
    have wk := row_wk hW hp []
    have un := row_un hW hp []
    rw [List.append_nil, List.append_nil] at wk
    rw [List.append_nil, List.append_nil] at un
    obtain ⟨c4, e1⟩ := has_row j k l w (some (.ref (w + 1 + i))) (lkS S w F i) (ro F i) v4
    obtain ⟨b3, b4, e2⟩ := has_rows j k l hW m (i + 1) (by omega) (some (.ref (w + 1 + i))) c4
    have as : asgT (.n 3) (.ref (w + 1 + i)) (hE w k l v3 v4) = some (hE w k l (some (.ref (w + 1 + i))) v4) := rfl
    have g3 : (hE w k l (some (.ref (w + 1 + i))) v4)[3]? = some (some (.ref (w + 1 + i))) := rfl
    rw [List.range'_succ, List.map_cons, List.any_cons]
    by_cases c : ((ro F i).any fun z => hit k l z.2) = true
    · rw [if_pos c] at e1
      refine ⟨v3, v4, ?_⟩
      rw [c, Bool.true_or, if_pos rfl]
      have st : execs (C j) T0 l_Watcher__has_2 (hE w k l (some (.ref (w + 1 + i))) v4) S = some (.rt (.bl true) S) := by
        unfold l_Watcher__has_2
        simp only [execs, exec, evalE, g3, bnS_ok, wk, e1, unSo, un, Option.map_some, seqS_rt]
      simp only [forL, as, st]
    · rw [if_neg c] at e1
      refine ⟨b3, b4, ?_⟩
      rw [Bool.not_eq_true _ |>.mp c, Bool.false_or, ← e2]
      have st : execs (C j) T0 l_Watcher__has_2 (hE w k l (some (.ref (w + 1 + i))) v4) S = some (.nx (hE w k l (some (.ref (w + 1 + i))) c4) S) := by
        unfold l_Watcher__has_2
        simp only [execs, exec, evalE, g3, bnS_ok, wk, e1, unSo, un, Option.map_some, seqS_nx]
      simp only [forL, as, st]
def hasB (F : Fd) (k : Bool) (l : Int) : Bool := (List.range' 0 F.length).any fun p => (ro F p).any fun z => hit k l z.2
theorem has_ok (j : Nat) (hW : Wat S w F) (k : Bool) (l : Int) : C (j + 1) i_Watcher__has [.ref w, kdD k, .int l] S = some (.ok (.bl (hasB F k l)) S) := by
  rw [c_Watcher__has]
  obtain ⟨c3, c4, e⟩ := has_rows j k l hW F.length 0 (by omega) none none
  have wr := w_rows hW
  have g0 : (hE w k l none none)[0]? = some (some (.ref w)) := rfl
  show outS (execs (C j) T0 b_Watcher__has (hE w k l none none) S) = _
  unfold b_Watcher__has hasB
  simp only [execs, exec, evalI, evalE, g0, bnd_ok, wr, okO_some, itD_lst, bnS_ok, refs_rng, e]
  by_cases c : ((List.range' 0 F.length).any fun p => (ro F p).any fun z => hit k l z.2) = true
  · rw [if_pos c, c]; rfl
  · rw [if_neg c, Bool.not_eq_true _ |>.mp c]
    simp only [seqS_nx, execs, exec, evalE, Cst.d, bnS_ok, seqS_rt, outS_rt]
end
end Lk
namespace Lk
open PyProof.Rows L2 Ip
/-! _is_possible -/
theorem pw_len : ∀ (l : List Nat) (a b : Nat), l.Pairwise (· < ·) → (∀ x ∈ l, a ≤ x ∧ x < b) → l.length ≤ b - a
  | [], a, b, _, _ => Nat.zero_le _
  | x :: l, a, b, h, hb => by
    rw [List.pairwise_cons] at h
    have h1 := hb x (List.mem_cons_self ..)
    have := pw_len l (x + 1) b h.2 (fun y hy => ⟨h.1 y hy, (hb y (List.mem_cons_of_mem _ hy)).2⟩)
    rw [List.length_cons]; omega
theorem ixs_len (r : Fr) : (ixs r).length = r.length := by rw [(ixs_perm r).length_eq, List.length_map]
theorem FOk.r30 {F : Fd} (h : FOk F) (p : Nat) : (ro F p).length ≤ 30 := by
  have := pw_len (ixs (ro F p)) 1 31 (ixs_sorted _ (h.nd p)) (fun x hx => by
    obtain ⟨z, hz, rfl⟩ := List.mem_map.mp (ixs_mem.mp hx)
    have := (h.ix p z hz).1
    omega)
  rw [ixs_len] at this; omega
def Uq (F : Fd) : Prop := ∀ p n q m l cs cs', evAt (sL F) p n = some (.send l cs) → evAt (sL F) q m = some (.send l cs') → p = q ∧ n = m
def nD (l : List Nat) : List D := l.map fun i : Nat => .int (i : Int)
section
variable {S : Sto} {w : Nat} {F : Fd}
def ob1 (F : Fd) (d : Nat → Nat) (p : Nat) : Ob := .lst (nD ((ixs (ro F p)).drop (d p)))
def lo (F : Fd) (d : Nat → Nat) : Sto := (List.range' 0 F.length).map (ob1 F d)
theorem lo_len (F : Fd) (d : Nat → Nat) : (lo F d).length = F.length := by unfold lo; rw [List.length_map, List.length_range']
def pS (S : Sto) (F : Fd) (d : Nat → Nat) (ks : List Int) : Sto := S ++ (lo F d ++ [kt ks])
def pE (w a n : Nat) (v2 v4 v5 v6 v7 : Option D) : Ip.En := [some (.ref w), some (.lst (refs a n)), v2, some (.ref (a + n)), v4, v5, v6, v7, none]
theorem sorted_row (hF : FOk F) (hW : Wat S w F) {p : Nat} (hp : p < F.length) (T : Sto) : bfD .sorted true [.ref (w + 1 + p)] (S ++ T) = some (.ok (.ref (S ++ T).length) (S ++ T ++ [ob1 F (fun _ => 0) p])) := by
  have g := (hW.app T).row p hp
  have e1 : lstD (S ++ T) (.ref (w + 1 + p)) = none := by
    show getL (S ++ T) (w + 1 + p) = none
    unfold getL
    rw [g]; rfl
  have e2 : dctD (S ++ T) (.ref (w + 1 + p)) = some (0, rowK (ro F p), rowV (ro F p)) := dctD_dref g
  have ek : rowK (ro F p) = ((ro F p).map fun z => (z.1 : Int)).map .int := by unfold rowK; rw [List.map_map]; rfl
  have e3 : asInts (rowK (ro F p)) = some ((ro F p).map fun z => (z.1 : Int)) := by rw [ek, asInts_map]
  have l30 := hF.r30 p
  have e : bfD .sorted true [.ref (w + 1 + p)] (S ++ T) = if ((ro F p).map fun z => (z.1 : Int)).length < 64 then mkL true ((sortI ((ro F p).map fun z => (z.1 : Int))).map .int) (S ++ T) else none := by
    unfold bfD
    simp only [e1, e2, e3]
  rw [e, if_pos (by rw [List.length_map]; omega), mkL_t, ixs_int, List.map_map]; rfl
theorem lc_rows {turn : D → Sto → Option (Ro (Option D))} (ht : ∀ p, p < F.length → ∀ T, turn (.ref (w + 1 + p)) (S ++ T) = some (.ok (some (.ref (S ++ T).length)) (S ++ T ++ [ob1 F (fun _ => 0) p]))) :
    ∀ (m i : Nat) (T : Sto) (acc : List D), i + m = F.length → T.length = i →
      lcLoop turn ((List.range' i m).map fun p => .ref (w + 1 + p)) (S ++ T) acc = some (.ok (acc ++ (List.range' i m).map fun p => .ref (S.length + p)) (S ++ (T ++ (List.range' i m).map (ob1 F fun _ => 0))))
  | 0, i, T, acc, _, _ => by simp [lcLoop]
  | m + 1, i, T, acc, h, hT => by
    rw [List.range'_succ, List.map_cons, lcLoop, ht i (by omega) T]
    simp only
    rw [List.append_assoc S T, lc_rows ht m (i + 1) (T ++ [ob1 F (fun _ => 0) i]) _ (by omega) (by rw [List.length_append, hT]; rfl)]
    rw [List.length_append, hT]
    simp
/-! what is not yet sent -/
theorem q3 (A L : Sto) (x : Ob) : (A ++ (L ++ [x]))[A.length + L.length]? = some x := by
  rw [List.getElem?_append_right (by omega), List.getElem?_append_right (by omega)]
  simp
theorem q3s (A L : Sto) (x y : Ob) : (A ++ (L ++ [x])).set (A.length + L.length) y = A ++ (L ++ [y]) := by
  rw [List.set_append_right _ _ (by omega), List.set_append_right _ _ (by omega)]
  simp
theorem put_kt (A L : Sto) (ks : List Int) (l : Int) (env : Ip.En) (hl : ks.length ≤ 1000) : putS (A.length + L.length) (.int l) (.bl true) env (A ++ (L ++ [kt ks])) = some (.nx env (A ++ (L ++ [kt (insK l ks)]))) := by
  have g1 : (A ++ (L ++ [kt ks]))[A.length + L.length]? = some (.dct 0 (ks.map .int) (ks.map fun _ => .bl true)) := q3 _ _ _
  unfold putS
  rw [g1]
  simp only
  rw [if_pos (by rw [List.length_map, PySem.sizeLine_eq]; omega)]
  show (some (putW kKey (.inl l) (.int l) (.bl true) (ks.map .int) (ks.map fun _ => .bl true))).map (fun q => So.nx env ((A ++ (L ++ [kt ks])).set (A.length + L.length) (.dct 0 q.1 q.2))) = _
  unfold putW
  rw [lookK_kt]
  by_cases c : l ∈ ks
  · rw [if_pos c]
    simp only [Option.isSome_some, if_true, Option.map_some, repV_kt]
    unfold insK
    rw [q3s, if_pos c]; rfl
  · rw [if_neg c]
    simp only [Option.isSome_none, Bool.false_eq_true, if_false, Option.map_some]
    unfold insK
    rw [q3s, if_neg c]
    congr 3
    unfold kt
    simp
theorem insK_mem (l x : Int) (ks : List Int) : x ∈ insK l ks ↔ x ∈ ks ∨ x = l := by
  unfold insK
  by_cases c : l ∈ ks
  · rw [if_pos c]
    exact ⟨.inl, fun h => h.elim id fun e => e ▸ c⟩
  · rw [if_neg c, List.mem_append, List.mem_singleton]
theorem insK_len (l : Int) (ks : List Int) : (insK l ks).length ≤ ks.length + 1 := by
  unfold insK
  split
  · omega
  · rw [List.length_append]; simp
theorem un_ev (j : Nat) (A L : Sto) (ks : List Int) (hl : ks.length ≤ 1000) (e : Ev) (w : Nat) (v2 v5 v6 v7 : Option D) :
    ∃ ks', execs (C j) T0 l_Watcher__is_possible_3 (pE w A.length L.length v2 (some e.d) v5 v6 v7) (A ++ (L ++ [kt ks])) = some (.nx (pE w A.length L.length v2 (some e.d) v5 v6 v7) (A ++ (L ++ [kt ks']))) ∧
      (∀ l, l ∈ ks' ↔ l ∈ ks ∨ ∃ cs, e = .send l cs) ∧ ks'.length ≤ ks.length + 1 := by
  have e0 := ev_0 e (A ++ (L ++ [kt ks]))
  unfold l_Watcher__is_possible_3 pE
  cases e with
  | step cs =>
    have q : cmpD .eq (.str "step") (.str "send") (A ++ (L ++ [kt ks])) = some false := by simp
    refine ⟨ks, ?_, fun l => ⟨.inl, fun h => h.elim id fun ⟨_, e⟩ => (nomatch e)⟩, by omega⟩
    simp only [execs, exec, evalT, evalE, List.getElem?_cons_succ, List.getElem?_cons_zero, bnd_ok, Cst.d, okO_some, e0, q, bnS_ok, seqS_nx]
  | take m cs =>
    have q : cmpD .eq (.str "take") (.str "send") (A ++ (L ++ [kt ks])) = some false := by simp
    refine ⟨ks, ?_, fun l => ⟨.inl, fun h => h.elim id fun ⟨_, e⟩ => (nomatch e)⟩, by omega⟩
    simp only [execs, exec, evalT, evalE, List.getElem?_cons_succ, List.getElem?_cons_zero, bnd_ok, Cst.d, okO_some, e0, q, bnS_ok, seqS_nx]
  | send m cs =>
    have q : cmpD .eq (.str "send") (.str "send") (A ++ (L ++ [kt ks])) = some true := by simp
    have i1 : ixD (A ++ (L ++ [kt ks])) (Ev.send m cs).d (.int 1) = some (.int m) := rfl
    have gl : getL (A ++ (L ++ [kt ks])) (A.length + L.length) = none := by unfold getL; rw [q3]; rfl
    have pu := fun env => put_kt A L ks m env hl
    refine ⟨insK m ks, ?_, fun l => ?_, insK_len _ _⟩
    · simp only [execs, exec, evalT, evalE, List.getElem?_cons_succ, List.getElem?_cons_zero, bnd_ok, Cst.d, okO_some, e0, q, i1, gl, pu, bnS_ok, seqS_nx]
    · rw [insK_mem]
      constructor
      · rintro (h | rfl)
        · exact .inl h
        · exact .inr ⟨cs, rfl⟩
      · rintro (h | ⟨_, h⟩)
        · exact .inl h
        · cases h; exact .inr rfl
theorem un_row (j : Nat) (A L : Sto) (w : Nat) (v2 v5 v6 v7 : Option D) : ∀ (r : Fr) (ks : List Int) (v4 : Option D), ks.length + r.length ≤ 1000 →
    ∃ ks' c4, forL (.n 4) (fun e S => execs (C j) T0 l_Watcher__is_possible_3 e S) (rowV r) (pE w A.length L.length v2 v4 v5 v6 v7) (A ++ (L ++ [kt ks])) = some (.nx (pE w A.length L.length v2 c4 v5 v6 v7) (A ++ (L ++ [kt ks']))) ∧
      (∀ l, l ∈ ks' ↔ l ∈ ks ∨ ∃ z ∈ r, ∃ cs, z.2 = .send l cs) ∧ ks'.length ≤ ks.length + r.length
  | [], ks, v4, _ => ⟨ks, v4, by simp [rowV, forL], fun l => ⟨.inl, fun h => h.elim id fun ⟨_, h, _⟩ => (nomatch h)⟩, by simp⟩
  | z :: r, ks, v4, hl => by
    rw [List.length_cons] at hl
    obtain ⟨k1, e1, m1, l1⟩ := un_ev j A L ks (by omega) z.2 w v2 v5 v6 v7
    obtain ⟨k2, c4, e2, m2, l2⟩ := un_row j A L w v2 v5 v6 v7 r k1 (some z.2.d) (by omega)
    have as : asgT (.n 4) z.2.d (pE w A.length L.length v2 v4 v5 v6 v7) = some (pE w A.length L.length v2 (some z.2.d) v5 v6 v7) := rfl
    refine ⟨k2, c4, ?_, fun l => ?_, by rw [List.length_cons]; omega⟩
    · show forL (.n 4) _ (z.2.d :: rowV r) _ _ = _
      simp only [forL, as, e1, e2]
    · rw [m2, m1]
      constructor
      · rintro ((h | h) | ⟨y, hy, h⟩)
        · exact .inl h
        · exact .inr ⟨z, List.mem_cons_self .., h⟩
        · exact .inr ⟨y, List.mem_cons_of_mem _ hy, h⟩
      · rintro (h | ⟨y, hy, h⟩)
        · exact .inl (.inl h)
        · rcases List.mem_cons.mp hy with rfl | hy
          · exact .inl (.inr h)
          · exact .inr ⟨y, hy, h⟩
theorem un_rows (j : Nat) (hF : FOk F) (hW : Wat S w F) (L : Sto) (v5 v6 v7 : Option D) : ∀ (m i : Nat), i + m = F.length → ∀ (ks : List Int) (v2 v4 : Option D), ks.length ≤ 30 * i →
    ∃ ks' c2 c4, forL (.n 2) (fun e S => execs (C j) T0 l_Watcher__is_possible_4 e S) ((List.range' i m).map fun p => .ref (w + 1 + p)) (pE w S.length L.length v2 v4 v5 v6 v7) (S ++ (L ++ [kt ks])) = some (.nx (pE w S.length L.length c2 c4 v5 v6 v7) (S ++ (L ++ [kt ks']))) ∧
      (∀ l, l ∈ ks' ↔ l ∈ ks ∨ ∃ p, i ≤ p ∧ p < F.length ∧ ∃ z ∈ ro F p, ∃ cs, z.2 = .send l cs) ∧ ks'.length ≤ 180
  | 0, i, hi, ks, v2, v4, hl => ⟨ks, v2, v4, by simp [forL], fun l => ⟨.inl, fun h => h.elim id fun ⟨p, h1, h2, _⟩ => by omega⟩, by have := hF.l6; omega⟩
  | m + 1, i, hi, ks, v2, v4, hl => by
    have hp : i < F.length := by omega
    have h6 := hF.l6
    have l30 := hF.r30 i
    have wk := row_wk hW hp (L ++ [kt ks])
    obtain ⟨k1, c4, e1, m1, l1⟩ := un_row j (lkS S w F i) L w (some (.ref (w + 1 + i))) v5 v6 v7 (ro F i) ks v4 (by omega)
    rw [lkS_len] at e1
    have un := row_un hW hp (L ++ [kt k1])
    obtain ⟨k2, b2, b4, e2, m2, l2⟩ := un_rows j hF hW L v5 v6 v7 m (i + 1) (by omega) k1 (some (.ref (w + 1 + i))) c4 (by omega)
    have as : asgT (.n 2) (.ref (w + 1 + i)) (pE w S.length L.length v2 v4 v5 v6 v7) = some (pE w S.length L.length (some (.ref (w + 1 + i))) v4 v5 v6 v7) := rfl
    have g2 : (pE w S.length L.length (some (.ref (w + 1 + i))) v4 v5 v6 v7)[2]? = some (some (.ref (w + 1 + i))) := rfl
    have st : execs (C j) T0 l_Watcher__is_possible_4 (pE w S.length L.length (some (.ref (w + 1 + i))) v4 v5 v6 v7) (S ++ (L ++ [kt ks])) = some (.nx (pE w S.length L.length (some (.ref (w + 1 + i))) c4 v5 v6 v7) (S ++ (L ++ [kt k1]))) := by
      unfold l_Watcher__is_possible_4
      simp only [execs, exec, evalE, g2, bnS_ok, wk, e1, unSo, un, Option.map_some, seqS_nx]
    refine ⟨k2, b2, b4, ?_, fun l => ?_, l2⟩
    · rw [List.range'_succ, List.map_cons]
      simp only [forL, as, st, e2]
    · rw [m2, m1]
      constructor
      · rintro ((h | h) | ⟨p, h1, h2, h⟩)
        · exact .inl h
        · exact .inr ⟨i, Nat.le_refl _, hp, h⟩
        · exact .inr ⟨p, by omega, h2, h⟩
      · rintro (h | ⟨p, h1, h2, h⟩)
        · exact .inl (.inl h)
        · by_cases c : p = i
          · subst c; exact .inl (.inr h)
          · exact .inr ⟨p, by omega, h2, h⟩
theorem uns_0 (hF : FOk F) (l : Int) : Uns (sL F) (fun _ => 0) l ↔ ∃ p, 0 ≤ p ∧ p < F.length ∧ ∃ z ∈ ro F p, ∃ cs, z.2 = .send l cs := by
  constructor
  · rintro ⟨q, i, cs, _, h⟩
    obtain ⟨n, hn, hl⟩ := sL_at.mp h
    refine ⟨q, Nat.zero_le _, Nat.lt_of_not_le fun c => ?_, _, lk_mem hl, cs, rfl⟩
    rw [ro_no c] at hl
    cases hl
  · rintro ⟨p, _, hp, z, hz, cs, e⟩
    have hm : z.1 ∈ ixs (ro F p) := ixs_mem.mpr (List.mem_map.mpr ⟨z, hz, rfl⟩)
    obtain ⟨n, hn1, hn2⟩ := List.getElem_of_mem hm
    exact ⟨p, n, cs, Nat.zero_le _, sL_at.mpr ⟨z.1, by rw [List.getElem?_eq_getElem hn1, hn2], by rw [lk_of (hF.nd p) (i := z.1) (e := z.2) hz, e]⟩⟩
end
end Lk
namespace Lk
open PyProof.Rows L2 Ip
/-! _is_possible: taking events away -/
theorem delK_kt (l : Int) : ∀ ks : List Int, delK kKey (.inl l) (ks.map .int) (ks.map fun _ => .bl true) = ((ks.filter fun x => decide (x ≠ l)).map .int, (ks.filter fun x => decide (x ≠ l)).map fun _ => .bl true)
  | [] => rfl
  | x :: ks => by
    rw [List.map_cons, List.map_cons, delK, delK_kt l ks]
    by_cases c : x = l
    · rw [if_pos (by rw [c]; rfl), List.filter_cons, if_neg (by simp [c])]
    · rw [if_neg (fun e => c (by
        have e : (some (Sum.inl x) : Option Key) = some (.inl l) := e
        injection e with e
        injection e with e)), List.filter_cons, if_pos (by simp [c])]
      rfl
theorem nD_drop0 (l : List Nat) (i : Nat) (r : List Nat) (h : l = i :: r) : atI (nD l) 0 = some (.int (i : Int)) := by
  rw [h]
  show atI (nD (i :: r)) ((0 : Nat) : Int) = _
  rw [atI_nn]; rfl
section
variable {S : Sto} {w : Nat} {F : Fd}
theorem pdn (l : List Nat) : pds (nD l) = some ((l.map fun i : Nat => (i : Int)).map PySem.PyData.int) := by
  have := pds_ints (l.map fun i : Nat => (i : Int))
  rw [List.map_map] at this
  exact this
theorem shp_list (xs : List PySem.PyData) (h1 : PySem.PyData.canLayAll0 xs = true) (h2 : PySem.PyData.depthAll xs ≤ 8) : PySem.SeqAt.shaped (.list xs) = true := by
  unfold PySem.SeqAt.shaped
  rw [Bool.and_eq_true]
  refine ⟨by simp [PySem.PyData.canLay0, h1], ?_⟩
  simp [PySem.PyData.depth]
  omega
theorem eqv_ints : ∀ (a b : List Int), PySem.PyData.eqvAll (a.map PySem.PyData.int) (b.map PySem.PyData.int) = decide (a = b)
  | [], [] => by simp [PySem.PyData.eqvAll]
  | [], _ :: _ => by simp [PySem.PyData.eqvAll]
  | _ :: _, [] => by simp [PySem.PyData.eqvAll]
  | x :: a, y :: b => by
    rw [List.map_cons, List.map_cons, PySem.PyData.eqvAll, eqv_ints a b, Bool.eq_iff_iff]
    simp [PySem.PyData.eqv]
theorem res1_nD (l : List Nat) : (nD l).map (res1 S) = nD l := by
  unfold nD
  rw [List.map_map]
  exact List.map_congr_left fun _ _ => rfl
theorem res_refn {n : Nat} {xs : List D} (h : S[n]? = some (.lst xs)) : res2 S (.ref n) = .lst (xs.map (res1 S)) := by
  show (match getL S n with
    | some xs => D.lst (xs.map (res1 S))
    | none => .ref n) = _
  rw [getL_eq h]
theorem map_cast_nil (l : List Nat) : l.map (fun i : Nat => (i : Int)) = [] ↔ l = [] := List.map_eq_nil_iff
theorem eqD_nR {n : Nat} (l : List Nat) (h : S[n]? = some (.lst (nD l))) : eqD S (.ref n) (.lst []) = some (decide (l = [])) := by
  have p1 : pd (res2 S (.ref n)) = some (.list ((l.map fun i : Nat => (i : Int)).map PySem.PyData.int)) := by
    rw [res_refn h, res1_nD, pd, pdn]; rfl
  show (match pd (res2 S (.ref n)), some (PySem.PyData.list ([].map PySem.PyData.int)) with
    | some a, some b => if PySem.SeqAt.shaped a = true ∧ PySem.SeqAt.shaped b = true then some (PySem.PyData.eqv a b) else none
    | _, _ => none) = _
  rw [p1]
  simp only
  rw [if_pos ⟨shp_list _ (lay_ints _) (by have := dep_ints (l.map fun i : Nat => (i : Int)); omega), shp_list _ (lay_ints []) (by decide)⟩, PySem.PyData.eqv, eqv_ints]
  congr 1
  rw [Bool.eq_iff_iff, decide_eq_true_eq, decide_eq_true_eq, List.map_eq_nil_iff]
theorem pS_at (d : Nat → Nat) (ks : List Int) {p : Nat} (hp : p < F.length) : (pS S F d ks)[S.length + p]? = some (ob1 F d p) := by
  unfold pS
  rw [List.getElem?_append_right (by omega), List.getElem?_append_left (by rw [lo_len]; omega)]
  unfold lo
  rw [List.getElem?_map, show S.length + p - S.length = p by omega, List.getElem?_range' (by omega)]
  simp
theorem pS_kt (d : Nat → Nat) (ks : List Int) : (pS S F d ks)[S.length + F.length]? = some (kt ks) := by
  have := q3 S (lo F d) (kt ks)
  rw [lo_len] at this
  exact this
theorem pS_setk (d : Nat → Nat) (ks ks' : List Int) : (pS S F d ks).set (S.length + F.length) (kt ks') = pS S F d ks' := by
  have := q3s S (lo F d) (kt ks) (kt ks')
  rw [lo_len] at this
  exact this
theorem pS_bump (d : Nat → Nat) (ks : List Int) {p : Nat} (hp : p < F.length) : (pS S F d ks).set (S.length + p) (.lst (nD ((ixs (ro F p)).drop (d p + 1)))) = pS S F (bump d p) ks := by
  unfold pS
  rw [List.set_append_right _ _ (by omega), List.set_append_left _ _ (by rw [lo_len]; omega), show S.length + p - S.length = p by omega]
  congr 2
  refine List.ext_getElem? fun q => ?_
  have at_ : ∀ d q, (lo F d)[q]? = if q < F.length then some (ob1 F d q) else none := fun d q => by
    unfold lo
    rw [List.getElem?_map]
    by_cases c : q < F.length
    · rw [if_pos c, List.getElem?_range' c]; simp
    · rw [if_neg c, List.getElem?_eq_none (by rw [List.length_range']; omega)]; rfl
  rw [List.getElem?_set, lo_len, at_, at_]
  by_cases c : p = q
  · subst c
    rw [if_pos rfl, if_pos hp, if_pos hp]
    unfold ob1
    rw [bump_same]
  · rw [if_neg c]
    unfold ob1
    rw [bump_ne (fun e => c e.symm)]
theorem uns_bump (hu : Uq F) {d : Nat → Nat} {p : Nat} {l : Int} {cs : List Ch} (h : evAt (sL F) p (d p) = some (.send l cs)) (x : Int) : Uns (sL F) (bump d p) x ↔ Uns (sL F) d x ∧ x ≠ l := by
  constructor
  · rintro ⟨q, i, cs', hi, hx⟩
    refine ⟨⟨q, i, cs', Nat.le_trans (bump_le q) hi, hx⟩, fun e => ?_⟩
    subst e
    obtain ⟨e1, e2⟩ := hu _ _ _ _ _ _ _ hx h
    subst e1
    rw [bump_same] at hi
    omega
  · rintro ⟨⟨q, i, cs', hi, hx⟩, hne⟩
    refine ⟨q, i, cs', ?_, hx⟩
    by_cases c : q = p
    · subst c
      rw [bump_same]
      refine Nat.lt_of_le_of_ne hi fun e => ?_
      rw [← e, h] at hx
      cases hx
      exact hne rfl
    · rw [bump_ne c]; exact hi
theorem uns_other {d : Nat → Nat} {p : Nat} {e : Ev} (h : evAt (sL F) p (d p) = some e) (hn : ∀ l cs, e ≠ .send l cs) (x : Int) : Uns (sL F) (bump d p) x ↔ Uns (sL F) d x := by
  constructor
  · exact Uns.mono bump_le
  · rintro ⟨q, i, cs', hi, hx⟩
    refine ⟨q, i, cs', ?_, hx⟩
    by_cases c : q = p
    · subst c
      rw [bump_same]
      refine Nat.lt_of_le_of_ne hi fun e' => ?_
      rw [← e', h] at hx
      cases hx
      exact hn _ _ rfl
    · rw [bump_ne c]; exact hi
theorem po_step (k : Nat) (hW : Wat S w F) (hu : Uq F) (hF : FOk F) {p : Nat} (hp : p < F.length) {d : Nat → Nat} {ks : List Int} (hr : Re2 (sL F) d) (hk : ∀ l, l ∈ ks ↔ Uns (sL F) d l) (hl : ks.length ≤ 180) (v2 v4 : Option D) (mv : Bool) :
    ∃ d' ks' mv' c4, Re2 (sL F) d' ∧ (∀ l, l ∈ ks' ↔ Uns (sL F) d' l) ∧ ks'.length ≤ 180 ∧ ((Nx2 (sL F) d p ∧ d' = bump d p ∧ mv' = true) ∨ (¬ Nx2 (sL F) d p ∧ d' = d ∧ mv' = mv)) ∧
      (execs (C k) T0 l_Watcher__is_possible_1 (pE w S.length F.length v2 v4 (some (.bl mv)) (some (.int (p : Int))) (some (.ref (S.length + p)))) (pS S F d ks) = some (.nx (pE w S.length F.length v2 c4 (some (.bl mv')) (some (.int (p : Int))) (some (.ref (S.length + p)))) (pS S F d' ks')) ∨
       execs (C k) T0 l_Watcher__is_possible_1 (pE w S.length F.length v2 v4 (some (.bl mv)) (some (.int (p : Int))) (some (.ref (S.length + p)))) (pS S F d ks) = some (.ct (pE w S.length F.length v2 c4 (some (.bl mv')) (some (.int (p : Int))) (some (.ref (S.length + p)))) (pS S F d' ks'))) := by
  have hW' : Wat (pS S F d ks) w F := hW.app _
  have ob := pS_at (S := S) d ks hp
  have o1 : 0 ≤ PySem.sizeLine := Nat.zero_le _
  have t1 : cmpD .eq (.ref (S.length + p)) (.lst []) (pS S F d ks) = some (decide ((ixs (ro F p)).drop (d p) = [])) := eqD_nR _ ob
  cases hd : (ixs (ro F p)).drop (d p) with
  | nil =>
    rw [hd] at t1
    have hn : (sL F).getD p [] = srt (ro F p) := sL_row F p
    have no : ¬ Nx2 (sL F) d p := fun ⟨e, he, _⟩ => by
      obtain ⟨i, hi, _⟩ := sL_at.mp he
      have := List.drop_eq_nil_iff.mp hd
      rw [List.getElem?_eq_none this] at hi
      cases hi
    refine ⟨d, ks, mv, v4, hr, hk, hl, .inr ⟨no, rfl, rfl⟩, .inr ?_⟩
    unfold l_Watcher__is_possible_1 pE
    generalize pS S F d ks = U at *
    simp only [execs, exec, evalT, evalE, evalEs, List.getElem?_cons_succ, List.getElem?_cons_zero, bnd_ok, List.length_nil, o1, if_true, mkL_f, t1, decide_true, okO_some, bnS_ok, seqS_ct]
  | cons i r =>
    rw [hd, decide_eq_false (by simp)] at t1
    have hn : (ixs (ro F p))[d p]? = some i := by
      have := congrArg List.head? hd
      rw [List.head?_drop] at this
      exact this
    have hd1 : (ixs (ro F p)).drop (d p + 1) = r := by
      have := congrArg (List.drop 1) hd
      rw [List.drop_drop] at this
      exact this
    have him : i ∈ ixs (ro F p) := List.mem_of_getElem? hn
    obtain ⟨e, he⟩ : ∃ e, lk (ro F p) i = some e := by
      cases hh : lk (ro F p) i with
      | some e => exact ⟨e, rfl⟩
      | none => exact absurd (ixs_mem.mp him) (lk_none.mp hh)
    have ev : evAt (sL F) p (d p) = some e := sL_at.mpr ⟨i, hn, he⟩
    have wr := w_rows hW'
    have ra := fun U => rows_at (w := w) hp U
    have ob : (pS S F d ks)[S.length + p]? = some (.lst (nD (i :: r))) := by rw [ob]; unfold ob1; rw [hd]
    have i0 : ixD (pS S F d ks) (.ref (S.length + p)) (.int 0) = some (.int (i : Int)) := by rw [ixD_ref ob, nD_drop0 _ _ _ rfl]
    have ix := row_ix (i := i) hW' hp
    rw [he] at ix
    have ix : ixD (pS S F d ks) (.ref (w + 1 + p)) (.int (i : Int)) = some e.d := ix
    have x1 : exec (C k) T0 (.ifs (.cmp .eq (.v 7) (.lst false .nil)) (.cons .cont .nil) .nil) (pE w S.length F.length v2 v4 (some (.bl mv)) (some (.int (p : Int))) (some (.ref (S.length + p)))) (pS S F d ks) = some (.nx (pE w S.length F.length v2 v4 (some (.bl mv)) (some (.int (p : Int))) (some (.ref (S.length + p)))) (pS S F d ks)) := by
      unfold pE
      generalize pS S F d ks = U at *
      simp only [execs, exec, evalT, evalE, evalEs, List.getElem?_cons_succ, List.getElem?_cons_zero, bnd_ok, List.length_nil, o1, if_true, mkL_f, t1, okO_some, bnS_ok]
    have x2 : exec (C k) T0 (.asg (.n 4) (.ix (.ix (.att 0 (.v 0) "_rows") (.v 6)) (.ix (.v 7) (.c (.int 0))))) (pE w S.length F.length v2 v4 (some (.bl mv)) (some (.int (p : Int))) (some (.ref (S.length + p)))) (pS S F d ks) = some (.nx (pE w S.length F.length v2 (some e.d) (some (.bl mv)) (some (.int (p : Int))) (some (.ref (S.length + p)))) (pS S F d ks)) := by
      unfold pE
      generalize pS S F d ks = U at *
      simp only [exec, evalE, List.getElem?_cons_succ, List.getElem?_cons_zero, bnd_ok, wr, okO_some, ra, Cst.d, i0, ix, bnS_ok, asg_n, List.set_cons_succ, List.set_cons_zero]
    -- indexes.pop(0); moved = True
    have x5 : ∀ ks', execs (C k) T0 (.cons (.ex (.me .pop (.v 7) (.cons (.c (.int 0)) .nil))) (.cons (.asg (.n 5) (.c (.bl true))) .nil)) (pE w S.length F.length v2 (some e.d) (some (.bl mv)) (some (.int (p : Int))) (some (.ref (S.length + p)))) (pS S F d ks') = some (.nx (pE w S.length F.length v2 (some e.d) (some (.bl true)) (some (.int (p : Int))) (some (.ref (S.length + p)))) (pS S F (bump d p) ks')) := fun ks' => by
      have ob : (pS S F d ks')[S.length + p]? = some (.lst (nD (i :: r))) := by rw [pS_at d ks' hp]; unfold ob1; rw [hd]
      have gl : getL (pS S F d ks') (S.length + p) = some (nD (i :: r)) := getL_eq ob
      have ln : (nD (i :: r)).length ≤ 30 ∨ True := .inr trivial
      have lx : (nD (i :: r)).length = r.length + 1 := by unfold nD; rw [List.length_map]; rfl
      have nx : ixN (nD (i :: r)).length 0 = some 0 := by
        unfold ixN
        rw [lx, if_pos (by omega), if_pos (by omega)]; rfl
      have ty : tyM .pop (.ref (S.length + p)) (pS S F d ks') = true := by
        show (getL (pS S F d ks') (S.length + p)).isSome = true
        rw [gl]; rfl
      have pb := pS_bump (S := S) d ks' hp
      rw [hd1] at pb
      have lr : r.length + 1 ≤ (ro F p).length := by
        have := congrArg List.length hd
        rw [List.length_drop, ixs_len] at this
        simp at this
        omega
      have sz : (nD (i :: r)).length ≤ PySem.sizeLine := by
        rw [lx, PySem.sizeLine_eq]
        have := hF.r30 p
        omega
      have me : meD .pop (.ref (S.length + p)) [.int 0] (pS S F d ks') = some (.ok (D.int (i : Int)) (pS S F (bump d p) ks')) := by
        show (match getL (pS S F d ks') (S.length + p) with
          | some zs => match ixN zs.length 0 with
            | some k => match zs[k]? with
              | some y => if zs.length ≤ PySem.sizeLine then some (Ro.ok y ((pS S F d ks').set (S.length + p) (.lst (zs.eraseIdx k)))) else none
              | none => none
            | none => none
          | _ => none) = _
        rw [gl]
        simp only [nx]
        show (if (nD (i :: r)).length ≤ PySem.sizeLine then some (Ro.ok (D.int (i : Int)) ((pS S F d ks').set (S.length + p) (.lst (nD r)))) else none) = _
        rw [if_pos sz, pb]
      unfold pE
      generalize pS S F d ks' = U at *
      simp only [execs, exec, evalE, evalEs, List.getElem?_cons_succ, List.getElem?_cons_zero, bnd_ok, ty, if_true, Cst.d, me, bnS_ok, seqS_nx, asg_n, List.set_cons_succ, List.set_cons_zero]
    have e0 := fun U => ev_0 e U
    have gk := pS_kt (S := S) (F := F) d ks
    cases e with
    | step cs =>
      have q1 : ∀ U, cmpD .eq (.str "step") (.str "take") U = some false := fun U => by simp
      have q2 : ∀ U, cmpD .eq (.str "step") (.str "send") U = some false := fun U => by simp
      have nx : Nx2 (sL F) d p := ⟨_, ev, fun l cs' z => by cases z⟩
      refine ⟨bump d p, ks, true, some (Ev.step cs).d, .step hr nx, fun l => by rw [hk, uns_other ev (fun _ _ z => by cases z)], hl, .inl ⟨nx, rfl, rfl⟩, .inl ?_⟩
      unfold l_Watcher__is_possible_1
      rw [ex_go x1, ex_go x2]
      have x3 : ∀ r', execs (C k) T0 (.cons (.ifs (.and (.cmp .eq (.ix (.v 4) (.c (.int 0))) (.c (.str "take"))) (.cmp .isin (.ix (.v 4) (.c (.int 1))) (.v 3))) (.cons .cont .nil) .nil) (.cons (.ifs (.cmp .eq (.ix (.v 4) (.c (.int 0))) (.c (.str "send"))) (.cons (.ex (.me .dpop (.v 3) (.cons (.ix (.v 4) (.c (.int 1))) .nil))) .nil) .nil) r')) (pE w S.length F.length v2 (some (Ev.step cs).d) (some (.bl mv)) (some (.int (p : Int))) (some (.ref (S.length + p)))) (pS S F d ks) = execs (C k) T0 r' (pE w S.length F.length v2 (some (Ev.step cs).d) (some (.bl mv)) (some (.int (p : Int))) (some (.ref (S.length + p)))) (pS S F d ks) := fun r' => by
        unfold pE
        generalize pS S F d ks = U at *
        simp only [execs, exec, evalT, evalE, List.getElem?_cons_succ, List.getElem?_cons_zero, bnd_ok, Cst.d, okO_some, e0, q1, q2, bnS_ok, seqS_nx]
      rw [x3, x5]
    | send l cs =>
      have q1 : ∀ U, cmpD .eq (.str "send") (.str "take") U = some false := fun U => by simp
      have q2 : ∀ U, cmpD .eq (.str "send") (.str "send") U = some true := fun U => by simp
      have i1 : ∀ U, ixD U (Ev.send l cs).d (.int 1) = some (.int l) := fun U => rfl
      have nx : Nx2 (sL F) d p := ⟨_, ev, fun l cs' z => by cases z⟩
      have hin : l ∈ ks := (hk l).mpr ⟨p, d p, cs, Nat.le_refl _, ev⟩
      have ty : tyM .dpop (.ref (S.length + F.length)) (pS S F d ks) = true := by
        show (dctD (pS S F d ks) (.ref (S.length + F.length))).isSome = true
        rw [dctD_dref (t := 0) (ks := ks.map D.int) (vs := ks.map fun _ => D.bl true) gk]; rfl
      have me : meD .dpop (.ref (S.length + F.length)) [.int l] (pS S F d ks) = some (.ok (D.bl true) (pS S F d (ks.filter fun x => decide (x ≠ l)))) := by
        show (match (pS S F d ks)[S.length + F.length]? with
          | some (.dct 0 ks1 vs) => match kKey (.int l) with
            | some k => match lookK kKey k ks1 vs with
              | some d1 => some (Ro.ok d1 ((pS S F d ks).set (S.length + F.length) (.dct 0 (delK kKey k ks1 vs).1 (delK kKey k ks1 vs).2)))
              | none => none
            | none => none
          | _ => none) = _
        rw [gk]
        show (match lookK kKey (.inl l) (ks.map .int) (ks.map fun _ => .bl true) with
              | some d1 => some (Ro.ok d1 ((pS S F d ks).set (S.length + F.length) (.dct 0 (delK kKey (.inl l) (ks.map .int) (ks.map fun _ => .bl true)).1 (delK kKey (.inl l) (ks.map .int) (ks.map fun _ => .bl true)).2)))
              | none => none) = _
        rw [lookK_kt, if_pos hin, delK_kt]
        show some (Ro.ok (D.bl true) ((pS S F d ks).set (S.length + F.length) (kt (ks.filter fun x => decide (x ≠ l))))) = _
        rw [pS_setk]
      refine ⟨bump d p, ks.filter fun x => decide (x ≠ l), true, some (Ev.send l cs).d, .step hr nx, fun x => ?_, Nat.le_trans (List.length_filter_le ..) hl, .inl ⟨nx, rfl, rfl⟩, .inl ?_⟩
      · rw [uns_bump hu ev, List.mem_filter, hk, decide_eq_true_eq]
      unfold l_Watcher__is_possible_1
      rw [ex_go x1, ex_go x2]
      have x3 : ∀ r', execs (C k) T0 (.cons (.ifs (.and (.cmp .eq (.ix (.v 4) (.c (.int 0))) (.c (.str "take"))) (.cmp .isin (.ix (.v 4) (.c (.int 1))) (.v 3))) (.cons .cont .nil) .nil) (.cons (.ifs (.cmp .eq (.ix (.v 4) (.c (.int 0))) (.c (.str "send"))) (.cons (.ex (.me .dpop (.v 3) (.cons (.ix (.v 4) (.c (.int 1))) .nil))) .nil) .nil) r')) (pE w S.length F.length v2 (some (Ev.send l cs).d) (some (.bl mv)) (some (.int (p : Int))) (some (.ref (S.length + p)))) (pS S F d ks) = execs (C k) T0 r' (pE w S.length F.length v2 (some (Ev.send l cs).d) (some (.bl mv)) (some (.int (p : Int))) (some (.ref (S.length + p)))) (pS S F d (ks.filter fun x => decide (x ≠ l))) := fun r' => by
        unfold pE
        generalize pS S F d ks = U at *
        simp only [execs, exec, evalT, evalE, evalEs, List.getElem?_cons_succ, List.getElem?_cons_zero, bnd_ok, Cst.d, okO_some, e0, q1, q2, i1, ty, me, if_true, bnS_ok, seqS_nx]
      rw [x3, x5]
    | take l cs =>
      have q1 : ∀ U, cmpD .eq (.str "take") (.str "take") U = some true := fun U => by simp
      have q2 : ∀ U, cmpD .eq (.str "take") (.str "send") U = some false := fun U => by simp
      have i1 : ∀ U, ixD U (Ev.take l cs).d (.int 1) = some (.int l) := fun U => rfl
      have ni : cmpD .isin (.int l) (.ref (S.length + F.length)) (pS S F d ks) = some (decide (l ∈ ks)) := by
        show inD (pS S F d ks) (.int l) (.ref (S.length + F.length)) = _
        rw [inD_dref (t := 0) (ks := ks.map .int) (vs := ks.map fun _ => .bl true) gk, dGet_0i, lookK_kt]
        by_cases c : l ∈ ks
        · rw [if_pos c, decide_eq_true c]; rfl
        · rw [if_neg c, decide_eq_false c]; rfl
      by_cases c : l ∈ ks
      · rw [decide_eq_true c] at ni
        have no : ¬ Nx2 (sL F) d p := fun ⟨e', he', h⟩ => h l cs (by rw [ev] at he'; exact (Option.some.inj he').symm) ((hk l).mp c)
        refine ⟨d, ks, mv, some (Ev.take l cs).d, hr, hk, hl, .inr ⟨no, rfl, rfl⟩, .inr ?_⟩
        unfold l_Watcher__is_possible_1
        rw [ex_go x1, ex_go x2]
        unfold pE
        generalize pS S F d ks = U at *
        simp only [execs, exec, evalT, evalE, List.getElem?_cons_succ, List.getElem?_cons_zero, bnd_ok, Cst.d, okO_some, e0, q1, i1, ni, bnS_ok, seqS_ct]
      · rw [decide_eq_false c] at ni
        have nx : Nx2 (sL F) d p := ⟨_, ev, fun l' cs' z => by cases z; exact fun h => c ((hk l).mpr h)⟩
        refine ⟨bump d p, ks, true, some (Ev.take l cs).d, .step hr nx, fun l => by rw [hk, uns_other ev (fun _ _ z => by cases z)], hl, .inl ⟨nx, rfl, rfl⟩, .inl ?_⟩
        unfold l_Watcher__is_possible_1
        rw [ex_go x1, ex_go x2]
        have x3 : ∀ r', execs (C k) T0 (.cons (.ifs (.and (.cmp .eq (.ix (.v 4) (.c (.int 0))) (.c (.str "take"))) (.cmp .isin (.ix (.v 4) (.c (.int 1))) (.v 3))) (.cons .cont .nil) .nil) (.cons (.ifs (.cmp .eq (.ix (.v 4) (.c (.int 0))) (.c (.str "send"))) (.cons (.ex (.me .dpop (.v 3) (.cons (.ix (.v 4) (.c (.int 1))) .nil))) .nil) .nil) r')) (pE w S.length F.length v2 (some (Ev.take l cs).d) (some (.bl mv)) (some (.int (p : Int))) (some (.ref (S.length + p)))) (pS S F d ks) = execs (C k) T0 r' (pE w S.length F.length v2 (some (Ev.take l cs).d) (some (.bl mv)) (some (.int (p : Int))) (some (.ref (S.length + p)))) (pS S F d ks) := fun r' => by
          unfold pE
          generalize pS S F d ks = U at *
          simp only [execs, exec, evalT, evalE, List.getElem?_cons_succ, List.getElem?_cons_zero, bnd_ok, Cst.d, okO_some, e0, q1, q2, i1, ni, bnS_ok, seqS_nx]
        rw [x3, x5]
end
end Lk
namespace Lk
open PyProof.Rows L2 Ip
/-! _is_possible: the passes and the end -/
section
variable {S : Sto} {w : Nat} {F : Fd}
theorem nx2_lt {d : Nat → Nat} {p : Nat} (h : Nx2 (sL F) d p) : p < F.length := by
  obtain ⟨e, he, _⟩ := h
  obtain ⟨i, hi, hl⟩ := sL_at.mp he
  refine Nat.lt_of_not_le fun c => ?_
  rw [ro_no c] at hl
  cases hl
theorem po_pass (k : Nat) (hW : Wat S w F) (hu : Uq F) (hF : FOk F) : ∀ (m j : Nat), j + m = F.length → ∀ (d : Nat → Nat) (ks : List Int) (mv : Bool) (v2 v4 v6 v7 : Option D), Re2 (sL F) d → (∀ l, l ∈ ks ↔ Uns (sL F) d l) → ks.length ≤ 180 →
    ∃ d' ks' c4 c6 c7, forL (.t (.cons (.n 6) (.cons (.n 7) .nil))) (fun e S => execs (C k) T0 l_Watcher__is_possible_1 e S) ((List.range' j m).map fun p : Nat => .tup [.int (p : Int), .ref (S.length + p)]) (pE w S.length F.length v2 v4 (some (.bl mv)) v6 v7) (pS S F d ks) =
      some (.nx (pE w S.length F.length v2 c4 (some (.bl (mv || decide (tot F.length d < tot F.length d')))) c6 c7) (pS S F d' ks')) ∧ Re2 (sL F) d' ∧ (∀ l, l ∈ ks' ↔ Uns (sL F) d' l) ∧ ks'.length ≤ 180 ∧ (∀ q, d q ≤ d' q) ∧ (tot F.length d = tot F.length d' → ∀ p, j ≤ p → p < F.length → ¬ Nx2 (sL F) d p)
  | 0, j, _, d, ks, mv, v2, v4, v6, v7, hr, hk, hl => ⟨d, ks, v4, v6, v7, by simp [forL], hr, hk, hl, fun _ => Nat.le_refl _, fun _ p h1 h2 => by omega⟩
  | m + 1, j, hj, d, ks, mv, v2, v4, v6, v7, hr, hk, hl => by
    have hp : j < F.length := by omega
    obtain ⟨d1, ks1, mv1, b4, r1, k1, l1, hcase, hex⟩ := po_step k hW hu hF hp hr hk hl v2 v4 mv
    obtain ⟨d2, ks2, c4, c6, c7, e, r2, k2, l2, m2, n2⟩ := po_pass k hW hu hF m (j + 1) (by omega) d1 ks1 mv1 v2 b4 (some (.int (j : Int))) (some (.ref (S.length + j))) r1 k1 l1
    have as : asgT (.t (.cons (.n 6) (.cons (.n 7) .nil))) (.tup [.int (j : Int), .ref (S.length + j)]) (pE w S.length F.length v2 v4 (some (.bl mv)) v6 v7) = some (pE w S.length F.length v2 v4 (some (.bl mv)) (some (.int (j : Int))) (some (.ref (S.length + j)))) := rfl
    have hlp : forL (.t (.cons (.n 6) (.cons (.n 7) .nil))) (fun e S => execs (C k) T0 l_Watcher__is_possible_1 e S) ((List.range' j (m + 1)).map fun p : Nat => .tup [.int (p : Int), .ref (S.length + p)]) (pE w S.length F.length v2 v4 (some (.bl mv)) v6 v7) (pS S F d ks) =
        some (.nx (pE w S.length F.length v2 c4 (some (.bl (mv1 || decide (tot F.length d1 < tot F.length d2)))) c6 c7) (pS S F d2 ks2)) := by
      rw [List.range'_succ, List.map_cons]
      rcases hex with h | h
      · simp only [forL, as, h]; exact e
      · simp only [forL, as, h]; exact e
    have t2 := tot_mono m2 F.length
    rcases hcase with ⟨hn, rfl, rfl⟩ | ⟨hn, rfl, rfl⟩
    · have tb := tot_bump (d := d) F.length hp
      refine ⟨d2, ks2, c4, c6, c7, ?_, r2, k2, l2, fun q => Nat.le_trans (bump_le q) (m2 q), fun h => by omega⟩
      rw [hlp, decide_eq_true (show tot F.length d < tot F.length d2 by omega), Bool.true_or, Bool.or_true]
    · refine ⟨d2, ks2, c4, c6, c7, hlp, r2, k2, l2, m2, fun h p h1 h2 => ?_⟩
      by_cases hpj : p = j
      · subst hpj; exact hn
      · exact n2 h p (by omega) h2
theorem po_outer (k : Nat) (hW : Wat S w F) (hu : Uq F) (hF : FOk F) : ∀ (m : Nat) (d : Nat → Nat) (ks : List Int) (v2 v4 v6 v7 : Option D), tot F.length (lens (sL F)) - tot F.length d = m → Re2 (sL F) d → (∀ l, l ∈ ks ↔ Uns (sL F) d l) → ks.length ≤ 180 →
    ∃ d' ks' b4 b6 b7, lfp (whlStep (fun e S => evalT (C k) T0 w_Watcher__is_possible_1 e S) (fun e S => execs (C k) T0 l_Watcher__is_possible_2 e S)) (pE w S.length F.length v2 v4 (some (.bl true)) v6 v7, pS S F d ks) =
      some (.nx (pE w S.length F.length v2 b4 (some (.bl false)) b6 b7) (pS S F d' ks')) ∧ Re2 (sL F) d' ∧ ∀ p, ¬ Nx2 (sL F) d' p := by
  intro m
  induction m using Nat.strongRecOn with
  | _ m ih =>
    intro d ks v2 v4 v6 v7 hm hr hk hl
    obtain ⟨d1, ks1, b4, b6, b7, e1, r1, k1, l1, m1, n1⟩ := po_pass k hW hu hF F.length 0 (by omega) d ks false v2 v4 v6 v7 hr hk hl
    have st : execs (C k) T0 l_Watcher__is_possible_2 (pE w S.length F.length v2 v4 (some (.bl true)) v6 v7) (pS S F d ks) = some (.nx (pE w S.length F.length v2 b4 (some (.bl (decide (tot F.length d < tot F.length d1)))) b6 b7) (pS S F d1 ks1)) := by
      have a1 : exec (C k) T0 (.asg (.n 5) (.c (.bl false))) (pE w S.length F.length v2 v4 (some (.bl true)) v6 v7) (pS S F d ks) = some (.nx (pE w S.length F.length v2 v4 (some (.bl false)) v6 v7) (pS S F d ks)) := rfl
      have a2 : exec (C k) T0 (.for (.t (.cons (.n 6) (.cons (.n 7) .nil))) (.enum (.v 1)) l_Watcher__is_possible_1) (pE w S.length F.length v2 v4 (some (.bl false)) v6 v7) (pS S F d ks) = some (.nx (pE w S.length F.length v2 b4 (some (.bl (decide (tot F.length d < tot F.length d1)))) b6 b7) (pS S F d1 ks1)) := by
        have g1 : (pE w S.length F.length v2 v4 (some (.bl false)) v6 v7)[1]? = some (some (.lst (refs S.length F.length))) := rfl
        rw [exec]
        simp only [evalI, evalE, g1, bnd_ok, bnS_ok]
        rw [refs_rng, enF_rng, e1, Bool.false_or]
      unfold l_Watcher__is_possible_2
      rw [ex_go a1, execs, a2]
      simp only [seqS_nx, execs]
    have t1 : ∀ mv v2 v4 v6 v7 d ks, evalT (C k) T0 w_Watcher__is_possible_1 (pE w S.length F.length v2 v4 (some (.bl mv)) v6 v7) (pS S F d ks) = some (.ok mv (pS S F d ks)) := fun mv v2 v4 v6 v7 d ks => by
      unfold w_Watcher__is_possible_1 pE
      simp only [evalT, List.getElem?_cons_succ, List.getElem?_cons_zero, truD_bl, okO_some]
    have a := tot_mono m1 F.length
    have b := tot_mono (d' := lens (sL F)) r1.le_len F.length
    by_cases c : tot F.length d < tot F.length d1
    · rw [decide_eq_true c] at st
      obtain ⟨d2, ks2, c4, c6, c7, e2, r2, s2⟩ := ih _ (by omega) d1 ks1 v2 b4 b6 b7 rfl r1 k1 l1
      refine ⟨d2, ks2, c4, c6, c7, ?_, r2, s2⟩
      rw [lfp_eq]
      simp only [whlStep, t1, st]
      exact e2
    · rw [decide_eq_false c] at st
      have hs : ∀ p, ¬ Nx2 (sL F) d p := fun p hn => n1 (by omega) p (Nat.zero_le _) (nx2_lt hn) hn
      have ed : d1 = d := by
        funext q
        by_cases c : q < F.length
        · exact (tot_eq m1 (n := F.length) (by omega) q c).symm
        · have z1 := r1.le_len q
          have z2 := hr.le_len q
          rw [sL_lens, ro_no (by omega)] at z1 z2
          simp at z1 z2
          omega
      refine ⟨d1, ks1, b4, b6, b7, ?_, r1, by rw [ed]; exact hs⟩
      rw [lfp_eq]
      simp only [whlStep, t1, st]
      rw [lfp_eq]
      simp only [whlStep, t1]
theorem pds_LL : ∀ A : List (List Nat), pds (A.map fun l => .lst (nD l)) = some (A.map fun l => .list ((l.map fun i : Nat => (i : Int)).map PySem.PyData.int))
  | [] => rfl
  | a :: A => by rw [List.map_cons, pds, pd, pdn, pds_LL A]; rfl
theorem eqv_LL : ∀ A B : List (List Nat), PySem.PyData.eqvAll (A.map fun l => .list ((l.map fun i : Nat => (i : Int)).map PySem.PyData.int)) (B.map fun l => .list ((l.map fun i : Nat => (i : Int)).map PySem.PyData.int)) = decide (A = B)
  | [], [] => by simp [PySem.PyData.eqvAll]
  | [], _ :: _ => by simp [PySem.PyData.eqvAll]
  | _ :: _, [] => by simp [PySem.PyData.eqvAll]
  | a :: A, b :: B => by
    rw [List.map_cons, List.map_cons, PySem.PyData.eqvAll, eqv_LL A B, PySem.PyData.eqv, eqv_ints, Bool.eq_iff_iff]
    have : a.map (fun i : Nat => (i : Int)) = b.map (fun i : Nat => (i : Int)) ↔ a = b := by
      constructor
      · intro h
        have := congrArg (List.map Int.toNat) h
        rw [List.map_map, List.map_map] at this
        have i : (Int.toNat ∘ fun i : Nat => (i : Int)) = id := by funext i; simp
        rwa [i, List.map_id, List.map_id] at this
      · intro h; rw [h]
    simp only [Bool.and_eq_true, decide_eq_true_eq, this, List.cons.injEq]
theorem lay_LL : ∀ A : List (List Nat), PySem.PyData.canLayAll0 (A.map fun l => .list ((l.map fun i : Nat => (i : Int)).map PySem.PyData.int)) = true
  | [] => by simp [PySem.PyData.canLayAll0]
  | a :: A => by
    have := lay_ints (a.map fun i : Nat => (i : Int))
    rw [List.map_cons, PySem.PyData.canLayAll0, PySem.PyData.canLay0, this, lay_LL A]; rfl
theorem dep_LL : ∀ A : List (List Nat), PySem.PyData.depthAll (A.map fun l => .list ((l.map fun i : Nat => (i : Int)).map PySem.PyData.int)) ≤ 2
  | [] => by simp [PySem.PyData.depthAll]
  | a :: A => by
    have h1 := dep_LL A
    have h2 := dep_ints (a.map fun i : Nat => (i : Int))
    rw [List.map_cons, PySem.PyData.depthAll, PySem.PyData.depth]
    omega
theorem eqD_LL {xs ys : List D} (A B : List (List Nat)) (hx : xs.map (res1 S) = A.map fun l => .lst (nD l)) (hy : ys.map (res1 S) = B.map fun l => .lst (nD l)) : eqD S (.lst xs) (.lst ys) = some (decide (A = B)) := by
  have p1 : pd (res2 S (.lst xs)) = some (.list (A.map fun l => .list ((l.map fun i : Nat => (i : Int)).map PySem.PyData.int))) := by
    show pd (.lst (xs.map (res1 S))) = _
    rw [hx, pd, pds_LL]; rfl
  have p2 : pd (res2 S (.lst ys)) = some (.list (B.map fun l => .list ((l.map fun i : Nat => (i : Int)).map PySem.PyData.int))) := by
    show pd (.lst (ys.map (res1 S))) = _
    rw [hy, pd, pds_LL]; rfl
  show (match pd (res2 S (.lst xs)), pd (res2 S (.lst ys)) with
    | some a, some b => if PySem.SeqAt.shaped a = true ∧ PySem.SeqAt.shaped b = true then some (PySem.PyData.eqv a b) else none
    | _, _ => none) = _
  rw [p1, p2]
  simp only
  rw [if_pos ⟨shp_list _ (lay_LL A) (by have := dep_LL A; omega), shp_list _ (lay_LL B) (by have := dep_LL B; omega)⟩, PySem.PyData.eqv, eqv_LL]
theorem is_possible_ok (k : Nat) (hW : Wat S w F) (hu : Uq F) (hF : FOk F) : ∃ T b, C (k + 1) i_Watcher__is_possible [.ref w] S = some (.ok (.bl b) (S ++ T)) ∧ (b = true ↔ Po2 (sL F)) := by
  have h6 := hF.l6
  have wr : ∀ T, fldD (S ++ T) 0 (.ref w) "_rows" = some (.lst (refs (w + 1) F.length)) := fun T => w_rows (hW.app T)
  have wc : ∀ T, fldD (S ++ T) 0 (.ref w) "_count" = some (.int (F.length : Nat)) := fun T => w_count (hW.app T)
  have wr0 := w_rows hW
  obtain ⟨ks, c2, c4, e1, m1, l1⟩ := un_rows k hF hW (lo F fun _ => 0) none none none F.length 0 (by omega) [] none none (by simp)
  rw [lo_len] at e1
  have hk : ∀ l, l ∈ ks ↔ Uns (sL F) (fun _ => 0) l := fun l => by
    rw [m1, uns_0 hF]
    exact ⟨fun h => h.elim (fun h => (nomatch h)) id, .inr⟩
  obtain ⟨d, ks2, b4, b6, b7, e2, r2, s2⟩ := po_outer k hW hu hF _ (fun _ => 0) ks c2 c4 none none rfl .zero hk l1
  have x1 : exec (C k) T0 k_Watcher__is_possible_2 [some (.ref w), none, none, none, none, none, none, none, none] S = some (.nx [some (.ref w), some (.lst (refs S.length F.length)), none, none, none, none, none, none, none] (S ++ lo F fun _ => 0)) := by
    have lc : evalE (C k) T0 (.lc false [("row", 2)] (.n 2) (.of (.att 0 (.v 0) "_rows")) .no e_Watcher__is_possible_2) [some (.ref w), none, none, none, none, none, none, none, none] S = some (.ok (.lst (refs S.length F.length)) (S ++ lo F fun _ => 0)) := by
      have tn := lc_rows (S := S) (w := w) (F := F) (turn := fun x S => match asgT (.n 2) x (wipeE [some (.ref w), none, none, none, none, none, none, none, none] (([("row", 2)] : List (PySem.Str × Nat)).map (·.2))) with
        | some env1 => bnd (evalC (C k) T0 .no env1 S) fun b S2 => match b with
          | true => bnd (evalE (C k) T0 e_Watcher__is_possible_2 env1 S2) fun y S3 => some (.ok (some y) S3)
          | false => some (.ok none S2)
        | none => none) (fun p hp T => by
          have so := sorted_row hF hW hp T
          simp only [List.map_cons, List.map_nil, wipeE, List.set_cons_succ, List.set_cons_zero, asg_n, evalC, bnd_ok]
          unfold e_Watcher__is_possible_2
          simp only [evalE, evalEs, List.getElem?_cons_succ, List.getElem?_cons_zero, bnd_ok, so]) F.length 0 [] [] (by omega) rfl
      rw [List.append_nil, List.nil_append, List.nil_append] at tn
      rw [evalE]
      simp only [evalI, evalE, List.getElem?_cons_zero, bnd_ok, wr0, okO_some, itD_lst]
      rw [if_pos (by unfold refs; rw [List.length_map, List.length_range, PySem.sizeLine_eq]; omega), refs_rng, refs_rng]
      refine (congrArg (fun r => bnd r fun ys S2 => mkL false ys S2) tn).trans ?_
      simp only [bnd_ok, mkL_f]
      rfl
    unfold k_Watcher__is_possible_2
    rw [exec, lc]
    rfl
  have x2 : exec (C k) T0 (.asg (.n 3) (.dct true 0 [] [])) [some (.ref w), some (.lst (refs S.length F.length)), none, none, none, none, none, none, none] (S ++ lo F fun _ => 0) = some (.nx (pE w S.length F.length none none none none none) (S ++ (lo F (fun _ => 0) ++ [kt []]))) := by
    unfold pE
    simp only [exec, evalE, mkD_t, List.map_nil, bnS_ok, asg_n, List.set_cons_succ, List.set_cons_zero, List.length_append, lo_len, List.append_assoc]
    rfl
  have x3 : exec (C k) T0 (.for (.n 2) (.of (.att 0 (.v 0) "_rows")) l_Watcher__is_possible_4) (pE w S.length F.length none none none none none) (S ++ (lo F (fun _ => 0) ++ [kt []])) = some (.nx (pE w S.length F.length c2 c4 none none none) (pS S F (fun _ => 0) ks)) := by
    have g0 : (pE w S.length F.length none none none none none)[0]? = some (some (.ref w)) := rfl
    rw [exec]
    simp only [evalI, evalE, g0, bnd_ok, wr, okO_some, itD_lst, bnS_ok]
    rw [refs_rng]
    exact e1
  have x4 : exec (C k) T0 (.asg (.n 5) (.c (.bl true))) (pE w S.length F.length c2 c4 none none none) (pS S F (fun _ => 0) ks) = some (.nx (pE w S.length F.length c2 c4 (some (.bl true)) none none) (pS S F (fun _ => 0) ks)) := rfl
  have x5 : exec (C k) T0 (.whl w_Watcher__is_possible_1 l_Watcher__is_possible_2) (pE w S.length F.length c2 c4 (some (.bl true)) none none) (pS S F (fun _ => 0) ks) = some (.nx (pE w S.length F.length c2 b4 (some (.bl false)) b6 b7) (pS S F d ks2)) := e2
  have lc2 : evalE (C k) T0 k_Watcher__is_possible_1 (pE w S.length F.length c2 b4 (some (.bl false)) b6 b7) (pS S F d ks2) = some (.ok (.lst ((rg 0 F.length).map fun _ => .lst [])) (pS S F d ks2)) := by
    have o1 : 0 ≤ PySem.sizeLine := Nat.zero_le _
    have g0 : (pE w S.length F.length c2 b4 (some (.bl false)) b6 b7)[0]? = some (some (.ref w)) := rfl
    have hr : rngD 0 ((F.length : Nat) : Int) = some (rg 0 F.length) := by
      rw [rngD_rg ⟨by decide, by decide, by omega, by omega⟩]
      congr 2
    unfold k_Watcher__is_possible_1
    rw [lc_no (S := pS S F d ks2) (xs := rg 0 F.length) (fun _ => .lst []) (by
      have wc := wc (lo F d ++ [kt ks2])
      have wc : fldD (pS S F d ks2) 0 (.ref w) "_count" = some (.int (F.length : Nat)) := wc
      simp only [evalI, evalE, g0, bnd_ok, wc, okO_some, hr]) (by rw [rg_len, PySem.sizeLine_eq]; omega) (fun y hy => ?_), mkL_f]
    unfold e_Watcher__is_possible_1
    simp only [evalE, evalEs, bnd_ok, List.length_nil, o1, if_true, mkL_f]
  have eq : cmpD .eq (.lst (refs S.length F.length)) (.lst ((rg 0 F.length).map fun _ => .lst [])) (pS S F d ks2) = some (decide (((List.range' 0 F.length).map fun p => (ixs (ro F p)).drop (d p)) = (List.range' 0 F.length).map fun _ => ([] : List Nat))) := by
    refine eqD_LL _ _ ?_ ?_
    · rw [refs_rng, List.map_map, List.map_map]
      refine List.map_congr_left fun p hp => ?_
      rw [← List.range_eq_range', List.mem_range] at hp
      have g : getL (pS S F d ks2) (S.length + p) = some (nD ((ixs (ro F p)).drop (d p))) := getL_eq (pS_at d ks2 hp)
      show (match getL (pS S F d ks2) (S.length + p) with
        | some xs => D.lst xs
        | none => .ref (S.length + p)) = _
      rw [g]; rfl
    · rw [← rg_eq, List.map_map, List.map_map, List.map_map, List.range_eq_range']
      exact List.map_congr_left fun _ _ => rfl
  refine ⟨lo F d ++ [kt ks2], decide (((List.range' 0 F.length).map fun p => (ixs (ro F p)).drop (d p)) = (List.range' 0 F.length).map fun _ => ([] : List Nat)), ?_, ?_⟩
  · rw [c_Watcher__is_possible]
    unfold b_Watcher__is_possible
    rw [ex_go x1, ex_go x2, ex_go x3, ex_go x4, ex_go x5]
    have g1 : (pE w S.length F.length c2 b4 (some (.bl false)) b6 b7)[1]? = some (some (.lst (refs S.length F.length))) := rfl
    simp only [execs, exec, evalE, g1, bnd_ok, lc2, eq, Option.map_some, okO_some, bnS_ok, seqS_rt, outS_rt]
    rfl
  · rw [po2_stuck r2 s2, decide_eq_true_eq]
    constructor
    · intro h p
      refine Nat.le_antisymm (r2.le_len p) ?_
      by_cases c : p < F.length
      · have := congrArg (fun l => l[p]?) h
        simp only [List.getElem?_map, List.getElem?_range' c, Option.map_some, Option.some.injEq] at this
        have := List.drop_eq_nil_iff.mp this
        rw [ixs_len] at this
        rw [sL_lens]
        simpa using this
      · rw [sL_lens, ro_no (by omega)]; simp
    · intro h
      refine List.map_congr_left fun p hp => List.drop_eq_nil_iff.mpr ?_
      exact Nat.le_of_eq (by rw [ixs_len, h p, sL_lens])
end
end Lk
namespace Lk
open PyProof.Rows L2 Ip
/-! waiting -/
section
variable {S : Sto} {w : Nat} {F : Fd}
theorem sorted_rowF (hF : FOk F) (hW : Wat S w F) {p : Nat} (hp : p < F.length) : bfD .sorted false [.ref (w + 1 + p)] S = some (.ok (.lst (nD (ixs (ro F p)))) S) := by
  have g := hW.row p hp
  have e1 : lstD S (.ref (w + 1 + p)) = none := by
    show getL S (w + 1 + p) = none
    unfold getL
    rw [g]; rfl
  have e2 : dctD S (.ref (w + 1 + p)) = some (0, rowK (ro F p), rowV (ro F p)) := dctD_dref g
  have ek : rowK (ro F p) = ((ro F p).map fun z => (z.1 : Int)).map .int := by unfold rowK; rw [List.map_map]; rfl
  have e3 : asInts (rowK (ro F p)) = some ((ro F p).map fun z => (z.1 : Int)) := by rw [ek, asInts_map]
  have l30 := hF.r30 p
  have e : bfD .sorted false [.ref (w + 1 + p)] S = if ((ro F p).map fun z => (z.1 : Int)).length < 64 then mkL false ((sortI ((ro F p).map fun z => (z.1 : Int))).map .int) S else none := by
    unfold bfD
    simp only [e1, e2, e3]
  rw [e, if_pos (by rw [List.length_map]; omega), mkL_f, ixs_int, List.map_map]; rfl
noncomputable def wL (F : Fd) (p : Nat) : List Nat := (ixs (ro F p)).filter fun i => decide (kd F p < i)
def prW (p i : Nat) : D := .tup [.int (p : Int), .int (i : Int)]
noncomputable def wtL (F : Fd) : List D := (List.range' 0 F.length).flatMap fun p => (wL F p).map (prW p)
def wE (w a : Nat) (v2 v3 : Option D) : Ip.En := [some (.ref w), some (.ref a), v2, v3, none]
theorem w0 (o : Ob) (T : Sto) : (S ++ ([o] ++ T))[S.length]? = some o := by
  rw [List.getElem?_append_right (Nat.le_refl _), Nat.sub_self]; rfl
theorem w0s (o o' : Ob) (T : Sto) : (S ++ ([o] ++ T)).set S.length o' = S ++ ([o'] ++ T) := by
  rw [List.set_append_right _ _ (Nat.le_refl _), Nat.sub_self]; rfl
theorem wt_loop (k : Nat) (hF : FOk F) (hW : Wat S w F) (T : Sto) : ∀ (m j : Nat), j + m = F.length → ∀ (acc : List D) (v2 v3 : Option D), acc.length ≤ 30 * j →
    ∃ c2 c3, forL (.t (.cons (.n 2) (.cons (.n 3) .nil))) (fun e S => execs (C k) T0 l_Watcher_waiting_1 e S) ((List.range' j m).map fun p : Nat => .tup [.int (p : Int), rowD ((knR F).getD p [])]) (wE w S.length v2 v3) (S ++ ([.lst acc] ++ T)) =
      some (.nx (wE w S.length c2 c3) (S ++ ([.lst (acc ++ (List.range' j m).flatMap fun p => (wL F p).map (prW p))] ++ T)))
  | 0, j, _, acc, v2, v3, _ => ⟨v2, v3, by simp [forL]⟩
  | m + 1, j, hj, acc, v2, v3, hl => by
    have hp : j < F.length := by omega
    have h6 := hF.l6
    have l30 := hF.r30 j
    have hW' : Wat (S ++ ([.lst acc] ++ T)) w F := hW.app _
    have wr := w_rows hW'
    have so := sorted_rowF hF hW' hp
    have ra := fun U => rows_at (w := w) hp U
    have wl : (wL F j).length ≤ 30 := by
      have : (wL F j).length ≤ (ixs (ro F j)).length := List.length_filter_le ..
      rw [ixs_len] at this; omega
    obtain ⟨c2, c3, e⟩ := wt_loop k hF hW T m (j + 1) (by omega) (acc ++ (wL F j).map (prW j)) (some (.int (j : Int))) (some (rowD ((knR F).getD j []))) (by rw [List.length_append, List.length_map]; omega)
    refine ⟨c2, c3, ?_⟩
    have as : asgT (.t (.cons (.n 2) (.cons (.n 3) .nil))) (.tup [.int (j : Int), rowD ((knR F).getD j [])]) (wE w S.length v2 v3) = some (wE w S.length (some (.int (j : Int))) (some (rowD ((knR F).getD j [])))) := rfl
    have g0 := w0 (S := S) (.lst acc) T
    have lk' : ∀ U, biD .len [rowD ((knR F).getD j [])] U = some (.int (kd F j : Int)) := fun U => by
      show some (D.int (((knR F).getD j []).map Ev.d).length) = _
      rw [List.length_map, knR_rlen]
    have lc : evalE (C k) T0 k_Watcher_waiting_1 (wE w S.length (some (.int (j : Int))) (some (rowD ((knR F).getD j [])))) (S ++ ([.lst acc] ++ T)) = some (.ok (.lst ((wL F j).map (prW j))) (S ++ ([.lst acc] ++ T))) := by
      generalize hU : S ++ ([.lst acc] ++ T) = U at *
      unfold k_Watcher_waiting_1 wE q_Watcher_waiting_1
      have o2 : 0 + 1 + 1 ≤ PySem.sizeLine := by rw [PySem.sizeLine_eq]; decide
      rw [lc_so (S := U) (xs := nD (ixs (ro F j))) (fun d => match d with
        | .int i => decide ((kd F j : Int) < i)
        | _ => false) (fun d => .tup [.int (j : Int), d]) (by
          simp only [evalI, evalE, evalEs, List.getElem?_cons_succ, List.getElem?_cons_zero, bnd_ok, wr, okO_some, ra, so, itD_lst]) (by unfold nD; rw [List.length_map, ixs_len, PySem.sizeLine_eq]; omega) (fun y hy => ?_) (fun y hy _ => ?_), mkL_f]
      · congr 3
        unfold nD wL
        rw [List.filter_map, List.map_map]
        have ef : ((fun d : D => match d with
          | .int i => decide ((kd F j : Int) < i)
          | _ => false) ∘ fun i : Nat => D.int (i : Int)) = fun i => decide (kd F j < i) := by
          funext i
          show decide ((kd F j : Int) < (i : Int)) = _
          rw [decide_eq_decide]; omega
        rw [ef]; rfl
      · obtain ⟨i, _, rfl⟩ := List.mem_map.mp hy
        have cg : cmpD .gt (.int (i : Int)) (.int (kd F j : Int)) U = some (decide ((kd F j : Int) < (i : Int))) := rfl
        simp only [List.map_cons, List.map_nil, wipeE, List.set_cons_succ, List.set_cons_zero, evalT, evalE, evalEs, List.getElem?_cons_succ, List.getElem?_cons_zero, bnd_ok, lk', okO_some, cg]
      · unfold e_Watcher_waiting_1
        simp only [List.map_cons, List.map_nil, wipeE, List.set_cons_succ, List.set_cons_zero, evalE, evalEs, List.getElem?_cons_succ, List.getElem?_cons_zero, bnd_ok, List.length_cons, List.length_nil, o2, if_true]
    have st : execs (C k) T0 l_Watcher_waiting_1 (wE w S.length (some (.int (j : Int))) (some (rowD ((knR F).getD j [])))) (S ++ ([.lst acc] ++ T)) = some (.nx (wE w S.length (some (.int (j : Int))) (some (rowD ((knR F).getD j [])))) (S ++ ([.lst (acc ++ (wL F j).map (prW j))] ++ T))) := by
      have gl : getL (S ++ ([.lst acc] ++ T)) S.length = some acc := getL_eq g0
      have ty : tyM .extend (.ref S.length) (S ++ ([.lst acc] ++ T)) = true := by
        show (getL (S ++ ([.lst acc] ++ T)) S.length).isSome = true
        rw [gl]; rfl
      have me : meD .extend (.ref S.length) [.lst ((wL F j).map (prW j))] (S ++ ([.lst acc] ++ T)) = some (.ok .non (S ++ ([.lst (acc ++ (wL F j).map (prW j))] ++ T))) := by
        show (match getL (S ++ ([Ob.lst acc] ++ T)) S.length, (some ((wL F j).map (prW j)) : Option (List D)) with
          | some zs, some ys => if zs.length + ys.length ≤ PySem.sizeLine then some (Ro.ok D.non ((S ++ ([Ob.lst acc] ++ T)).set S.length (.lst (zs ++ ys)))) else none
          | _, _ => none) = _
        rw [gl]
        simp only
        rw [if_pos (by rw [PySem.sizeLine_eq, List.length_map]; omega), w0s]
      have g1 : (wE w S.length (some (.int (j : Int))) (some (rowD ((knR F).getD j []))))[1]? = some (some (.ref S.length)) := rfl
      unfold l_Watcher_waiting_1
      simp only [execs, exec, evalE, evalEs, g1, bnd_ok, ty, if_true, lc, me, bnS_ok, seqS_nx]
    rw [List.range'_succ, List.map_cons, List.flatMap_cons]
    simp only [forL, as, st, e, List.append_assoc]
theorem knR_map (F : Fd) : (knR F).map rowD = (List.range' 0 F.length).map fun p => rowD ((knR F).getD p []) := by
  refine List.ext_getElem? fun p => ?_
  rw [List.getElem?_map, List.getElem?_map]
  by_cases c : p < F.length
  · rw [List.getElem?_range' c, List.getElem?_eq_getElem (by rw [knR_len]; exact c)]
    simp only [Option.map_some, Nat.zero_add, Nat.one_mul]
    rw [getD_of (by rw [knR_len]; exact c)]
  · rw [List.getElem?_eq_none (by rw [knR_len]; omega), List.getElem?_eq_none (by rw [List.length_range']; omega)]; rfl
theorem waiting_ok (k : Nat) (hF : FOk F) (hW : Wat S w F) : ∃ T, C (k + 3) i_Watcher_waiting [.ref w] S = some (.ok (.ref S.length) (S ++ ([.lst (wtL F)] ++ T))) := by
  rw [c_Watcher_waiting]
  obtain ⟨T, e1⟩ := known_ok (S := S ++ [.lst []]) k hF (hW.app _)
  obtain ⟨c2, c3, e2⟩ := wt_loop (k + 2) hF hW T F.length 0 (by omega) [] none none (by simp)
  refine ⟨T, ?_⟩
  have mt := w_mth (hW.app [.lst []]) "known" (by simp [wNm])
  have o0 : 0 ≤ PySem.sizeLine := Nat.zero_le _
  have x1 : exec (C (k + 2)) T0 (.asg (.n 1) (.lst true .nil)) [some (.ref w), none, none, none, none] S = some (.nx (wE w S.length none none) (S ++ [.lst []])) := by
    unfold wE
    simp only [exec, evalE, evalEs, bnd_ok, List.length_nil, o0, if_true, mkL_t, bnS_ok, asg_n, List.set_cons_succ, List.set_cons_zero]
  have x2 : exec (C (k + 2)) T0 (.for (.t (.cons (.n 2) (.cons (.n 3) .nil))) (.enum (.mcl 0 i_Watcher_known "known" false (.v 0) .nil)) l_Watcher_waiting_1) (wE w S.length none none) (S ++ [.lst []]) = some (.nx (wE w S.length c2 c3) (S ++ ([.lst (wtL F)] ++ T))) := by
    have g0 : (wE w S.length none none)[0]? = some (some (.ref w)) := rfl
    rw [exec]
    simp only [evalI, evalE, evalEs, g0, bnd_ok, mt, if_true, callP_f, e1, rnD, bnS_ok]
    rw [knR_map, enF_rng, List.append_assoc, e2, List.nil_append]; rfl
  have g1 : (wE w S.length c2 c3)[1]? = some (some (.ref S.length)) := rfl
  unfold b_Watcher_waiting
  rw [ex_go x1, ex_go x2]
  simp only [execs, exec, evalE, g1, bnS_ok, seqS_rt, outS_rt]
/-! a new watcher -/
theorem mk_dcts (k : Nat) (env : Ip.En) (own : List Nat) : ∀ (c : Nat) (j : Int) (S : Sto) (acc : List D),
    lcLoop (fun x S => match asgT (.n 2) x (wipeE env own) with
      | some env1 => bnd (evalC (C k) T0 .no env1 S) fun b S2 => match b with
        | true => bnd (evalE (C k) T0 e_Watcher___init___1 env1 S2) fun y S3 => some (.ok (some y) S3)
        | false => some (.ok none S2)
      | none => none) (rg j c) S acc = some (.ok (acc ++ refs S.length c) (S ++ List.replicate c (.dct 0 [] [])))
  | 0, j, S, acc => by simp [rg, lcLoop, refs]
  | c + 1, j, S, acc => by
    have ih := mk_dcts k env own c (j + 1) (S ++ [.dct 0 [] []]) (acc ++ [.ref S.length])
    rw [rg, lcLoop]
    have t : (match asgT (.n 2) (.int j) (wipeE env own) with
      | some env1 => bnd (evalC (C k) T0 .no env1 S) fun b S2 => match b with
        | true => bnd (evalE (C k) T0 e_Watcher___init___1 env1 S2) fun y S3 => some (Ro.ok (some y) S3)
        | false => some (.ok none S2)
      | none => none) = some (Ro.ok (some (.ref S.length)) (S ++ [.dct 0 [] []])) := by
      unfold e_Watcher___init___1
      simp only [asg_n, evalC, bnd_ok, evalE, mkD_t, List.map_nil]
    rw [t]
    refine ih.trans ?_
    rw [List.length_append, List.append_assoc, List.append_assoc]
    congr 3
    · unfold refs
      rw [List.range_succ_eq_map, List.map_cons, List.map_map]
      congr 1
      show D.ref S.length :: _ = _
      congr 1
      refine List.map_congr_left fun x _ => ?_
      simp only [List.length_cons, List.length_nil, Function.comp]
      congr 1
      omega
def newW (a n : Nat) : Sto := [.ins 0 wNm [.int (n : Int), .lst (refs (a + 1) n)]] ++ List.replicate n (.dct 0 [] [])
theorem newW_len (a n : Nat) : (newW a n).length = n + 1 := by unfold newW; rw [List.length_append, List.length_replicate]; simp; omega
theorem make_ok (k : Nat) (S : Sto) {n : Nat} (h1 : 1 ≤ n) (h6 : n ≤ 6) : mkC (C (k + 2)) i_Watcher___init__ 0 true [.int (n : Int)] S = some (.ok (.ref S.length) (S ++ newW S.length n)) := by
  have ci : C (k + 2) i_Watcher___init__ [.ref S.length, .int (n : Int)] (S ++ [.ins 0 [] []]) = some (.ok .non (S ++ newW S.length n)) := by
    rw [c_Watcher___init__]
    have ii : callP (C (k + 1)) true i_is_integer [.int (n : Int), .int 1, .int 6] (S ++ [.ins 0 [] []]) = some (.ok (.bl true) (S ++ [.ins 0 [] []])) := by
      have := is_integer_ok k 0 (.int (n : Int)) 1 6 [] (by rfl)
      rw [show isInt (.int (n : Int)) 1 6 = true by simp [isInt]; omega] at this
      exact callP_t rfl this rfl
    have x1 : exec (C (k + 1)) T0 (.ifs (.not (.call i_is_integer true (.cons (.v 1) (.cons (.c (.int 1)) (.cons (.g g_MOST_PROCESSES) .nil))))) (.cons (.raise 1) .nil) .nil) [some (.ref S.length), some (.int (n : Int)), none] (S ++ [.ins 0 [] []]) = some (.nx [some (.ref S.length), some (.int (n : Int)), none] (S ++ [.ins 0 [] []])) := by
      simp only [exec, evalT, evalE, evalEs, List.getElem?_cons_succ, List.getElem?_cons_zero, bnd_ok, Cst.d, t_MOST_PROCESSES, okO_some, ii, truD_bl, Bool.not_true, bnS_ok, execs]
    have x2 : exec (C (k + 1)) T0 (.asgA 0 (.v 0) "_count" (.v 1)) [some (.ref S.length), some (.int (n : Int)), none] (S ++ [.ins 0 [] []]) = some (.nx [some (.ref S.length), some (.int (n : Int)), none] (S ++ [.ins 0 ["_count"] [.int (n : Int)]])) := by
      simp only [exec, evalE, List.getElem?_cons_succ, List.getElem?_cons_zero, bnS_ok, at_last, set_last]
      rfl
    have lc : evalE (C (k + 1)) T0 k_Watcher___init___1 [some (.ref S.length), some (.int (n : Int)), none] (S ++ [.ins 0 ["_count"] [.int (n : Int)]]) = some (.ok (.lst (refs (S.length + 1) n)) (S ++ [Ob.ins 0 ["_count"] [.int (n : Int)]] ++ List.replicate n (Ob.dct 0 [] []))) := by
      have hr : rngD 0 (n : Int) = some (rg 0 n) := by
        rw [rngD_rg ⟨by decide, by decide, by omega, by omega⟩]
        congr 2
      have m := mk_dcts (k + 1) [some (.ref S.length), some (.int (n : Int)), none] [2] n 0 (S ++ [.ins 0 ["_count"] [.int (n : Int)]]) []
      unfold k_Watcher___init___1
      rw [evalE]
      simp only [evalI, evalE, List.getElem?_cons_succ, List.getElem?_cons_zero, bnd_ok, hr, okO_some]
      rw [if_pos (by rw [rg_len, PySem.sizeLine_eq]; omega)]
      refine (congrArg (fun z => bnd z fun ys S2 => mkL false ys S2) m).trans ?_
      rw [List.length_append]
      rfl
    have x3 : exec (C (k + 1)) T0 (.asgA 0 (.v 0) "_rows" k_Watcher___init___1) [some (.ref S.length), some (.int (n : Int)), none] (S ++ [.ins 0 ["_count"] [.int (n : Int)]]) = some (.nx [some (.ref S.length), some (.int (n : Int)), none] (S ++ newW S.length n)) := by
      have g : (S ++ [Ob.ins 0 ["_count"] [.int (n : Int)]] ++ List.replicate n (Ob.dct 0 [] []))[S.length]? = some (Ob.ins 0 ["_count"] [.int (n : Int)]) := by
        rw [List.append_assoc]; exact w0 _ _
      have s : (S ++ [Ob.ins 0 ["_count"] [.int (n : Int)]] ++ List.replicate n (Ob.dct 0 [] [])).set S.length (.ins 0 wNm [.int (n : Int), .lst (refs (S.length + 1) n)]) = S ++ newW S.length n := by
        rw [List.append_assoc]; exact w0s _ _ _
      rw [exec]
      simp only [lc, evalE, List.getElem?_cons_zero, bnS_ok, g]
      show (if 0 = 0 ∧ 1 < 1000 then some (So.nx [some (.ref S.length), some (.int (n : Int)), none] ((S ++ [Ob.ins 0 ["_count"] [.int (n : Int)]] ++ List.replicate n (Ob.dct 0 [] [])).set S.length (.ins 0 (putA "_rows" (.lst (refs (S.length + 1) n)) ["_count"] [.int (n : Int)]).1 (putA "_rows" (.lst (refs (S.length + 1) n)) ["_count"] [.int (n : Int)]).2))) else none) = _
      rw [if_pos (by decide), show (putA "_rows" (.lst (refs (S.length + 1) n)) ["_count"] [.int (n : Int)]) = (wNm, [.int (n : Int), .lst (refs (S.length + 1) n)]) by simp [putA, wNm]]
      simp only
      rw [s]
    unfold b_Watcher___init__
    rw [ex_go x1, ex_go x2, ex_go x3]
    rfl
  have e : mkC (C (k + 2)) i_Watcher___init__ 0 true [.int (n : Int)] S = mkR (C (k + 2)) i_Watcher___init__ 0 false [.int (n : Int)] S := rfl
  rw [e]
  unfold mkR
  rw [ci]
  rfl
theorem newW_wat (S : Sto) (n : Nat) (T : Sto) : Wat (S ++ newW S.length n ++ T) S.length (List.replicate n []) := by
  refine Wat.app ⟨?_, fun p hp => ?_⟩ T
  · rw [List.length_replicate]
    exact w0 _ _
  · rw [List.length_replicate] at hp
    unfold newW
    rw [List.getElem?_append_right (by omega), List.getElem?_append_right (by simp; omega), List.getElem?_replicate]
    rw [if_pos (by simp; omega)]
    have : ro (List.replicate n []) p = [] := by
      unfold ro
      rw [List.getD_eq_getElem?_getD, List.getElem?_replicate]
      split <;> rfl
    rw [this]; rfl
end
end Lk
namespace Lk
open PyProof.Rows L2 Ip
/-! == of plain data -/
mutual
def plD : D → Bool
  | .int _ => true
  | .str _ => true
  | .tup xs => plDs xs
  | _ => false
def plDs : List D → Bool
  | [] => true
  | d :: ds => plD d && plDs ds
end
mutual
theorem eqv_pl : ∀ (a b : D) (x y : PySem.PyData), plD a = true → plD b = true → pd a = some x → pd b = some y → (PySem.PyData.eqv x y = true ↔ a = b)
  | .int i, b, x, y, _, hb, hx, hy => by
    cases hx
    cases b <;> simp [plD] at hb <;> simp only [pd, Option.some.injEq] at hy
    · subst hy; simp [PySem.PyData.eqv]
    · subst hy; simp [PySem.PyData.eqv]
    · obtain ⟨ys, _, rfl⟩ := Option.map_eq_some_iff.mp hy
      simp [PySem.PyData.eqv]
  | .str i, b, x, y, _, hb, hx, hy => by
    cases hx
    cases b <;> simp [plD] at hb <;> simp only [pd, Option.some.injEq] at hy
    · subst hy; simp [PySem.PyData.eqv]
    · subst hy; simp [PySem.PyData.eqv]
    · obtain ⟨ys, _, rfl⟩ := Option.map_eq_some_iff.mp hy
      simp [PySem.PyData.eqv]
  | .tup xs, b, x, y, ha, hb, hx, hy => by
    obtain ⟨us, hu, rfl⟩ := Option.map_eq_some_iff.mp hx
    cases b <;> simp [plD] at hb <;> simp only [pd, Option.some.injEq] at hy
    · subst hy; simp [PySem.PyData.eqv]
    · subst hy; simp [PySem.PyData.eqv]
    · rename_i ys
      obtain ⟨vs, hv, rfl⟩ := Option.map_eq_some_iff.mp hy
      rw [PySem.PyData.eqv, eqv_pls xs ys us vs ha hb hu hv]
      simp
theorem eqv_pls : ∀ (as bs : List D) (xs ys : List PySem.PyData), plDs as = true → plDs bs = true → pds as = some xs → pds bs = some ys → (PySem.PyData.eqvAll xs ys = true ↔ as = bs)
  | [], [], xs, ys, _, _, hx, hy => by cases hx; cases hy; simp [PySem.PyData.eqvAll]
  | [], b :: bs, xs, ys, _, _, hx, hy => by
    cases hx
    rw [pds] at hy
    split at hy
    · cases hy; simp [PySem.PyData.eqvAll]
    · cases hy
  | a :: as, [], xs, ys, _, _, hx, hy => by
    cases hy
    rw [pds] at hx
    split at hx
    · cases hx; simp [PySem.PyData.eqvAll]
    · cases hx
  | a :: as, b :: bs, xs, ys, ha, hb, hx, hy => by
    rw [plDs, Bool.and_eq_true] at ha hb
    rw [pds] at hx hy
    split at hx
    · rename_i u us h1 h2
      split at hy
      · rename_i v vs h3 h4
        cases hx; cases hy
        rw [PySem.PyData.eqvAll, Bool.and_eq_true, eqv_pl a b u v ha.1 hb.1 h1 h3, eqv_pls as bs us vs ha.2 hb.2 h2 h4]
        simp
      · cases hy
    · cases hx
end
theorem pl_cs : ∀ cs : List Ch, plDs (cs.map chD) = true
  | [] => rfl
  | c :: cs => by rw [List.map_cons, plDs, pl_cs cs]; rfl
theorem pl_ev (e : Ev) : plD e.d = true := by
  cases e <;> simp [Ev.d, csD, plD, plDs, pl_cs]
theorem Ev.d_inj {a b : Ev} (h : a.d = b.d) : a = b := by
  have := rnD_inj (a := [[a]]) (b := [[b]]) (by
    show D.tup [D.tup [a.d]] = D.tup [D.tup [b.d]]
    rw [h])
  simpa using this
theorem eqD_ev {a b : Ev} (ha : a.ok) (hb : b.ok) (S : Sto) : ∃ v, eqD S a.d b.d = some v ∧ (v = true ↔ a = b) := by
  obtain ⟨x, h1, h2⟩ := dat_shaped (n := 3) (by decide) (ev_dat ha)
  obtain ⟨y, h3, h4⟩ := dat_shaped (n := 3) (by decide) (ev_dat hb)
  have q := eqv_pl a.d b.d x y (pl_ev a) (pl_ev b) h1 h3
  have e : eqD S a.d b.d = (match pd (res2 S a.d), pd (res2 S b.d) with
    | some a, some b => if PySem.SeqAt.shaped a = true ∧ PySem.SeqAt.shaped b = true then some (PySem.PyData.eqv a b) else none
    | _, _ => none) := by cases a <;> cases b <;> rfl
  have r : ∀ e : Ev, res2 S e.d = e.d := fun e => by cases e <;> rfl
  refine ⟨PySem.PyData.eqv x y, ?_, ?_⟩
  · rw [e, r, r, h1, h3]
    simp only
    rw [if_pos ⟨h2, h4⟩]
  · rw [q]
    exact ⟨Ev.d_inj, fun h => by rw [h]⟩
/-! one more event -/
def addF (F : Fd) (p i : Nat) (e : Ev) : Fd := F.set p (ro F p ++ [(i, e)])
theorem addF_len (F : Fd) (p i : Nat) (e : Ev) : (addF F p i e).length = F.length := List.length_set ..
theorem ro_add {F : Fd} {p : Nat} (hp : p < F.length) (i : Nat) (e : Ev) (q : Nat) : ro (addF F p i e) q = if q = p then ro F p ++ [(i, e)] else ro F q := by
  show (F.set p (ro F p ++ [(i, e)])).getD q [] = _
  rw [List.getD_eq_getElem?_getD, List.getElem?_set]
  by_cases c : p = q
  · subst c
    rw [if_pos rfl, if_pos hp, if_pos rfl]; rfl
  · rw [if_neg c, if_neg (fun h => c h.symm)]
    unfold ro
    rw [List.getD_eq_getElem?_getD]
theorem lk_add {F : Fd} {p i : Nat} {e : Ev} (hp : p < F.length) (hn : lk (ro F p) i = none) (q j : Nat) : lk (ro (addF F p i e) q) j = if q = p ∧ j = i then some e else lk (ro F q) j := by
  rw [ro_add hp]
  by_cases c : q = p
  · subst c
    rw [if_pos rfl, lk_app]
    by_cases d : j = i
    · subst d
      rw [hn, if_pos (And.intro rfl rfl)]
      simp
    · rw [if_neg (show ¬ (q = q ∧ j = i) from fun h => d h.2)]
      cases hx : lk (ro F q) j with
      | some x => rfl
      | none =>
        show (if i = j then some e else none) = none
        rw [if_neg (fun h => d h.symm)]
  · rw [if_neg c, if_neg (fun h => c h.1)]
theorem FOk.add {F : Fd} (h : FOk F) {p i : Nat} {e : Ev} (hp : p < F.length) (hi : 1 ≤ i ∧ i ≤ 30) (he : e.ok) (hn : lk (ro F p) i = none) : FOk (addF F p i e) := by
  refine ⟨by rw [addF_len]; exact h.l6, fun q => ?_, fun q z hz => ?_⟩
  · rw [ro_add hp]
    by_cases c : q = p
    · rw [if_pos c, List.map_append, List.nodup_append]
      refine ⟨h.nd p, by simp, fun a ha b hb => ?_⟩
      simp only [List.map_cons, List.map_nil, List.mem_singleton] at hb
      rw [hb]
      exact fun e => lk_none.mp hn (e ▸ ha)
    · rw [if_neg c]; exact h.nd q
  · rw [ro_add hp] at hz
    by_cases c : q = p
    · rw [if_pos c] at hz
      rcases List.mem_append.mp hz with hz | hz
      · exact h.ix p z hz
      · rw [List.mem_singleton] at hz
        subst hz
        exact ⟨hi, he⟩
    · rw [if_neg c] at hz
      exact h.ix q z hz
/-- no letter is sent twice, none is taken twice -/
structure FUq (F : Fd) : Prop where
  s : ∀ p i q j l cs cs', lk (ro F p) i = some (.send l cs) → lk (ro F q) j = some (.send l cs') → p = q ∧ i = j
  t : ∀ p i q j l cs cs', lk (ro F p) i = some (.take l cs) → lk (ro F q) j = some (.take l cs') → p = q ∧ i = j
theorem FUq.uq {F : Fd} (h : FUq F) (hF : FOk F) : Uq F := fun p n q m l cs cs' h1 h2 => by
  obtain ⟨i, hi, li⟩ := sL_at.mp h1
  obtain ⟨j, hj, lj⟩ := sL_at.mp h2
  obtain ⟨rfl, rfl⟩ := h.s _ _ _ _ _ _ _ li lj
  have hnd : (ixs (ro F p)).Nodup := (ixs_perm _).nodup_iff.mpr (hF.nd p)
  obtain ⟨a1, a2⟩ := List.getElem?_eq_some_iff.mp hi
  obtain ⟨b1, b2⟩ := List.getElem?_eq_some_iff.mp hj
  exact ⟨rfl, (List.getElem_inj (h₀ := a1) (h₁ := b1) hnd).mp (by rw [a2, b2])⟩
def hasE (F : Fd) : Ev → Bool
  | .step _ => false
  | .send l _ => hasB F true l
  | .take l _ => hasB F false l
theorem hasB_no {F : Fd} {k : Bool} {l : Int} (h : hasB F k l = false) {p i : Nat} {e : Ev} (hl : lk (ro F p) i = some e) : hit k l e = false := by
  unfold hasB at h
  rw [List.any_eq_false] at h
  have hp : p < F.length := Nat.lt_of_not_le fun c => by rw [ro_no c] at hl; cases hl
  have h1 := h p (by rw [← List.range_eq_range']; exact List.mem_range.mpr hp)
  rw [Bool.not_eq_true, List.any_eq_false] at h1
  have h2 := h1 _ (lk_mem hl)
  rwa [Bool.not_eq_true] at h2
theorem FUq.add {F : Fd} (h : FUq F) {p i : Nat} {e : Ev} (hp : p < F.length) (hn : lk (ro F p) i = none) (hh : hasE F e = false) : FUq (addF F p i e) := by
  refine ⟨fun a b c d l cs cs' h1 h2 => ?_, fun a b c d l cs cs' h1 h2 => ?_⟩
  · rw [lk_add hp hn] at h1 h2
    by_cases c1 : a = p ∧ b = i
    · rw [if_pos c1] at h1
      cases h1
      by_cases c2 : c = p ∧ d = i
      · exact ⟨by rw [c1.1, c2.1], by rw [c1.2, c2.2]⟩
      · rw [if_neg c2] at h2
        have := hasB_no (k := true) (l := l) hh h2
        simp [hit] at this
    · rw [if_neg c1] at h1
      by_cases c2 : c = p ∧ d = i
      · rw [if_pos c2] at h2
        cases h2
        have := hasB_no (k := true) (l := l) hh h1
        simp [hit] at this
      · rw [if_neg c2] at h2
        exact h.s _ _ _ _ _ _ _ h1 h2
  · rw [lk_add hp hn] at h1 h2
    by_cases c1 : a = p ∧ b = i
    · rw [if_pos c1] at h1
      cases h1
      by_cases c2 : c = p ∧ d = i
      · exact ⟨by rw [c1.1, c2.1], by rw [c1.2, c2.2]⟩
      · rw [if_neg c2] at h2
        have := hasB_no (k := false) (l := l) hh h2
        simp [hit] at this
    · rw [if_neg c1] at h1
      by_cases c2 : c = p ∧ d = i
      · rw [if_pos c2] at h2
        cases h2
        have := hasB_no (k := false) (l := l) hh h1
        simp [hit] at this
      · rw [if_neg c2] at h2
        exact h.t _ _ _ _ _ _ _ h1 h2
section
variable {S : Sto} {w : Nat} {F : Fd}
theorem Wat.put (hW : Wat S w F) {p : Nat} (hp : p < F.length) (i : Nat) (e : Ev) : Wat (S.set (w + 1 + p) (rowF (ro F p ++ [(i, e)]))) w (addF F p i e) := by
  have hl := (List.getElem?_eq_some_iff.mp (hW.row p hp)).1
  refine ⟨?_, fun q hq => ?_⟩
  · rw [List.getElem?_set_ne (by omega), addF_len]; exact hW.ob
  · rw [addF_len] at hq
    rw [ro_add hp]
    by_cases c : q = p
    · subst c
      rw [if_pos rfl, List.getElem?_set_self hl]
    · rw [if_neg c, List.getElem?_set_ne (by omega)]
      exact hW.row q hq
theorem delK_row (i : Nat) (e : Ev) : ∀ r : Fr, i ∉ r.map (·.1) → delK kKey (.inl (i : Int)) (rowK (r ++ [(i, e)])) (rowV (r ++ [(i, e)])) = (rowK r, rowV r)
  | [], _ => by
    show delK kKey (.inl (i : Int)) [.int (i : Int)] [e.d] = ([], [])
    rw [delK, if_pos (show kKey (.int (i : Int)) = some (.inl (i : Int)) from rfl), delK]
    exact fun _ _ _ _ h => (nomatch h)
  | z :: r, h => by
    rw [List.map_cons, List.mem_cons, not_or] at h
    have ih := delK_row i e r h.2
    show delK kKey (.inl (i : Int)) (.int (z.1 : Int) :: rowK (r ++ [(i, e)])) (z.2.d :: rowV (r ++ [(i, e)])) = (.int (z.1 : Int) :: rowK r, z.2.d :: rowV r)
    rw [delK, if_neg (fun e' => h.1 (by
      have e' : (some (Sum.inl (z.1 : Int)) : Option Key) = some (.inl (i : Int)) := e'
      injection e' with e'
      injection e' with e'
      omega)), ih]
end
end Lk
namespace Lk
open PyProof.Rows L2 Ip
/-! feed -/
section
variable {S : Sto} {w : Nat} {F : Fd}
def fE (w p i : Nat) (e : Ev) (v4 : Option D) : Ip.En := [some (.ref w), some (.int (p : Int)), some (.int (i : Int)), some e.d, v4]
theorem int_call (k : Nat) (i l g : Int) (h1 : l ≤ i) (h2 : i ≤ g) (U : Sto) : callP (C (k + 1)) true i_is_integer [.int i, .int l, .int g] U = some (.ok (.bl true) U) := by
  have := is_integer_ok k 0 (.int i) l g [] (by rfl)
  rw [show isInt (.int i) l g = true by simp [isInt, h1, h2]] at this
  exact callP_t rfl this rfl
theorem feed_a (k : Nat) (hW : Wat S w F) {p i : Nat} {e : Ev} (hp : p < F.length) (hi : 1 ≤ i ∧ i ≤ 30) (he : e.ok ∧ CsOk e.cs) (hF : FOk F) (r : Stms) :
    execs (C (k + 3)) T0 (.cons (.ifs (.or (.not (.call i_is_integer true (.cons (.v 1) (.cons (.c (.int 0)) (.cons (.bin .sub false (.att 0 (.v 0) "_count") (.c (.int 1))) .nil))))) (.not (.call i_is_integer true (.cons (.v 2) (.cons (.c (.int 1)) (.cons (.g g_MOST_EVENTS) .nil)))))) (.cons (.raise 1) .nil) .nil) (.cons (.ifs (.not (.call i_is_event true (.cons (.v 3) .nil))) (.cons (.raise 1) .nil) .nil) (.cons (.asg (.n 4) (.ix (.att 0 (.v 0) "_rows") (.v 1))) r))) (fE w p i e none) S =
      execs (C (k + 3)) T0 r (fE w p i e (some (.ref (w + 1 + p)))) S := by
  have h6 := hF.l6
  have wc := w_count hW
  have wr := w_rows hW
  have ra := rows_at (w := w) hp S
  have c1 := int_call (k + 2) (p : Int) 0 ((F.length : Nat) - 1 : Int) (by omega) (by omega) S
  have c2 := int_call (k + 2) (i : Int) 1 30 (by omega) (by omega) S
  have c3 : callP (C (k + 3)) true i_is_event [e.d] S = some (.ok (.bl true) S) := by
    have := is_event_ok k 0 e.d [] (by decide) (ev_dat he.1)
    rw [ev_isEv he] at this
    exact callP_t (by simp only [pures, Ev.pure, Bool.and_true]) this rfl
  have x1 : exec (C (k + 3)) T0 (.ifs (.or (.not (.call i_is_integer true (.cons (.v 1) (.cons (.c (.int 0)) (.cons (.bin .sub false (.att 0 (.v 0) "_count") (.c (.int 1))) .nil))))) (.not (.call i_is_integer true (.cons (.v 2) (.cons (.c (.int 1)) (.cons (.g g_MOST_EVENTS) .nil)))))) (.cons (.raise 1) .nil) .nil) (fE w p i e none) S = some (.nx (fE w p i e none) S) := by
    unfold fE
    generalize e.d = ed
    simp only [exec, evalT, evalE, evalEs, List.getElem?_cons_succ, List.getElem?_cons_zero, bnd_ok, Cst.d, wc, okO_some, binD_sub, t_MOST_EVENTS, c1, c2, truD_bl, Bool.not_true, bnS_ok, execs]
  have x2 : exec (C (k + 3)) T0 (.ifs (.not (.call i_is_event true (.cons (.v 3) .nil))) (.cons (.raise 1) .nil) .nil) (fE w p i e none) S = some (.nx (fE w p i e none) S) := by
    unfold fE
    generalize e.d = ed at *
    simp only [exec, evalT, evalE, evalEs, List.getElem?_cons_succ, List.getElem?_cons_zero, bnd_ok, okO_some, c3, truD_bl, Bool.not_true, bnS_ok, execs]
  have x3 : exec (C (k + 3)) T0 (.asg (.n 4) (.ix (.att 0 (.v 0) "_rows") (.v 1))) (fE w p i e none) S = some (.nx (fE w p i e (some (.ref (w + 1 + p)))) S) := by
    unfold fE
    generalize e.d = ed at *
    simp only [exec, evalE, List.getElem?_cons_succ, List.getElem?_cons_zero, bnd_ok, wr, okO_some, ra, bnS_ok, asg_n, List.set_cons_succ, List.set_cons_zero]
  rw [ex_go x1, ex_go x2, ex_go x3]
theorem row_in (hW : Wat S w F) {p i : Nat} (hp : p < F.length) : cmpD .isin (.int (i : Int)) (.ref (w + 1 + p)) S = some (lk (ro F p) i).isSome := by
  show inD S (.int (i : Int)) (.ref (w + 1 + p)) = _
  rw [inD_dref (t := 0) (ks := rowK (ro F p)) (vs := rowV (ro F p)) (hW.row p hp), dGet_0i, lookK_row]
  cases lk (ro F p) i <;> rfl
theorem feed_met (k : Nat) (hF : FOk F) (hW : Wat S w F) {p i : Nat} {e e' : Ev} (hp : p < F.length) (hi : 1 ≤ i ∧ i ≤ 30) (he : e.ok ∧ CsOk e.cs) (hl : lk (ro F p) i = some e') :
    (e' = e → C (k + 4) i_Watcher_feed [.ref w, .int (p : Int), .int (i : Int), e.d] S = some (.ok .non S)) ∧ (e' ≠ e → C (k + 4) i_Watcher_feed [.ref w, .int (p : Int), .int (i : Int), e.d] S = some (.ex 1 S)) := by
  have ri := row_in (i := i) hW hp
  rw [hl] at ri
  have ix := row_ix (i := i) hW hp
  rw [hl] at ix
  have ix : ixD S (.ref (w + 1 + p)) (.int (i : Int)) = some e'.d := ix
  obtain ⟨v, q1, q2⟩ := eqD_ev ((hF.ix p _ (lk_mem hl)).2) he.1 S
  have ne : cmpD .ne e'.d e.d S = some (!v) := by
    show (eqD S e'.d e.d).map not = _
    rw [q1]; rfl
  rw [c_Watcher_feed]
  show (_ → outS (execs (C (k + 3)) T0 b_Watcher_feed (fE w p i e none) S) = _) ∧ (_ → outS (execs (C (k + 3)) T0 b_Watcher_feed (fE w p i e none) S) = _)
  unfold b_Watcher_feed
  rw [feed_a k hW hp hi he hF]
  unfold fE
  generalize e.d = ed at *
  constructor
  · intro h
    rw [q2.mpr h] at ne
    simp only [execs, exec, evalT, evalE, List.getElem?_cons_succ, List.getElem?_cons_zero, bnd_ok, ri, Option.isSome_some, okO_some, bnS_ok, ix, ne, Bool.not_true, seqS_nx, seqS_rt, outS_rt]
  · intro h
    have : v = false := by cases v; rfl; exact absurd (q2.mp rfl) h
    rw [this] at ne
    simp only [execs, exec, evalT, evalE, List.getElem?_cons_succ, List.getElem?_cons_zero, bnd_ok, ri, Option.isSome_some, okO_some, bnS_ok, ix, ne, Bool.not_false, seqS, outS_ex]
theorem feed_b (k : Nat) (hF : FOk F) (hW : Wat S w F) {p i : Nat} {e : Ev} (hp : p < F.length) (hl : lk (ro F p) i = none) (r : Stms) :
    execs (C (k + 3)) T0 (.cons (.ifs (.cmp .isin (.v 2) (.v 4)) (.cons (.ifs (.cmp .ne (.ix (.v 4) (.v 2)) (.v 3)) (.cons (.raise 1) .nil) .nil) (.cons .retN .nil)) .nil) (.cons (.ifs (.and (.cmp .ne (.ix (.v 3) (.c (.int 0))) (.c (.str "step"))) (.mcl 0 i_Watcher__has "_has" false (.v 0) (.cons (.ix (.v 3) (.c (.int 0))) (.cons (.ix (.v 3) (.c (.int 1))) .nil)))) (.cons (.raise 1) .nil) .nil) r)) (fE w p i e (some (.ref (w + 1 + p)))) S =
      if hasE F e = true then some (.ex 1 (fE w p i e (some (.ref (w + 1 + p)))) S) else execs (C (k + 3)) T0 r (fE w p i e (some (.ref (w + 1 + p)))) S := by
  have ri := row_in (i := i) hW hp
  rw [hl] at ri
  have x1 : exec (C (k + 3)) T0 (.ifs (.cmp .isin (.v 2) (.v 4)) (.cons (.ifs (.cmp .ne (.ix (.v 4) (.v 2)) (.v 3)) (.cons (.raise 1) .nil) .nil) (.cons .retN .nil)) .nil) (fE w p i e (some (.ref (w + 1 + p)))) S = some (.nx (fE w p i e (some (.ref (w + 1 + p)))) S) := by
    unfold fE
    generalize e.d = ed
    simp only [execs, exec, evalT, evalE, List.getElem?_cons_succ, List.getElem?_cons_zero, bnd_ok, ri, Option.isSome_none, okO_some, bnS_ok]
  rw [ex_go x1]
  have e0 := ev_0 e S
  have mt := w_mth hW "_has" (by simp [wNm])
  unfold fE
  cases e with
  | step cs =>
    have q : cmpD .ne (.str "step") (.str "step") S = some false := by simp [cmpD]
    simp only [execs, exec, evalT, evalE, List.getElem?_cons_succ, List.getElem?_cons_zero, bnd_ok, Cst.d, okO_some, e0, q, bnS_ok, seqS_nx, hasE, Bool.false_eq_true, if_false]
  | send l cs =>
    have q : cmpD .ne (.str "send") (.str "step") S = some true := by simp [cmpD]
    have i1 : ixD S (Ev.send l cs).d (.int 1) = some (.int l) := rfl
    have h := has_ok (k + 2) hW true l
    have h : C (k + 3) i_Watcher__has [.ref w, .str "send", .int l] S = some (.ok (.bl (hasB F true l)) S) := h
    show _ = if hasB F true l = true then _ else _
    cases hb : hasB F true l with
    | true =>
      rw [hb] at h
      simp only [execs, exec, evalT, evalE, evalEs, List.getElem?_cons_succ, List.getElem?_cons_zero, bnd_ok, Cst.d, okO_some, e0, q, i1, mt, if_true, callP_f, h, truD_bl, bnS_ok, seqS]
    | false =>
      rw [hb] at h
      simp only [execs, exec, evalT, evalE, evalEs, List.getElem?_cons_succ, List.getElem?_cons_zero, bnd_ok, Cst.d, okO_some, e0, q, i1, mt, if_true, callP_f, h, truD_bl, bnS_ok, seqS_nx, Bool.false_eq_true, if_false]
  | take l cs =>
    have q : cmpD .ne (.str "take") (.str "step") S = some true := by simp [cmpD]
    have i1 : ixD S (Ev.take l cs).d (.int 1) = some (.int l) := rfl
    have h := has_ok (k + 2) hW false l
    have h : C (k + 3) i_Watcher__has [.ref w, .str "take", .int l] S = some (.ok (.bl (hasB F false l)) S) := h
    show _ = if hasB F false l = true then _ else _
    cases hb : hasB F false l with
    | true =>
      rw [hb] at h
      simp only [execs, exec, evalT, evalE, evalEs, List.getElem?_cons_succ, List.getElem?_cons_zero, bnd_ok, Cst.d, okO_some, e0, q, i1, mt, if_true, callP_f, h, truD_bl, bnS_ok, seqS]
    | false =>
      rw [hb] at h
      simp only [execs, exec, evalT, evalE, evalEs, List.getElem?_cons_succ, List.getElem?_cons_zero, bnd_ok, Cst.d, okO_some, e0, q, i1, mt, if_true, callP_f, h, truD_bl, bnS_ok, seqS_nx, Bool.false_eq_true, if_false]
theorem feed_has (k : Nat) (hF : FOk F) (hW : Wat S w F) {p i : Nat} {e : Ev} (hp : p < F.length) (hi : 1 ≤ i ∧ i ≤ 30) (he : e.ok ∧ CsOk e.cs) (hl : lk (ro F p) i = none) (hh : hasE F e = true) :
    C (k + 4) i_Watcher_feed [.ref w, .int (p : Int), .int (i : Int), e.d] S = some (.ex 1 S) := by
  rw [c_Watcher_feed]
  show outS (execs (C (k + 3)) T0 b_Watcher_feed (fE w p i e none) S) = _
  unfold b_Watcher_feed
  rw [feed_a k hW hp hi he hF, feed_b k hF hW hp hl, if_pos hh]
  rfl
theorem feed_new (k : Nat) (hF : FOk F) (hU : FUq F) (hW : Wat S w F) {p i : Nat} {e : Ev} (hp : p < F.length) (hi : 1 ≤ i ∧ i ≤ 30) (he : e.ok ∧ CsOk e.cs) (hl : lk (ro F p) i = none) (hh : hasE F e = false) :
    ∃ T, (Po2 (sL (addF F p i e)) → C (k + 4) i_Watcher_feed [.ref w, .int (p : Int), .int (i : Int), e.d] S = some (.ok .non (S.set (w + 1 + p) (rowF (ro F p ++ [(i, e)])) ++ T))) ∧
      (¬ Po2 (sL (addF F p i e)) → C (k + 4) i_Watcher_feed [.ref w, .int (p : Int), .int (i : Int), e.d] S = some (.ex 1 (S ++ T))) := by
  have hF' := hF.add hp hi he.1 hl
  have hU' := hU.add hp hl hh
  have hW' := hW.put hp i e
  have hn : w + 1 + p < S.length := (List.getElem?_eq_some_iff.mp (hW.row p hp)).1
  obtain ⟨T, b, hc, hb⟩ := is_possible_ok (k + 2) hW' (hU'.uq hF') hF'
  refine ⟨T, ?_⟩
  have l30 := hF.r30 p
  have x6 : exec (C (k + 3)) T0 (.asgS (.v 4) (.v 2) (.v 3)) (fE w p i e (some (.ref (w + 1 + p)))) S = some (.nx (fE w p i e (some (.ref (w + 1 + p)))) (S.set (w + 1 + p) (rowF (ro F p ++ [(i, e)])))) := by
    have gl : getL S (w + 1 + p) = none := by unfold getL; rw [hW.row p hp]; rfl
    have pu : ∀ env, putS (w + 1 + p) (.int (i : Int)) e.d env S = some (.nx env (S.set (w + 1 + p) (rowF (ro F p ++ [(i, e)])))) := fun env => by
      unfold putS
      rw [show S[w + 1 + p]? = some (.dct 0 (rowK (ro F p)) (rowV (ro F p))) from hW.row p hp]
      simp only
      rw [if_pos (by unfold rowK; rw [List.length_map, PySem.sizeLine_eq]; omega)]
      show (some (putW kKey (.inl (i : Int)) (.int (i : Int)) e.d (rowK (ro F p)) (rowV (ro F p)))).map (fun q => So.nx env (S.set (w + 1 + p) (.dct 0 q.1 q.2))) = _
      unfold putW
      rw [lookK_row, hl]
      simp only [Option.map_none, Option.isSome_none, Bool.false_eq_true, if_false, Option.map_some]
      congr 3
      unfold rowF rowK rowV
      rw [List.map_append, List.map_append]; rfl
    unfold fE
    generalize e.d = ed at *
    simp only [exec, evalE, List.getElem?_cons_succ, List.getElem?_cons_zero, bnS_ok, gl, pu]
  have mt := w_mth hW' "_is_possible" (by simp [wNm])
  have hd : C (k + 4) i_Watcher_feed [.ref w, .int (p : Int), .int (i : Int), e.d] S = outS (execs (C (k + 3)) T0 (.cons (.ifs (.not (.mcl 0 i_Watcher__is_possible "_is_possible" false (.v 0) .nil)) (.cons (.ex (.me .dpop (.v 4) (.cons (.v 2) .nil))) (.cons (.raise 1) .nil)) .nil) .nil) (fE w p i e (some (.ref (w + 1 + p)))) (S.set (w + 1 + p) (rowF (ro F p ++ [(i, e)])))) := by
    rw [c_Watcher_feed]
    show outS (execs (C (k + 3)) T0 b_Watcher_feed (fE w p i e none) S) = _
    unfold b_Watcher_feed
    rw [feed_a k hW hp hi he hF, feed_b k hF hW hp hl, if_neg (by rw [hh]; decide), ex_go x6]
  rw [hd]
  constructor
  · intro hpo
    rw [hb.mpr hpo] at hc
    unfold fE
    generalize e.d = ed at *
    simp only [execs, exec, evalT, evalE, evalEs, List.getElem?_cons_succ, List.getElem?_cons_zero, bnd_ok, mt, if_true, callP_f, hc, truD_bl, okO_some, Bool.not_true, bnS_ok, seqS_nx, outS_nx]
  · intro hpo
    have : b = false := by cases b; rfl; exact absurd (hb.mp rfl) hpo
    rw [this] at hc
    have g : (S.set (w + 1 + p) (rowF (ro F p ++ [(i, e)])) ++ T)[w + 1 + p]? = some (rowF (ro F p ++ [(i, e)])) := by
      rw [List.getElem?_append_left (by rw [List.length_set]; exact hn), List.getElem?_set_self hn]
    have ty : tyM .dpop (.ref (w + 1 + p)) (S.set (w + 1 + p) (rowF (ro F p ++ [(i, e)])) ++ T) = true := by
      show (dctD _ (.ref (w + 1 + p))).isSome = true
      rw [dctD_dref (t := 0) (ks := rowK (ro F p ++ [(i, e)])) (vs := rowV (ro F p ++ [(i, e)])) g]; rfl
    have lke : lk (ro F p ++ [(i, e)]) i = some e := by
      rw [lk_app, hl]
      simp
    have me : meD .dpop (.ref (w + 1 + p)) [.int (i : Int)] (S.set (w + 1 + p) (rowF (ro F p ++ [(i, e)])) ++ T) = some (.ok e.d (S ++ T)) := by
      show (match (S.set (w + 1 + p) (rowF (ro F p ++ [(i, e)])) ++ T)[w + 1 + p]? with
        | some (.dct 0 ks vs) => match kKey (.int (i : Int)) with
          | some k => match lookK kKey k ks vs with
            | some d => some (Ro.ok d ((S.set (w + 1 + p) (rowF (ro F p ++ [(i, e)])) ++ T).set (w + 1 + p) (.dct 0 (delK kKey k ks vs).1 (delK kKey k ks vs).2)))
            | none => none
          | none => none
        | _ => none) = _
      rw [g]
      show (match lookK kKey (.inl (i : Int)) (rowK (ro F p ++ [(i, e)])) (rowV (ro F p ++ [(i, e)])) with
            | some d => some (Ro.ok d ((S.set (w + 1 + p) (rowF (ro F p ++ [(i, e)])) ++ T).set (w + 1 + p) (.dct 0 (delK kKey (.inl (i : Int)) (rowK (ro F p ++ [(i, e)])) (rowV (ro F p ++ [(i, e)]))).1 (delK kKey (.inl (i : Int)) (rowK (ro F p ++ [(i, e)])) (rowV (ro F p ++ [(i, e)]))).2)))
            | none => none) = _
      rw [lookK_row, lke, delK_row i e _ (lk_none.mp hl)]
      show some (Ro.ok e.d ((S.set (w + 1 + p) (rowF (ro F p ++ [(i, e)])) ++ T).set (w + 1 + p) (rowF (ro F p)))) = _
      rw [List.set_append_left _ _ (by rw [List.length_set]; exact hn), List.set_set, set_same (hW.row p hp)]
    unfold fE
    generalize e.d = ed at *
    simp only [execs, exec, evalT, evalE, evalEs, List.getElem?_cons_succ, List.getElem?_cons_zero, bnd_ok, mt, if_true, callP_f, hc, truD_bl, okO_some, Bool.not_false, bnS_ok, ty, me, seqS, outS_ex]
end
end Lk
namespace Lk
open PyProof.Rows L2 Ip
/-! ### the places in a drawn order -/
def plc (z : Nat × Nat) : D := .tup [.int (z.1 : Int), .int (z.2 : Int)]
theorem plc_pure : ∀ l : List (Nat × Nat), pures (l.map plc) = true
  | [] => rfl
  | z :: l => by rw [List.map_cons, pures, plc_pure l]; rfl
theorem plc_inj {a b : Nat × Nat} (h : plc a = plc b) : a = b := by
  obtain ⟨a1, a2⟩ := a
  obtain ⟨b1, b2⟩ := b
  unfold plc at h
  simp only [D.tup.injEq, List.cons.injEq, D.int.injEq, and_true] at h
  exact Prod.ext (Int.ofNat_inj.mp h.1) (Int.ofNat_inj.mp h.2)
def plsR (rows : Rn) (p : Nat) : List (Nat × Nat) := (List.range' 1 (lens rows p)).map fun i => (p, i)
def plsA (rows : Rn) : List (Nat × Nat) := (List.range' 0 rows.length).flatMap (plsR rows)
theorem mem_plsA {rows : Rn} {z : Nat × Nat} : z ∈ plsA rows ↔ z.1 < rows.length ∧ 1 ≤ z.2 ∧ z.2 ≤ lens rows z.1 := by
  unfold plsA plsR
  rw [List.mem_flatMap]
  constructor
  · rintro ⟨p, hp, hz⟩
    obtain ⟨i, hi, rfl⟩ := List.mem_map.mp hz
    rw [← List.range_eq_range', List.mem_range] at hp
    rw [List.mem_range'_1] at hi
    exact ⟨hp, by show 1 ≤ i; omega, by show i ≤ lens rows p; omega⟩
  · rintro ⟨h1, h2, h3⟩
    refine ⟨z.1, by rw [← List.range_eq_range']; exact List.mem_range.mpr h1, List.mem_map.mpr ⟨z.2, List.mem_range'_1.mpr (by omega), rfl⟩⟩
section
def tE (ns : List Int) (rows : Rn) (sh : Nat) (v3 v4 v6 v7 v8 v9 : Option D) : Ip.En := [some (.scr ns), some (rnD rows), some (.int (sh : Int)), v3, v4, none, v6, v7, v8, v9]
theorem rn_at {rows : Rn} {p : Nat} (hp : p < rows.length) (U : Sto) : ixD U (rnD rows) (.int (p : Int)) = some (rowD (rows.getD p [])) := by
  show atI (rows.map rowD) (p : Int) = _
  rw [atI_nn, List.getElem?_map, List.getElem?_eq_getElem hp, getD_of hp]; rfl
theorem row_len (r : List Ev) (U : Sto) : biD .len [rowD r] U = some (.int (r.length : Nat)) := by
  show some (D.int ((r.map Ev.d).length : Nat)) = _
  rw [List.length_map]
theorem tn_left (k : Nat) (ns : List Int) {rows : Rn} (hR : RunShape rows) (sh : Nat) (v6 v7 v8 v9 : Option D) : ∀ (m j : Nat), j + m = rows.length → ∀ (a : Nat) (S : Sto) (acc : List (Nat × Nat)) (v4 : Option D), S[a]? = some (.lst (acc.map plc)) → acc.length ≤ 30 * j →
    ∃ a' S' c4, forL (.n 4) (fun e S => execs (C k) T0 l__law_turned_2 e S) (rg (j : Int) m) (tE ns rows sh (some (.ref a)) v4 v6 v7 v8 v9) S = some (.nx (tE ns rows sh (some (.ref a')) c4 v6 v7 v8 v9) S') ∧ S'[a']? = some (.lst ((acc ++ (List.range' j m).flatMap (plsR rows)).map plc)) ∧ a' < S'.length
  | 0, j, _, a, S, acc, v4, h, _ => ⟨a, S, v4, by simp [rg, forL], by simpa using h, (List.getElem?_eq_some_iff.mp h).1⟩
  | m + 1, j, hj, a, S, acc, v4, h, hl => by
    have hp : j < rows.length := by omega
    have h6 := hR.1.2
    have h30 : lens rows j ≤ 30 := hR.small.2 j
    have ra := rn_at hp S
    have rl := row_len (rows.getD j []) S
    have rl : biD .len [rowD (rows.getD j [])] S = some (.int (lens rows j : Nat)) := rl
    have hr : rngD 0 ((lens rows j : Nat) : Int) = some (rg 0 (lens rows j)) := rngD_len (by omega)
    have o2 : 0 + 1 + 1 ≤ PySem.sizeLine := by rw [PySem.sizeLine_eq]; decide
    have lc : evalE (C k) T0 k__law_turned_1 (tE ns rows sh (some (.ref a)) (some (.int (j : Int))) v6 v7 v8 v9) S = some (.ok (.lst ((plsR rows j).map plc)) S) := by
      unfold k__law_turned_1 tE
      rw [lc_no (S := S) (xs := rg 0 (lens rows j)) (fun d => match d with
        | .int i => .tup [.int (j : Int), .int (i + 1)]
        | _ => .non) (by
        simp only [evalI, evalE, evalEs, List.getElem?_cons_succ, List.getElem?_cons_zero, bnd_ok, ra, okO_some, rl, hr]) (by rw [rg_len, PySem.sizeLine_eq]; omega) (fun y hy => ?_), mkL_f]
      · congr 3
        unfold plsR
        rw [← rg_eq, List.map_map, List.map_map, List.range'_eq_map_range, List.map_map]
        refine List.map_congr_left fun x _ => ?_
        show D.tup [.int (j : Int), .int (0 + (x : Int) + 1)] = .tup [.int (j : Int), .int ((1 + x : Nat) : Int)]
        rw [show (0 + (x : Int) + 1) = ((1 + x : Nat) : Int) by omega]
      · rw [← rg_eq] at hy
        obtain ⟨x, _, rfl⟩ := List.mem_map.mp hy
        unfold e__law_turned_1
        simp only [List.map_cons, List.map_nil, wipeE, List.set_cons_succ, List.set_cons_zero, evalE, evalEs, List.getElem?_cons_succ, List.getElem?_cons_zero, bnd_ok, Cst.d, binD_add, List.length_cons, List.length_nil, o2, if_true]
    have ba : binD .add true (.ref a) (.lst ((plsR rows j).map plc)) S = some (.ok (.ref S.length) (S ++ [.lst ((acc ++ plsR rows j).map plc)])) := by
      show (match BOp.add, lstD S (.ref a), lstD S (.lst ((plsR rows j).map plc)) with
        | .add, some xs, some ys => if xs.length + ys.length ≤ PySem.sizeLine then mkL true (xs ++ ys) S else none
        | _, _, _ => none) = _
      rw [show lstD S (.ref a) = some (acc.map plc) from getL_eq h]
      show (if (acc.map plc).length + ((plsR rows j).map plc).length ≤ PySem.sizeLine then mkL true (acc.map plc ++ (plsR rows j).map plc) S else none) = _
      rw [if_pos (by rw [PySem.sizeLine_eq, List.length_map, List.length_map]; unfold plsR; rw [List.length_map, List.length_range']; omega), mkL_t, ← List.map_append]
    have st : execs (C k) T0 l__law_turned_2 (tE ns rows sh (some (.ref a)) (some (.int (j : Int))) v6 v7 v8 v9) S = some (.nx (tE ns rows sh (some (.ref S.length)) (some (.int (j : Int))) v6 v7 v8 v9) (S ++ [.lst ((acc ++ plsR rows j).map plc)])) := by
      have g3 : (tE ns rows sh (some (.ref a)) (some (.int (j : Int))) v6 v7 v8 v9)[3]? = some (some (.ref a)) := rfl
      unfold l__law_turned_2
      simp only [execs, exec, evalE, g3, bnd_ok, lc, ba, bnS_ok, asg_n, seqS_nx]
      rfl
    obtain ⟨a2, S2, c4, e, g, l⟩ := tn_left k ns hR sh v6 v7 v8 v9 m (j + 1) (by omega) S.length (S ++ [.lst ((acc ++ plsR rows j).map plc)]) (acc ++ plsR rows j) (some (.int (j : Int))) (at_last _ _) (by
      rw [List.length_append]; unfold plsR; rw [List.length_map, List.length_range']; omega)
    refine ⟨a2, S2, c4, ?_, ?_, l⟩
    · have as : asgT (.n 4) (.int (j : Int)) (tE ns rows sh (some (.ref a)) v4 v6 v7 v8 v9) = some (tE ns rows sh (some (.ref a)) (some (.int (j : Int))) v6 v7 v8 v9) := rfl
      rw [rg]
      simp only [forL, as, st]
      rw [show ((j : Int) + 1) = ((j + 1 : Nat) : Int) by omega]
      exact e
    · rw [g, List.range'_succ, List.flatMap_cons, List.append_assoc]
theorem mem_er {α : Type} {l : List α} {j : Nat} (h : j < l.length) (x : α) : x ∈ l ↔ x ∈ l.eraseIdx j ∨ x = l[j] := by
  have e1 : l = l.take j ++ (l[j] :: l.drop (j + 1)) := by
    conv => lhs; rw [← List.take_append_drop j l, List.drop_eq_getElem_cons h]
  rw [List.eraseIdx_eq_take_drop_succ]
  conv => lhs; rw [e1]
  simp only [List.mem_append, List.mem_cons]
  constructor
  · rintro (h | h | h)
    · exact .inl (.inl h)
    · exact .inr h
    · exact .inl (.inr h)
  · rintro ((h | h) | h)
    · exact .inl h
    · exact .inr (.inr h)
    · exact .inr (.inl h)
theorem tn_turn (k : Nat) (ns : List Int) (rows : Rn) (sh q : Nat) {V : Sto} {a b : Nat} {L O : List (Nat × Nat)} (hab : a ≠ b) (ha : V[a]? = some (.lst (L.map plc))) (hb : V[b]? = some (.lst (O.map plc))) (hL : 1 ≤ L.length) (hL2 : L.length ≤ 400) (hO : O.length ≤ 2000) (v4 v8 v9 : Option D) :
    ∃ (L' O' : List (Nat × Nat)) (V' : Sto) (b8 b9 : Option D), execs (C (k + 1)) T0 l__law_turned_1 (tE ns rows sh (some (.ref a)) v4 (some (.ref b)) (some (.int (q : Int))) v8 v9) V = some (.nx (tE ns rows sh (some (.ref a)) v4 (some (.ref b)) (some (.int (q : Int))) b8 b9) V') ∧
      V'[a]? = some (.lst (L'.map plc)) ∧ V'[b]? = some (.lst (O'.map plc)) ∧ L'.length + 1 = L.length ∧ O'.length ≤ O.length + 2 ∧ (∀ x, x ∈ L' → x ∈ L) ∧ (∀ x, x ∈ L → x ∈ L' ∨ x ∈ O') ∧ (∀ x, x ∈ O → x ∈ O') ∧ (∀ x, x ∈ O' → x ∈ O ∨ x ∈ L) := by
  have la := (List.getElem?_eq_some_iff.mp ha).1
  have lb := (List.getElem?_eq_some_iff.mp hb).1
  obtain ⟨s, hbag⟩ := bag_ok k ns (q + sh) V
  rw [show ((q + sh : Nat) : Int) = (q : Int) + (sh : Int) by omega] at hbag
  have nV : V.length < (V ++ [Ob.lst []]).length := by rw [List.length_append]; simp
  have ha1 : (V ++ [Ob.lst []])[a]? = some (.lst (L.map plc)) := by rw [List.getElem?_append_left la]; exact ha
  have hb1 : (V ++ [Ob.lst []])[b]? = some (.lst (O.map plc)) := by rw [List.getElem?_append_left lb]; exact hb
  generalize V ++ [Ob.lst []] = W at hbag nV ha1 hb1
  have na : V.length ≠ a := by omega
  have nb : V.length ≠ b := by omega
  generalize V.length = n at hbag nV na nb
  have d1 := draw_ok k n s W (L.length : Nat) nV (by omega) (by omega)
  have l0 := dr_low (m := (L.length : Nat)) s (by omega)
  have l1 := dr_top (m := (L.length : Nat)) s (by omega)
  obtain ⟨j, hj⟩ : ∃ j : Nat, dr (L.length : Nat) s = (j : Int) := ⟨(dr (L.length : Nat) s).toNat, by omega⟩
  rw [hj] at d1 l0 l1
  have hjl : j < L.length := by omega
  generalize nx (L.length : Nat) s = s1 at d1
  have g1 : ∀ t, (bS n t W)[a]? = some (.lst (L.map plc)) := fun t => by rw [bS_ne na]; exact ha1
  have po : meD .pop (.ref a) [.int (j : Int)] (bS n s1 W) = some (.ok (plc L[j]) (bS n s1 (W.set a (.lst ((L.eraseIdx j).map plc))))) := by
    rw [meD_pop (g1 s1) (by omega) (by rw [List.length_map]; omega) (y := plc L[j]) (by rw [Int.toNat_natCast, List.getElem?_map, List.getElem?_eq_getElem hjl]; rfl) (by rw [List.length_map]; omega), bS_set na, Int.toNat_natCast, erase_map]
  have tp := fun t => tyM_pop (g1 t)
  have lr := fun t => lenR (g1 t)
  simp only [List.length_map] at lr
  have g2 : ∀ t, (bS n t (W.set a (.lst ((L.eraseIdx j).map plc))))[b]? = some (.lst (O.map plc)) := fun t => by
    rw [bS_ne nb, List.getElem?_set_ne hab]; exact hb1
  have ap : ∀ t, meD .append (.ref b) [plc L[j]] (bS n t (W.set a (.lst ((L.eraseIdx j).map plc)))) = some (.ok .non (bS n t ((W.set a (.lst ((L.eraseIdx j).map plc))).set b (.lst ((O ++ [L[j]]).map plc))))) := fun t => by
    rw [meD_app (g2 t) (by rw [PySem.sizeLine_eq, List.length_map]; omega), bS_set nb, List.map_append]; rfl
  have ta := fun t => tyM_app (g2 t)
  have wl : W.length = (W.set a (.lst ((L.eraseIdx j).map plc))).length := by rw [List.length_set]
  have la1 : a < W.length := (List.getElem?_eq_some_iff.mp ha1).1
  have lb1 : b < (W.set a (.lst ((L.eraseIdx j).map plc))).length := by rw [List.length_set]; exact (List.getElem?_eq_some_iff.mp hb1).1
  have ha2 : ((W.set a (.lst ((L.eraseIdx j).map plc))).set b (.lst ((O ++ [L[j]]).map plc)))[a]? = some (.lst ((L.eraseIdx j).map plc)) := by
    rw [List.getElem?_set_ne (fun h => hab h.symm), List.getElem?_set_self la1]
  have hb2 : ((W.set a (.lst ((L.eraseIdx j).map plc))).set b (.lst ((O ++ [L[j]]).map plc)))[b]? = some (.lst ((O ++ [L[j]]).map plc)) := List.getElem?_set_self lb1
  have nX : n < ((W.set a (.lst ((L.eraseIdx j).map plc))).set b (.lst ((O ++ [L[j]]).map plc))).length := by rw [List.length_set, List.length_set]; exact nV
  generalize hX : (W.set a (.lst ((L.eraseIdx j).map plc))).set b (.lst ((O ++ [L[j]]).map plc)) = X at *
  have d2 := fun t => draw_ok k n t X 5 nX (by decide) (by decide)
  have ho : 1 ≤ (O ++ [L[j]]).length := by rw [List.length_append]; simp
  have ho2 : (O ++ [L[j]]).length ≤ 2001 := by rw [List.length_append]; simp; omega
  have hol : (O ++ [L[j]]).length = O.length + 1 := by rw [List.length_append]; rfl
  have x1 : exec (C (k + 1)) T0 (.asg (.n 8) (.call i__law_bag false (.cons (.v 0) (.cons (.bin .add false (.v 7) (.v 2)) .nil)))) (tE ns rows sh (some (.ref a)) v4 (some (.ref b)) (some (.int (q : Int))) v8 v9) V = some (.nx (tE ns rows sh (some (.ref a)) v4 (some (.ref b)) (some (.int (q : Int))) (some (.ref n)) v9) (bS n s W)) := by
    unfold tE
    generalize rnD rows = rd
    simp only [exec, evalE, evalEs, List.getElem?_cons_succ, List.getElem?_cons_zero, bnd_ok, binD_add, callP_f, hbag, bnS_ok, asg_n, List.set_cons_succ, List.set_cons_zero]
  have x2 : exec (C (k + 1)) T0 (.asg (.n 9) (.me .pop (.v 3) (.cons (.call i__law_draw false (.cons (.v 8) (.cons (.bi .len (.cons (.v 3) .nil)) .nil))) .nil))) (tE ns rows sh (some (.ref a)) v4 (some (.ref b)) (some (.int (q : Int))) (some (.ref n)) v9) (bS n s W) = some (.nx (tE ns rows sh (some (.ref a)) v4 (some (.ref b)) (some (.int (q : Int))) (some (.ref n)) (some (plc L[j]))) (bS n s1 (W.set a (.lst ((L.eraseIdx j).map plc))))) := by
    unfold tE
    generalize rnD rows = rd
    simp only [exec, evalE, evalEs, List.getElem?_cons_succ, List.getElem?_cons_zero, bnd_ok, tp, if_true, lr, okO_some, callP_f, d1, po, bnS_ok, asg_n, List.set_cons_succ, List.set_cons_zero]
  have x3 : exec (C (k + 1)) T0 (.ex (.me .append (.v 6) (.cons (.v 9) .nil))) (tE ns rows sh (some (.ref a)) v4 (some (.ref b)) (some (.int (q : Int))) (some (.ref n)) (some (plc L[j]))) (bS n s1 (W.set a (.lst ((L.eraseIdx j).map plc)))) = some (.nx (tE ns rows sh (some (.ref a)) v4 (some (.ref b)) (some (.int (q : Int))) (some (.ref n)) (some (plc L[j]))) (bS n s1 X)) := by
    have ap := ap s1
    have ta := ta s1
    unfold tE
    generalize rnD rows = rd
    generalize plc L[j] = pd at *
    simp only [exec, evalE, evalEs, List.getElem?_cons_succ, List.getElem?_cons_zero, bnd_ok, ta, if_true, ap, bnS_ok]
  have le : (L.eraseIdx j).length + 1 = L.length := by rw [List.length_eraseIdx, if_pos hjl]; omega
  have m1 : ∀ x, x ∈ L.eraseIdx j → x ∈ L := fun x h => (mem_er hjl x).mpr (.inl h)
  have m2 : ∀ x, x ∈ L → x ∈ L.eraseIdx j ∨ x ∈ O ++ [L[j]] := fun x h => by
    rcases (mem_er hjl x).mp h with h | h
    · exact .inl h
    · exact .inr (by rw [List.mem_append, List.mem_singleton]; exact .inr h)
  have m3 : ∀ x, x ∈ O → x ∈ O ++ [L[j]] := fun x h => List.mem_append_left _ h
  have m4 : ∀ x, x ∈ O ++ [L[j]] → x ∈ O ∨ x ∈ L := fun x h => by
    rcases List.mem_append.mp h with h | h
    · exact .inl h
    · rw [List.mem_singleton] at h
      exact .inr (h ▸ List.getElem_mem hjl)
  have g5 : ∀ t, (bS n t X)[b]? = some (.lst ((O ++ [L[j]]).map plc)) := fun t => by rw [bS_ne nb]; exact hb2
  have i8 : ∀ v9, (tE ns rows sh (some (.ref a)) v4 (some (.ref b)) (some (.int (q : Int))) (some (.ref n)) v9)[8]? = some (some (.ref n)) := fun _ => rfl
  have i6 : ∀ v9, (tE ns rows sh (some (.ref a)) v4 (some (.ref b)) (some (.int (q : Int))) (some (.ref n)) v9)[6]? = some (some (.ref b)) := fun _ => rfl
  unfold l__law_turned_1
  rw [ex_go x1, ex_go x2, ex_go x3]
  generalize hP : O ++ [L[j]] = P at *
  by_cases z : dr 5 s1 = 0
  · have d3 := draw_ok k n (nx 5 s1) X (P.length : Nat) nX (by omega) (by omega)
    have p0 := dr_low (m := (P.length : Nat)) (nx 5 s1) (by omega)
    have p1 := dr_top (m := (P.length : Nat)) (nx 5 s1) (by omega)
    obtain ⟨i, hi⟩ : ∃ i : Nat, dr (P.length : Nat) (nx 5 s1) = (i : Int) := ⟨(dr (P.length : Nat) (nx 5 s1)).toNat, by omega⟩
    rw [hi] at d3 p0 p1
    have hil : i < P.length := by omega
    generalize nx (P.length : Nat) (nx 5 s1) = s3 at d3
    have lr5 := fun t => lenR (g5 t)
    simp only [List.length_map] at lr5
    have ix5 : ixD (bS n s3 X) (.ref b) (.int (i : Int)) = some (plc P[i]) := by
      rw [ixD_ref (g5 s3), atI_nn, List.getElem?_map, List.getElem?_eq_getElem hil]; rfl
    have ap5 : meD .append (.ref b) [plc P[i]] (bS n s3 X) = some (.ok .non (bS n s3 (X.set b (.lst ((P ++ [P[i]]).map plc))))) := by
      rw [meD_app (g5 s3) (by rw [PySem.sizeLine_eq, List.length_map]; omega), bS_set nb, List.map_append]; rfl
    have ta5 := fun t => tyM_app (g5 t)
    refine ⟨L.eraseIdx j, P ++ [P[i]], bS n s3 (X.set b (.lst ((P ++ [P[i]]).map plc))), some (.ref n), some (plc L[j]), ?_, ?_, ?_, le, by rw [List.length_append]; simp; omega, m1, fun x h => (m2 x h).imp id (List.mem_append_left _), fun x h => List.mem_append_left _ (m3 x h), fun x h => ?_⟩
    · have z' : ∀ U, cmpD .eq (.int 0) (.int 0) U = some true := fun U => rfl
      simp only [execs, exec, evalT, evalE, evalEs, i8, i6, bnd_ok, Cst.d, callP_f, d2, z, z', okO_some, bnS_ok, ta5, if_true, lr5, d3, ix5, ap5, seqS_nx]
    · rw [bS_ne na, List.getElem?_set_ne (fun h => hab h.symm)]; exact ha2
    · rw [bS_ne nb, List.getElem?_set_self (by rw [← hX, List.length_set]; exact lb1)]
    · rcases List.mem_append.mp h with h | h
      · exact m4 x h
      · rw [List.mem_singleton] at h
        exact m4 x (h ▸ List.getElem_mem hil)
  · refine ⟨L.eraseIdx j, P, bS n (nx 5 s1) X, some (.ref n), some (plc L[j]), ?_, ?_, ?_, le, by omega, m1, m2, m3, m4⟩
    · have z' : ∀ U, cmpD .eq (.int (dr 5 s1)) (.int 0) U = some false := fun U => by
        show some (decide (dr 5 s1 = 0)) = _
        rw [decide_eq_false z]
      simp only [execs, exec, evalT, evalE, evalEs, i8, bnd_ok, Cst.d, callP_f, d2, z', okO_some, bnS_ok, seqS_nx]
    · rw [bS_ne na]; exact ha2
    · rw [bS_ne nb]; exact hb2
end
end Lk
namespace Lk
open PyProof.Rows L2 Ip
theorem take_in {r : List Ev} {i : Nat} {l : Int} {cs : List Ch} (h : r[i]? = some (.take l cs)) : l ∈ takesR r := mem_takesR.mpr ⟨cs, List.mem_of_getElem? h⟩
theorem uniqT {rows : Rn} (hn : (takes rows).Nodup) {p i q j : Nat} {l : Int} {cs cs' : List Ch} (h1 : evAt rows p i = some (.take l cs)) (h2 : evAt rows q j = some (.take l cs')) : p = q ∧ i = j := by
  have lp : p < rows.length := Classical.byContradiction fun c => by
    unfold evAt at h1
    rw [getD_no (by omega)] at h1
    simp at h1
  have lq : q < rows.length := Classical.byContradiction fun c => by
    unfold evAt at h2
    rw [getD_no (by omega)] at h2
    simp at h2
  unfold evAt at h1 h2
  rw [getD_of lp] at h1
  rw [getD_of lq] at h2
  unfold takes List.Nodup at hn
  rw [List.pairwise_flatMap] at hn
  obtain ⟨a, b⟩ := hn
  rw [List.pairwise_iff_getElem] at b
  have e : p = q := by
    rcases Nat.lt_trichotomy p q with c | c | c
    · exact absurd rfl (b p q lp lq c l (take_in h1) l (take_in h2))
    · exact c
    · exact absurd rfl (b q p lq lp c l (take_in h2) l (take_in h1))
  subst e
  refine ⟨rfl, ?_⟩
  have z := a _ (List.getElem_mem lp)
  unfold takesR at z
  rw [List.pairwise_filterMap, List.pairwise_iff_getElem] at z
  obtain ⟨i1, e1⟩ := List.getElem?_eq_some_iff.mp h1
  obtain ⟨j1, e2⟩ := List.getElem?_eq_some_iff.mp h2
  rcases Nat.lt_trichotomy i j with c | c | c
  · exact absurd rfl (z i j i1 j1 c l (by rw [e1]) l (by rw [e2]))
  · exact c
  · exact absurd rfl (z j i j1 i1 c l (by rw [e2]) l (by rw [e1]))
/-! the drawn order -/
theorem plsA_len {rows : Rn} (hR : RunShape rows) : (plsA rows).length ≤ 180 := by
  have : ∀ m j, ((List.range' j m).flatMap (plsR rows)).length ≤ 30 * m := fun m => by
    induction m with
    | zero => intro j; simp
    | succ m ih =>
      intro j
      rw [List.range'_succ, List.flatMap_cons, List.length_append]
      have h1 := ih (j + 1)
      have h2 : (plsR rows j).length ≤ 30 := by
        unfold plsR
        rw [List.length_map, List.length_range']
        exact hR.small.2 j
      omega
  have h := this rows.length 0
  have := hR.1.2
  unfold plsA; omega
theorem tn_loop (k : Nat) (ns : List Int) (rows : Rn) (sh : Nat) {a b : Nat} (hab : a ≠ b) (v4 : Option D) : ∀ (m q : Nat) (V : Sto) (L O : List (Nat × Nat)) (v7 v8 v9 : Option D), V[a]? = some (.lst (L.map plc)) → V[b]? = some (.lst (O.map plc)) → L.length = m → q + m ≤ 180 → O.length ≤ 2 * q →
    ∃ (O' : List (Nat × Nat)) (V' : Sto) (b7 b8 b9 : Option D), forL (.n 7) (fun e S => execs (C (k + 1)) T0 l__law_turned_1 e S) (rg (q : Int) m) (tE ns rows sh (some (.ref a)) v4 (some (.ref b)) v7 v8 v9) V = some (.nx (tE ns rows sh (some (.ref a)) v4 (some (.ref b)) b7 b8 b9) V') ∧
      V'[b]? = some (.lst (O'.map plc)) ∧ (∀ x, x ∈ O' ↔ x ∈ O ∨ x ∈ L) ∧ O'.length ≤ 2 * (q + m)
  | 0, q, V, L, O, v7, v8, v9, ha, hb, hm, hq, hO => ⟨O, V, v7, v8, v9, by simp [rg, forL], hb, fun x => by rw [List.length_eq_zero_iff.mp hm]; simp, by omega⟩
  | m + 1, q, V, L, O, v7, v8, v9, ha, hb, hm, hq, hO => by
    obtain ⟨L1, O1, V1, c8, c9, e1, a1, b1, l1, o1, m1, m2, m3, m4⟩ := tn_turn k ns rows sh q hab ha hb (by omega) (by omega) (by omega) v4 v8 v9
    obtain ⟨O2, V2, d7, d8, d9, e2, b2, m5, o2⟩ := tn_loop k ns rows sh hab v4 m (q + 1) V1 L1 O1 (some (.int (q : Int))) c8 c9 a1 b1 (by omega) (by omega) (by omega)
    refine ⟨O2, V2, d7, d8, d9, ?_, b2, fun x => ?_, by omega⟩
    · have as : asgT (.n 7) (.int (q : Int)) (tE ns rows sh (some (.ref a)) v4 (some (.ref b)) v7 v8 v9) = some (tE ns rows sh (some (.ref a)) v4 (some (.ref b)) (some (.int (q : Int))) v8 v9) := rfl
      rw [rg]
      simp only [forL, as, e1]
      rw [show ((q : Int) + 1) = ((q + 1 : Nat) : Int) by omega]
      exact e2
    · rw [m5]
      constructor
      · rintro (h | h)
        · exact m4 x h
        · exact .inr (m1 x h)
      · rintro (h | h)
        · exact .inl (m3 x h)
        · exact (m2 x h).symm
theorem turned_ok (k : Nat) (ns : List Int) {rows : Rn} (hR : RunShape rows) (sh : Nat) (S : Sto) : ∃ P : List (Nat × Nat), callP (C (k + 2)) true i__law_turned [.scr ns, rnD rows, .int (sh : Int)] S = some (.ok (.lst (P.map plc)) S) ∧ (∀ z, z ∈ P ↔ z ∈ plsA rows) ∧ P.length ≤ 360 := by
  have h6 := hR.1.2
  have ll := plsA_len hR
  obtain ⟨a, S1, c4, e1, g1, la⟩ := tn_left (k + 1) ns hR sh none none none none rows.length 0 (by omega) 0 [.lst []] [] none rfl (by simp)
  rw [List.nil_append] at g1
  have g1 : S1[a]? = some (.lst ((plsA rows).map plc)) := g1
  obtain ⟨O, V, b7, b8, b9, e2, g2, m2, l2⟩ := tn_loop k ns rows sh (a := a) (b := S1.length) (by omega) c4 (plsA rows).length 0 (S1 ++ [.lst []]) (plsA rows) [] none none none (by rw [List.getElem?_append_left la]; exact g1) (at_last _ _) rfl (by omega) (by simp)
  refine ⟨O, ?_, fun z => by rw [m2]; simp, by omega⟩
  have rl : ∀ U, biD .len [rnD rows] U = some (.int (rows.length : Nat)) := fun U => by
    show some (D.int ((rows.map rowD).length : Nat)) = _
    rw [List.length_map]
  have hr1 : rngD 0 ((rows.length : Nat) : Int) = some (rg 0 rows.length) := rngD_len (by omega)
  have hr2 : rngD 0 (((plsA rows).length : Nat) : Int) = some (rg 0 (plsA rows).length) := rngD_len (by omega)
  have ll2 : biD .len [.ref a] (S1 ++ [.lst []]) = some (.int ((plsA rows).length : Nat)) := by
    rw [lenR (by rw [List.getElem?_append_left la]; exact g1), List.length_map]
  have o0 : 0 ≤ PySem.sizeLine := Nat.zero_le _
  have hc : C (k + 2) i__law_turned [.scr ns, rnD rows, .int (sh : Int)] [] = some (.ok (.ref S1.length) V) := by
    rw [c__law_turned]
    have x1 : exec (C (k + 1)) T0 (.asg (.n 3) (.lst true .nil)) [some (.scr ns), some (rnD rows), some (.int (sh : Int)), none, none, none, none, none, none, none] [] = some (.nx (tE ns rows sh (some (.ref 0)) none none none none none) [.lst []]) := by
      unfold tE
      generalize rnD rows = rd
      simp only [exec, evalE, evalEs, bnd_ok, List.length_nil, o0, if_true, mkL_t, bnS_ok, asg_n, List.set_cons_succ, List.set_cons_zero, List.nil_append]
    have x2 : exec (C (k + 1)) T0 (.for (.n 4) (.rng1 (.bi .len (.cons (.v 1) .nil))) l__law_turned_2) (tE ns rows sh (some (.ref 0)) none none none none none) [.lst []] = some (.nx (tE ns rows sh (some (.ref a)) c4 none none none none) S1) := by
      have g : (tE ns rows sh (some (.ref 0)) none none none none none)[1]? = some (some (rnD rows)) := rfl
      rw [exec]
      simp only [evalI, evalE, evalEs, g, bnd_ok, rl, okO_some, hr1, bnS_ok]
      exact e1
    have x3 : exec (C (k + 1)) T0 (.asg (.n 6) (.lst true .nil)) (tE ns rows sh (some (.ref a)) c4 none none none none) S1 = some (.nx (tE ns rows sh (some (.ref a)) c4 (some (.ref S1.length)) none none none) (S1 ++ [.lst []])) := by
      unfold tE
      generalize rnD rows = rd
      simp only [exec, evalE, evalEs, bnd_ok, List.length_nil, o0, if_true, mkL_t, bnS_ok, asg_n, List.set_cons_succ, List.set_cons_zero]
    have x4 : exec (C (k + 1)) T0 (.for (.n 7) (.rng1 (.bi .len (.cons (.v 3) .nil))) l__law_turned_1) (tE ns rows sh (some (.ref a)) c4 (some (.ref S1.length)) none none none) (S1 ++ [.lst []]) = some (.nx (tE ns rows sh (some (.ref a)) c4 (some (.ref S1.length)) b7 b8 b9) V) := by
      have g : (tE ns rows sh (some (.ref a)) c4 (some (.ref S1.length)) none none none)[3]? = some (some (.ref a)) := rfl
      rw [exec]
      simp only [evalI, evalE, evalEs, g, bnd_ok, ll2, okO_some, hr2, bnS_ok]
      exact e2
    have g6 : (tE ns rows sh (some (.ref a)) c4 (some (.ref S1.length)) b7 b8 b9)[6]? = some (some (.ref S1.length)) := rfl
    unfold b__law_turned
    rw [ex_go x1, ex_go x2, ex_go x3, ex_go x4]
    simp only [execs, exec, evalE, g6, bnS_ok, seqS_rt, outS_rt]
  refine callP_z (S2 := V.set S1.length .dead) (by simp only [pures, rn_pure, D.pure, Bool.and_true]) hc ?_ (by rw [D.pure, plc_pure])
  rw [frz, g2]
  simp only
  rw [mapF_pure 7 V _ (plc_pure O)]
  simp only [g2]
end Lk
namespace Lk
open PyProof.Rows L2 Ip
/-! grown -/
theorem eqD_dat {n : Nat} {xs : List D} (hn : n ≤ 64) (hd : dat n (.tup xs) = true) (S : Sto) : eqD S (.tup xs) (.tup xs) = some true := by
  obtain ⟨a, e1, e2⟩ := dat_shaped hn hd
  show (match pd (res2 S (.tup xs)), pd (res2 S (.tup xs)) with
    | some a, some b => if PySem.SeqAt.shaped a = true ∧ PySem.SeqAt.shaped b = true then some (PySem.PyData.eqv a b) else none
    | _, _ => none) = _
  have e : pd (res2 S (.tup xs)) = some a := e1
  rw [e]
  simp only
  rw [if_pos ⟨e2, e2⟩, PySem.SeqAt.eqv_refl a (PySem.SeqAt.canLay_of_shaped e2)]
theorem row_eq {r : List Ev} (hl : r.length ≤ 30) (ho : ∀ e ∈ r, e.ok) (S : Sto) : eqD S (rowD r) (rowD r) = some true := by
  refine eqD_dat (n := 4) (by decide) (dat_tup.mpr ⟨by rw [List.length_map]; omega, List.all_eq_true.mpr fun x hx => ?_⟩) S
  obtain ⟨e, he, rfl⟩ := List.mem_map.mp hx
  exact ev_dat (ho e he)
theorem rn_eq {X : Rn} (h : RunShape X) (S : Sto) : eqD S (rnD X) (rnD X) = some true := eqD_dat (n := 5) (by decide) (rn_dat h) S
theorem shape_row {X : Rn} (h : RunShape X) (p : Nat) : (X.getD p []).length ≤ 30 ∧ ∀ e ∈ X.getD p [], e.ok := by
  by_cases c : p < X.length
  · rw [getD_of c]
    exact h.2 _ (List.getElem_mem c)
  · rw [getD_no (by omega)]
    exact ⟨by simp, fun e he => (nomatch he)⟩
theorem grown_ok (k : Nat) {A B : Rn} (hA : RunShape A) (hB : B.length = A.length) (h : ∀ p, (B.getD p []).take (A.getD p []).length = A.getD p []) (S : Sto) : callP (C (k + 1)) true i__law_grown [rnD A, rnD B] S = some (.ok (.bl true) S) := by
  refine callP_t (S1 := []) (by simp only [pures, rn_pure, Bool.and_true]) ?_ rfl
  rw [c__law_grown]
  have h6 := hA.1.2
  have rl : biD .len [rnD B] [] = some (.int (B.length : Nat)) := by
    show some (D.int ((B.map rowD).length : Nat)) = _
    rw [List.length_map]
  have hr : rngD 0 ((B.length : Nat) : Int) = some (rg 0 B.length) := rngD_len (by omega)
  obtain ⟨e, he⟩ := forL_all (S := []) (body := fun e S => execs (C k) T0 l__law_grown_1 e S) (i := 2) (fun _ => true) (xs := rg 0 B.length) (env := [some (rnD A), some (rnD B), none]) (fun x hx => by
    rw [← rg_eq] at hx
    obtain ⟨p, hp, rfl⟩ := List.mem_map.mp hx
    have hp := List.mem_range.mp hp
    rw [show (0 : Int) + (p : Int) = (p : Int) by omega]
    have a1 := rn_at (rows := B) hp []
    have a2 := rn_at (rows := A) (p := p) (by omega) []
    have r2 := row_len (A.getD p []) []
    have sl : slD false (rowD (B.getD p [])) none (some ((A.getD p []).length : Nat)) [] = some (.ok (rowD (A.getD p [])) []) := by
      show slD false (.tup ((B.getD p []).map Ev.d)) none (some ((A.getD p []).length : Nat)) [] = _
      rw [slD_tup, cutD_hi (by omega), Int.toNat_natCast, ← List.map_take, h p]; rfl
    have ne : cmpD .ne (rowD (A.getD p [])) (rowD (A.getD p [])) [] = some false := by
      show (eqD [] (rowD (A.getD p [])) (rowD (A.getD p []))).map not = _
      rw [row_eq (shape_row hA p).1 (shape_row hA p).2]; rfl
    unfold l__law_grown_1
    simp only [if_true, List.set_cons_succ, List.set_cons_zero, execs, exec, evalT, evalE, evalEs, evalO, List.getElem?_cons_succ, List.getElem?_cons_zero, bnd_ok, a1, a2, okO_some, r2, sl, ne, bnS_ok, seqS_nx])
  rw [show (rg 0 B.length).all (fun _ => true) = true from List.all_eq_true.mpr fun _ _ => rfl, if_pos rfl] at he
  unfold b__law_grown
  simp only [execs, exec, evalI, evalE, evalEs, List.getElem?_cons_succ, List.getElem?_cons_zero, bnd_ok, rl, okO_some, hr, bnS_ok, he, seqS_nx, Cst.d, seqS_rt, outS_rt]
theorem cut_shape {rows : Rn} (h : RunShape rows) (κ : Nat → Nat) : RunShape (cutF rows κ) := by
  refine ⟨by unfold cutF; rw [List.length_map, List.length_range]; exact h.1, fun r hr => ?_⟩
  obtain ⟨p, _, rfl⟩ := List.mem_map.mp hr
  have := shape_row h p
  exact ⟨by rw [List.length_take]; omega, fun e he => this.2 e (List.mem_of_mem_take he)⟩
/-! one run, fed in part -/
structure ROk (rows : Rn) : Prop where
  sh : RunShape rows
  sn : (sends rows).Nodup
  tn : (takes rows).Nodup
  re : Reach rows (lens rows)
  cs : ∀ p i e, evAt rows p i = some e → e.ok ∧ CsOk e.cs
structure FSt (rows : Rn) (F : Fd) : Prop where
  sub : Sub F rows
  ok : FOk F
  uq : FUq F
theorem fst_add {rows : Rn} (hR : ROk rows) {F : Fd} (h : FSt rows F) {p i : Nat} {e : Ev} (hp : p < F.length) (hi : 1 ≤ i) (he : evAt rows p (i - 1) = some e) (hn : lk (ro F p) i = none) : hasE F e = false ∧ FSt rows (addF F p i e) ∧ i ≤ 30 := by
  have il := evAt_lt he
  have i30 : lens rows p ≤ 30 := hR.sh.small.2 p
  have place : ∀ q j x, lk (ro F q) j = some x → 1 ≤ j ∧ evAt rows q (j - 1) = some x := fun q j x hx => h.sub.ev q _ (lk_mem hx)
  have hh : hasE F e = false := by
    have no : ∀ k l, hasB F k l = true → ∃ q j x, lk (ro F q) j = some x ∧ hit k l x = true := fun k l hb => by
      unfold hasB at hb
      obtain ⟨q, _, hq⟩ := List.any_eq_true.mp hb
      obtain ⟨z, hz, hz2⟩ := List.any_eq_true.mp hq
      exact ⟨q, z.1, z.2, lk_of (h.ok.nd q) hz, hz2⟩
    cases e with
    | step cs => rfl
    | send l cs =>
      cases hb : hasB F true l with
      | false => exact hb
      | true =>
        obtain ⟨q, j, x, hx, ht⟩ := no true l hb
        obtain ⟨h1, h2⟩ := place q j x hx
        cases x with
        | step _ => simp [hit] at ht
        | take _ _ => simp [hit] at ht
        | send m cs' =>
          simp [hit] at ht
          subst ht
          obtain ⟨rfl, e2⟩ := uniq hR.sn h2 he
          rw [show j = i by omega] at hx
          rw [hn] at hx; cases hx
    | take l cs =>
      cases hb : hasB F false l with
      | false => exact hb
      | true =>
        obtain ⟨q, j, x, hx, ht⟩ := no false l hb
        obtain ⟨h1, h2⟩ := place q j x hx
        cases x with
        | step _ => simp [hit] at ht
        | send _ _ => simp [hit] at ht
        | take m cs' =>
          simp [hit] at ht
          subst ht
          obtain ⟨rfl, e2⟩ := uniqT hR.tn h2 he
          rw [show j = i by omega] at hx
          rw [hn] at hx; cases hx
  refine ⟨hh, ⟨⟨by rw [addF_len]; exact h.sub.len, fun q z hz => ?_⟩, h.ok.add hp ⟨hi, by omega⟩ (hR.cs p _ e he).1 hn, h.uq.add hp hn hh⟩, by omega⟩
  rw [ro_add hp] at hz
  by_cases c : q = p
  · rw [if_pos c] at hz
    rcases List.mem_append.mp hz with hz | hz
    · rw [c]; exact h.sub.ev p z hz
    · rw [List.mem_singleton] at hz
      subst hz
      rw [c]
      exact ⟨hi, he⟩
  · rw [if_neg c] at hz
    exact h.sub.ev q z hz
theorem Wat.frame {S S' : Sto} {w : Nat} {F : Fd} (h : Wat S w F) (hf : ∀ x, w ≤ x → x ≤ w + F.length → S'[x]? = S[x]?) : Wat S' w F :=
  ⟨by rw [hf w (Nat.le_refl _) (by omega)]; exact h.ob, fun p hp => by rw [hf (w + 1 + p) (by omega) (by omega)]; exact h.row p hp⟩
def gE (w : Nat) (rows : Rn) (pl : D) (v3 v4 v5 : Option D) : Ip.En := [some (.ref w), some (rnD rows), some pl, v3, v4, v5]
theorem kn_shape {rows : Rn} (hR : ROk rows) {F : Fd} (h : Sub F rows) : RunShape (knR F) := by rw [h.kn]; exact cut_shape hR.sh _
theorem fed_feed (k : Nat) {rows : Rn} (hR : ROk rows) {S : Sto} {w : Nat} {F : Fd} (hW : Wat S w F) (hF : FSt rows F) {z : Nat × Nat} (hz : z ∈ plsA rows) :
    ∃ F' S' e, evAt rows z.1 (z.2 - 1) = some e ∧ C (k + 4) i_Watcher_feed [.ref w, .int (z.1 : Int), .int (z.2 : Int), e.d] S = some (.ok .non S') ∧ Wat S' w F' ∧ FSt rows F' ∧ F'.length = F.length ∧
      (∀ q j e, lk (ro F q) j = some e → lk (ro F' q) j = some e) ∧ (∀ q j, (lk (ro F' q) j).isSome = true ↔ (lk (ro F q) j).isSome = true ∨ (q, j) = z) ∧ S.length ≤ S'.length ∧ ∀ x, x < S.length → (x < w ∨ w + F.length < x) → S'[x]? = S[x]? := by
  obtain ⟨p, i⟩ := z
  obtain ⟨h1, h2, h3⟩ := mem_plsA.mp hz
  have h1 : p < rows.length := h1
  have h2 : 1 ≤ i := h2
  have h3 : i ≤ lens rows p := h3
  have hp : p < F.length := by rw [hF.sub.len]; exact h1
  have i30 : lens rows p ≤ 30 := hR.sh.small.2 p
  obtain ⟨e, he⟩ : ∃ e, evAt rows p (i - 1) = some e := ⟨_, List.getElem?_eq_getElem (by unfold lens at h3; omega)⟩
  have ho := hR.cs p _ e he
  have hn : w + 1 + p < S.length := (List.getElem?_eq_some_iff.mp (hW.row p hp)).1
  cases hl : lk (ro F p) i with
  | some e' =>
    have := (hF.sub.ev p _ (lk_mem hl)).2
    have : evAt rows p (i - 1) = some e' := this
    have ee : e' = e := by rw [he] at this; exact (Option.some.inj this).symm
    refine ⟨F, S, e, he, (feed_met k hF.ok hW hp ⟨h2, by omega⟩ ho hl).1 ee, hW, hF, rfl, fun _ _ _ h => h, fun q j => ⟨.inl, fun h => h.elim id fun h => ?_⟩, Nat.le_refl _, fun _ _ _ => rfl⟩
    cases h
    rw [hl]; rfl
  | none =>
    obtain ⟨hh, hF', _⟩ := fst_add hR hF hp h2 he hl
    obtain ⟨T, hpo, _⟩ := feed_new k hF.ok hF.uq hW hp ⟨h2, by omega⟩ ho hl hh
    have po := sub_po2 hF'.sub hF'.ok.nd hR.sn hR.re
    have lka := fun q j => lk_add (e := e) hp hl q j
    refine ⟨addF F p i e, _, e, he, hpo po, (hW.put hp i e).app T, hF', addF_len .., fun q j x h => ?_, fun q j => ?_, by rw [List.length_append, List.length_set]; omega, fun x hx hx2 => ?_⟩
    · rw [lka]
      by_cases c : q = p ∧ j = i
      · rw [c.1, c.2, hl] at h; cases h
      · rw [if_neg c]; exact h
    · rw [lka]
      by_cases c : q = p ∧ j = i
      · rw [if_pos c]
        exact ⟨fun _ => .inr (by rw [c.1, c.2]), fun _ => rfl⟩
      · rw [if_neg c]
        exact ⟨.inl, fun h => h.elim id fun h => absurd (by cases h; exact ⟨rfl, rfl⟩) c⟩
    · rw [List.getElem?_append_left (by rw [List.length_set]; exact hx), List.getElem?_set_ne (by omega)]
theorem fed_turn (k : Nat) {rows : Rn} (hR : ROk rows) {S : Sto} {w : Nat} {F : Fd} (hW : Wat S w F) (hF : FSt rows F) {z : Nat × Nat} (hz : z ∈ plsA rows) (pl : D) (v5 : Option D) :
    ∃ F' S', execs (C (k + 4)) T0 l__law_fed_1 (gE w rows pl (some (rnD (knR F))) (some (plc z)) v5) S = some (.nx (gE w rows pl (some (rnD (knR F'))) (some (plc z)) (some (rnD (knR F')))) S') ∧ Wat S' w F' ∧ FSt rows F' ∧ F'.length = F.length ∧
      (∀ q j, (lk (ro F' q) j).isSome = true ↔ (lk (ro F q) j).isSome = true ∨ (q, j) = z) ∧ S.length ≤ S'.length ∧ ∀ x, x < S.length → (x < w ∨ w + F.length < x) → S'[x]? = S[x]? := by
  obtain ⟨F', S1, e, he, hf, hW1, hF1, l1, mo, mm, sl, fr⟩ := fed_feed k hR hW hF hz
  obtain ⟨T, hk⟩ := known_ok (k + 2) hF1.ok hW1
  have hk : C (k + 4) i_Watcher_known [.ref w] S1 = some (.ok (rnD (knR F')) (S1 ++ T)) := hk
  obtain ⟨h1, h2, h3⟩ := mem_plsA.mp hz
  have kl := hF.sub.len
  have mt1 := w_mth hW "feed" (by simp [wNm])
  have mt2 := w_mth hW1 "known" (by simp [wNm])
  have r1 := rn_at h1 S
  have ev : ∀ U, ixD U (rowD (rows.getD z.1 [])) (.int ((z.2 : Int) - 1)) = some e.d := fun U => by
    show atI ((rows.getD z.1 []).map Ev.d) ((z.2 : Int) - 1) = _
    rw [show (z.2 : Int) - 1 = ((z.2 - 1 : Nat) : Int) by omega, atI_nn, List.getElem?_map]
    have he : (rows.getD z.1 [])[z.2 - 1]? = some e := he
    rw [he]; rfl
  have mono := kd_mono mo
  have g1 := grown_ok (k + 3) (A := knR F) (B := knR F') (kn_shape hR hF.sub) (by rw [knR_len, knR_len, l1]) (fun p => by
    rw [knR_rlen, hF.sub.kn, hF1.sub.kn, cut_getD, cut_getD, List.take_take, Nat.min_eq_left (mono p)]) (S1 ++ T)
  have g2 := grown_ok (k + 3) (A := knR F') (B := rows) (kn_shape hR hF1.sub) (by rw [knR_len, l1, kl]) (fun p => by
    rw [knR_rlen, hF1.sub.kn, cut_getD]) (S1 ++ T)
  refine ⟨F', S1 ++ T, ?_, hW1.app T, hF1, l1, mm, by rw [List.length_append]; omega, fun x hx hx2 => by rw [List.getElem?_append_left (by omega)]; exact fr x hx hx2⟩
  have i0 : ∀ U, ixD U (plc z) (.int 0) = some (.int (z.1 : Int)) := fun U => rfl
  have i1 : ∀ U, ixD U (plc z) (.int 1) = some (.int (z.2 : Int)) := fun U => rfl
  have x1 : exec (C (k + 4)) T0 (.ex (.mcl 0 i_Watcher_feed "feed" false (.v 0) (.cons (.ix (.v 4) (.c (.int 0))) (.cons (.ix (.v 4) (.c (.int 1))) (.cons (.ix (.ix (.v 1) (.ix (.v 4) (.c (.int 0)))) (.bin .sub false (.ix (.v 4) (.c (.int 1))) (.c (.int 1)))) .nil))))) (gE w rows pl (some (rnD (knR F))) (some (plc z)) v5) S = some (.nx (gE w rows pl (some (rnD (knR F))) (some (plc z)) v5) S1) := by
    unfold gE
    generalize rnD (knR F) = a1 at *
    generalize rnD rows = a2 at *
    generalize plc z = pz at *
    generalize e.d = ed at *
    simp only [exec, evalE, evalEs, List.getElem?_cons_succ, List.getElem?_cons_zero, bnd_ok, mt1, if_true, Cst.d, i0, i1, okO_some, r1, binD_sub, ev, callP_f, hf, bnS_ok]
  have x2 : exec (C (k + 4)) T0 (.asg (.n 5) (.mcl 0 i_Watcher_known "known" false (.v 0) .nil)) (gE w rows pl (some (rnD (knR F))) (some (plc z)) v5) S1 = some (.nx (gE w rows pl (some (rnD (knR F))) (some (plc z)) (some (rnD (knR F')))) (S1 ++ T)) := by
    unfold gE
    generalize rnD (knR F) = a1 at *
    generalize rnD rows = a2 at *
    generalize rnD (knR F') = a3 at *
    simp only [exec, evalE, evalEs, List.getElem?_cons_succ, List.getElem?_cons_zero, bnd_ok, mt2, if_true, callP_f, hk, bnS_ok, asg_n, List.set_cons_succ, List.set_cons_zero]
  have x3 : exec (C (k + 4)) T0 (.ifs (.or (.not (.call i__law_grown true (.cons (.v 3) (.cons (.v 5) .nil)))) (.not (.call i__law_grown true (.cons (.v 5) (.cons (.v 1) .nil))))) (.cons (.ret (.c (.bl false))) .nil) .nil) (gE w rows pl (some (rnD (knR F))) (some (plc z)) (some (rnD (knR F')))) (S1 ++ T) = some (.nx (gE w rows pl (some (rnD (knR F))) (some (plc z)) (some (rnD (knR F')))) (S1 ++ T)) := by
    unfold gE
    generalize rnD (knR F) = a1 at *
    generalize rnD rows = a2 at *
    generalize rnD (knR F') = a3 at *
    simp only [exec, evalT, evalE, evalEs, List.getElem?_cons_succ, List.getElem?_cons_zero, bnd_ok, g1, g2, truD_bl, okO_some, Bool.not_true, bnS_ok, execs]
  unfold l__law_fed_1
  rw [ex_go x1, ex_go x2, ex_go x3]
  rfl
theorem fed_loop (k : Nat) {rows : Rn} (hR : ROk rows) (w : Nat) (pl : D) : ∀ (P : List (Nat × Nat)) (S : Sto) (F : Fd) (v4 v5 : Option D), (∀ z ∈ P, z ∈ plsA rows) → Wat S w F → FSt rows F →
    ∃ F' S' c4 c5, forL (.n 4) (fun e S => execs (C (k + 4)) T0 l__law_fed_1 e S) (P.map plc) (gE w rows pl (some (rnD (knR F))) v4 v5) S = some (.nx (gE w rows pl (some (rnD (knR F'))) c4 c5) S') ∧ Wat S' w F' ∧ FSt rows F' ∧ F'.length = F.length ∧
      (∀ q j, (lk (ro F' q) j).isSome = true ↔ (lk (ro F q) j).isSome = true ∨ (q, j) ∈ P) ∧ S.length ≤ S'.length ∧ ∀ x, x < S.length → (x < w ∨ w + F.length < x) → S'[x]? = S[x]?
  | [], S, F, v4, v5, _, hW, hF => ⟨F, S, v4, v5, by simp [forL], hW, hF, rfl, fun q j => by simp, Nat.le_refl _, fun _ _ _ => rfl⟩
  | z :: P, S, F, v4, v5, hz, hW, hF => by
    obtain ⟨F1, S1, e1, w1, f1, l1, m1, s1, r1⟩ := fed_turn k hR hW hF (hz z (List.mem_cons_self ..)) pl v5
    obtain ⟨F2, S2, c4, c5, e2, w2, f2, l2, m2, s2, r2⟩ := fed_loop k hR w pl P S1 F1 (some (plc z)) (some (rnD (knR F1))) (fun y hy => hz y (List.mem_cons_of_mem _ hy)) w1 f1
    refine ⟨F2, S2, c4, c5, ?_, w2, f2, by omega, fun q j => ?_, by omega, fun x hx hx2 => by rw [r2 x (by omega) (by rw [l1]; exact hx2), r1 x hx hx2]⟩
    · have as : asgT (.n 4) (plc z) (gE w rows pl (some (rnD (knR F))) v4 v5) = some (gE w rows pl (some (rnD (knR F))) (some (plc z)) v5) := rfl
      rw [List.map_cons]
      simp only [forL, as, e1]
      exact e2
    · rw [m2, m1, List.mem_cons, or_assoc]
theorem fed_ok (k : Nat) {rows : Rn} (hR : ROk rows) {S : Sto} {w : Nat} {F : Fd} (P : List (Nat × Nat)) (hz : ∀ z ∈ P, z ∈ plsA rows) (hW : Wat S w F) (hF : FSt rows F) :
    ∃ F' S', C (k + 5) i__law_fed [.ref w, rnD rows, .lst (P.map plc)] S = some (.ok (.bl true) S') ∧ Wat S' w F' ∧ FSt rows F' ∧ F'.length = F.length ∧
      (∀ q j, (lk (ro F' q) j).isSome = true ↔ (lk (ro F q) j).isSome = true ∨ (q, j) ∈ P) ∧ S.length ≤ S'.length ∧ ∀ x, x < S.length → (x < w ∨ w + F.length < x) → S'[x]? = S[x]? := by
  obtain ⟨T, hk⟩ := known_ok (k + 2) hF.ok hW
  have hk : C (k + 4) i_Watcher_known [.ref w] S = some (.ok (rnD (knR F)) (S ++ T)) := hk
  obtain ⟨F2, S2, c4, c5, e2, w2, f2, l2, m2, s2, r2⟩ := fed_loop k hR w (.lst (P.map plc)) P (S ++ T) F none none hz (hW.app T) hF
  rw [List.length_append] at s2
  refine ⟨F2, S2, ?_, w2, f2, l2, m2, by omega, fun x hx hx2 => by rw [r2 x (by rw [List.length_append]; omega) hx2, List.getElem?_append_left hx]⟩
  rw [c__law_fed]
  have mt := w_mth hW "known" (by simp [wNm])
  have x1 : exec (C (k + 4)) T0 (.asg (.n 3) (.mcl 0 i_Watcher_known "known" false (.v 0) .nil)) [some (.ref w), some (rnD rows), some (.lst (P.map plc)), none, none, none] S = some (.nx (gE w rows (.lst (P.map plc)) (some (rnD (knR F))) none none) (S ++ T)) := by
    unfold gE
    generalize rnD (knR F) = a1 at *
    generalize rnD rows = a2 at *
    simp only [exec, evalE, evalEs, List.getElem?_cons_zero, bnd_ok, mt, if_true, callP_f, hk, bnS_ok, asg_n, List.set_cons_succ, List.set_cons_zero]
  have x2 : exec (C (k + 4)) T0 (.for (.n 4) (.of (.v 2)) l__law_fed_1) (gE w rows (.lst (P.map plc)) (some (rnD (knR F))) none none) (S ++ T) = some (.nx (gE w rows (.lst (P.map plc)) (some (rnD (knR F2))) c4 c5) S2) := by
    have g : (gE w rows (.lst (P.map plc)) (some (rnD (knR F))) none none)[2]? = some (some (.lst (P.map plc))) := rfl
    rw [exec]
    simp only [evalI, evalE, g, bnd_ok, itD_lst, okO_some, bnS_ok]
    exact e2
  unfold b__law_fed
  rw [ex_go x1, ex_go x2]
  rfl
end Lk
namespace Lk
open PyProof.Rows L2 Ip
/-! ### the law -/
theorem plc_dat (l : List (Nat × Nat)) (h : l.length ≤ 1000) : dat 2 (.lst (l.map plc)) = true := dat_lst.mpr ⟨by rw [List.length_map]; omega, List.all_eq_true.mpr fun d hd => by
  obtain ⟨z, _, rfl⟩ := List.mem_map.mp hd
  exact dat_tup.mpr ⟨by simp, rfl⟩⟩
noncomputable def wtP (F : Fd) : List (Nat × Nat) := (List.range' 0 F.length).flatMap fun p => (wL F p).map fun i => (p, i)
theorem wtL_eq (F : Fd) : wtL F = (wtP F).map plc := by
  unfold wtL wtP
  rw [List.map_flatMap]
  congr 1
  funext p
  rw [List.map_map]; rfl
theorem wtP_len {F : Fd} (hF : FOk F) : (wtP F).length ≤ 180 := by
  have : ∀ m j, ((List.range' j m).flatMap fun p => (wL F p).map fun i => (p, i)).length ≤ 30 * m := fun m => by
    induction m with
    | zero => intro j; simp
    | succ m ih =>
      intro j
      rw [List.range'_succ, List.flatMap_cons, List.length_append, List.length_map]
      have h1 := ih (j + 1)
      have h2 : (wL F j).length ≤ 30 := by
        have : (wL F j).length ≤ (ixs (ro F j)).length := List.length_filter_le ..
        rw [ixs_len] at this
        have := hF.r30 j
        omega
      omega
  have h := this F.length 0
  have := hF.l6
  unfold wtP; omega
theorem eqD_rr {S : Sto} {a b : Nat} {l : List (Nat × Nat)} (hl : l.length ≤ 1000) (ha : S[a]? = some (.lst (l.map plc))) (hb : S[b]? = some (.lst (l.map plc))) : eqD S (.ref a) (.ref b) = some true := by
  have hd := plc_dat l hl
  obtain ⟨x, e1, e2⟩ := dat_shaped (n := 2) (by decide) hd
  have r : ∀ c, S[c]? = some (.lst (l.map plc)) → pd (res2 S (.ref c)) = some x := fun c hc => by
    rw [res_refn hc]
    have := dat_res2 (S := S) hd
    have e3 : res2 S (.lst (l.map plc)) = .lst ((l.map plc).map (res1 S)) := rfl
    rw [← e3, this, e1]
  show (match pd (res2 S (.ref a)), pd (res2 S (.ref b)) with
    | some a, some b => if PySem.SeqAt.shaped a = true ∧ PySem.SeqAt.shaped b = true then some (PySem.PyData.eqv a b) else none
    | _, _ => none) = _
  rw [r a ha, r b hb]
  simp only
  rw [if_pos ⟨e2, e2⟩, PySem.SeqAt.eqv_refl x (PySem.SeqAt.canLay_of_shaped e2)]
theorem in_plc {S : Sto} (z : Nat × Nat) (l : List (Nat × Nat)) (hl : l.length ≤ 1000) : inD S (plc z) (.lst (l.map plc)) = some (decide (z ∈ l)) := by
  have hd := plc_dat l hl
  obtain ⟨x, e1, e2⟩ := dat_shaped (n := 2) (by decide) hd
  obtain ⟨ys, hy, rfl⟩ := Option.map_eq_some_iff.mp (show (pds (l.map plc)).map PySem.PyData.list = some x from e1)
  obtain ⟨u, u1, u2⟩ := dat_shaped (n := 1) (d := plc z) (by decide) (dat_tup.mpr ⟨by simp, rfl⟩)
  have r : pd (res2 S (.lst (l.map plc))) = some (.list ys) := by rw [dat_res2 hd, e1]
  show (match pd (plc z), pd (res2 S (.lst (l.map plc))) with
    | some a, some (.list b) => if PySem.SeqAt.shaped a = true ∧ PySem.SeqAt.shaped (.list b) = true then some (b.any fun z => PySem.PyData.eqv z a) else none
    | _, _ => none) = _
  rw [u1, r]
  simp only
  rw [if_pos ⟨u2, e2⟩]
  congr 1
  have key : ∀ (l : List (Nat × Nat)) (ys : List PySem.PyData), pds (l.map plc) = some ys → (ys.any fun z => PySem.PyData.eqv z u) = decide (z ∈ l) := fun l => by
    induction l with
    | nil => intro ys hy; cases hy; simp
    | cons a l ih =>
      intro ys hy
      rw [List.map_cons, pds] at hy
      split at hy
      · rename_i v vs h1 h2
        cases hy
        rw [List.any_cons, ih vs h2, Bool.eq_iff_iff, Bool.or_eq_true, decide_eq_true_eq, decide_eq_true_eq, List.mem_cons, eqv_pl (plc a) (plc z) v u rfl rfl h1 u1]
        exact ⟨fun h => h.imp (fun h => (plc_inj h).symm) id, fun h => h.imp (fun h => by rw [h]) id⟩
      · cases hy
  exact key l ys hy
theorem fst_lk {rows : Rn} {F F' : Fd} (h : Sub F rows) (h' : Sub F' rows) (hs : ∀ q j, (lk (ro F q) j).isSome = true ↔ (lk (ro F' q) j).isSome = true) (q j : Nat) : lk (ro F q) j = lk (ro F' q) j := by
  cases e : lk (ro F q) j with
  | none =>
    cases e' : lk (ro F' q) j with
    | none => rfl
    | some x => have := (hs q j).mpr (by rw [e']; rfl); rw [e] at this; cases this
  | some x =>
    have := (hs q j).mp (by rw [e]; rfl)
    obtain ⟨y, e'⟩ := Option.isSome_iff_exists.mp this
    have a := (h.ev q _ (lk_mem e)).2
    have b := (h'.ev q _ (lk_mem e')).2
    have a : evAt rows q (j - 1) = some x := a
    have b : evAt rows q (j - 1) = some y := b
    rw [e', ← b, a]
theorem same_wt {F F' : Fd} (hF : FOk F) (hF' : FOk F') (hl : F.length = F'.length) (hs : ∀ p i, lk (ro F p) i = lk (ro F' p) i) : knR F = knR F' ∧ wtP F = wtP F' := by
  obtain ⟨h1, h2⟩ := kn_congr hl hs
  refine ⟨h1, ?_⟩
  unfold wtP
  rw [hl]
  congr 1
  funext p
  unfold wL
  rw [h2, ixs_eq (hF.nd p) (hF'.nd p) fun i => ?_]
  have := hs p i
  constructor
  · intro h
    refine Classical.byContradiction fun c => ?_
    rw [lk_none.mpr c] at this
    exact lk_none.mp this h
  · intro h
    refine Classical.byContradiction fun c => ?_
    rw [lk_none.mpr c] at this
    exact lk_none.mp this.symm h
theorem all_fed {rows : Rn} (hR : ROk rows) {F : Fd} (h : FSt rows F) (ha : ∀ z ∈ plsA rows, (lk (ro F z.1) z.2).isSome = true) : knR F = rows ∧ wtP F = [] := by
  have hall : ∀ p i, i < lens rows p → (lk (ro F p) (i + 1)).isSome = true := fun p i hi => by
    have hp : p < rows.length := Nat.lt_of_not_le fun c => by unfold lens at hi; rw [getD_no c] at hi; simp at hi
    exact ha (p, i + 1) (mem_plsA.mpr ⟨hp, by show 1 ≤ i + 1; omega, by show i + 1 ≤ lens rows p; omega⟩)
  obtain ⟨h1, h2⟩ := h.sub.all hR.re hall hR.sh.small.2
  refine ⟨h2, ?_⟩
  unfold wtP
  rw [List.flatMap_eq_nil_iff]
  intro p _
  rw [List.map_eq_nil_iff]
  unfold wL
  rw [List.filter_eq_nil_iff]
  intro i hi
  obtain ⟨z, hz, rfl⟩ := List.mem_map.mp (ixs_mem.mp hi)
  have := h.sub.ev p z hz
  have l := evAt_lt this.2
  rw [h1, decide_eq_true_eq]
  omega
theorem Wat.lt {S : Sto} {w : Nat} {F : Fd} (h : Wat S w F) : w + F.length < S.length := by
  by_cases c : F.length = 0
  · have := (List.getElem?_eq_some_iff.mp h.ob).1
    omega
  · have := (List.getElem?_eq_some_iff.mp (h.row (F.length - 1) (by omega))).1
    omega
theorem F0_ok {n : Nat} (h6 : n ≤ 6) {rows : Rn} (hl : rows.length = n) : FSt rows (List.replicate n []) := by
  have r0 : ∀ p, ro (List.replicate n []) p = [] := fun p => by
    unfold ro
    rw [List.getD_eq_getElem?_getD, List.getElem?_replicate]
    split <;> rfl
  refine ⟨⟨by rw [List.length_replicate, hl], fun p z hz => by rw [r0] at hz; exact (nomatch hz)⟩, ⟨by rw [List.length_replicate]; exact h6, fun p => (by rw [r0]; exact List.nodup_nil), fun p z hz => (by rw [r0] at hz; exact (nomatch hz))⟩, ⟨fun p i q j l cs cs' h _ => (by rw [r0] at h; exact (nomatch h)), fun p i q j l cs cs' h _ => (by rw [r0] at h; exact (nomatch h))⟩⟩
theorem F0_lk {n : Nat} (q j : Nat) : lk (ro (List.replicate n []) q) j = none := by
  have r0 : ro (List.replicate n []) q = [] := by
    unfold ro
    rw [List.getD_eq_getElem?_getD, List.getElem?_replicate]
    split <;> rfl
  rw [r0]; rfl
theorem GP.rok {rows : Rn} {fl : List Int} {m : Nat} (h : GP rows fl m) (hm : m ≤ 30) (h1 : 1 ≤ rows.length) (h6 : rows.length ≤ 6) : ROk rows := by
  refine ⟨⟨⟨h1, h6⟩, fun r hr => ⟨by have := (h.ok r hr).1; omega, fun e he => ((h.ok r hr).2 e he).1⟩⟩, h.sn, h.tn, h.re, fun p i e he => ?_⟩
  obtain ⟨r, hr, hm⟩ := evAt_mem he
  exact (h.ok r hr).2 e hm
def zE (ns : List Int) (c : Nat) (rows : Rn) (w1 w2 : Nat) (P0 P1 : List (Nat × Nat)) (h : Nat) (v8 : Option D) : Ip.En := [some (.scr ns), some (.ref 0), some (.int (c : Int)), some (rnD rows), some (.ref w1), some (.ref w2), some (.lst [.lst (P0.map plc), .lst (P1.map plc)]), some (.int (h : Int)), v8, none]
section
variable {S : Sto} {w1 w2 c h : Nat} {rows : Rn} {P0 P1 M : List (Nat × Nat)} {ns : List Int}
/-- the first half, and what the other was fed meanwhile -/
theorem half_ok (k : Nat) (hR : ROk rows) (hc : rows.length = c) (hw : w1 + c < w2) (h1 : Wat S w1 (List.replicate c [])) (h2 : Wat S w2 (List.replicate c [])) (m0 : ∀ z, z ∈ P0 ↔ z ∈ plsA rows) (m1 : ∀ z, z ∈ P1 ↔ z ∈ plsA rows) (l0 : P0.length ≤ 360) (l1 : P1.length ≤ 360) (r : Stms) :
    ∃ (S' : Sto) (F1 F2 : Fd) (M : List (Nat × Nat)), execs (C (k + 5)) T0 (.cons (.ifs (.not (.call i__law_fed false (.cons (.v 4) (.cons (.v 3) (.cons (.sl false (.ix (.v 6) (.c (.int 0))) .no (.so (.v 7))) .nil))))) (.cons (.ret (.c (.bl false))) .nil) .nil) (.cons k_law_1 (.cons (.ifs (.or (.not (.call i__law_fed false (.cons (.v 5) (.cons (.v 3) (.cons (.v 8) .nil))))) (.or (.cmp .ne (.mcl 0 i_Watcher_known "known" false (.v 4) .nil) (.mcl 0 i_Watcher_known "known" false (.v 5) .nil)) (.cmp .ne (.mcl 0 i_Watcher_waiting "waiting" false (.v 4) .nil) (.mcl 0 i_Watcher_waiting "waiting" false (.v 5) .nil)))) (.cons (.ret (.c (.bl false))) .nil) .nil) r))) (zE ns c rows w1 w2 P0 P1 h none) S =
      execs (C (k + 5)) T0 r (zE ns c rows w1 w2 P0 P1 h (some (.lst (M.map plc)))) S' ∧ Wat S' w1 F1 ∧ Wat S' w2 F2 ∧ FSt rows F1 ∧ FSt rows F2 ∧ F1.length = c ∧ F2.length = c ∧ (∀ q j, (q, j) ∈ P0.take h → (lk (ro F1 q) j).isSome = true) := by
  have h6 := hR.sh.1.2
  have f0 := F0_ok (n := c) (by omega) hc
  have hl0 : (List.replicate c ([] : Fr)).length = c := List.length_replicate
  -- one
  obtain ⟨F1, S1, e1, w1', f1, l1', k1, s1, r1⟩ := fed_ok k hR (P0.take h) (fun z hz => (m0 z).mp (List.mem_of_mem_take hz)) h1 f0
  rw [hl0] at l1' r1
  have lt2 := h2.lt
  rw [hl0] at lt2
  have w2' : Wat S1 w2 (List.replicate c []) := h2.frame fun x hx hx2 => by rw [hl0] at hx2; exact r1 x (by omega) (by omega)
  -- met
  have tk : ∀ U, slD false (.lst (P0.map plc)) none (some (h : Int)) U = some (.ok (.lst ((P0.take h).map plc)) U) := fun U => by
    show mkL false (cutD (P0.map plc) none (some (h : Int))) U = _
    rw [cutD_hi (by omega), Int.toNat_natCast, ← List.map_take]; rfl
  obtain ⟨M, hM⟩ : ∃ M, M = P1.filter fun z => decide (z ∈ P0.take h) := ⟨_, rfl⟩
  have mM : ∀ z, z ∈ M ↔ z ∈ P0.take h := fun z => by
    rw [hM, List.mem_filter, decide_eq_true_eq, m1]
    exact ⟨fun h => h.2, fun h => ⟨(m0 z).mp (List.mem_of_mem_take h), h⟩⟩
  have i0 : ∀ U, ixD U (.lst [.lst (P0.map plc), .lst (P1.map plc)]) (.int 0) = some (.lst (P0.map plc)) := fun U => rfl
  have i1 : ∀ U, ixD U (.lst [.lst (P0.map plc), .lst (P1.map plc)]) (.int 1) = some (.lst (P1.map plc)) := fun U => rfl
  have lc : evalE (C (k + 5)) T0 (.lc false [("place", 9)] (.n 9) (.of (.ix (.v 6) (.c (.int 1)))) q_law_1 e_law_1) (zE ns c rows w1 w2 P0 P1 h none) S1 = some (.ok (.lst (M.map plc)) S1) := by
    unfold zE q_law_1
    generalize rnD rows = rd
    rw [lc_so (S := S1) (xs := P1.map plc) (fun d => match d with
      | .tup [.int a, .int b] => decide ((a.toNat, b.toNat) ∈ P0.take h)
      | _ => false) (fun d => d) (by
        simp only [evalI, evalE, List.getElem?_cons_succ, List.getElem?_cons_zero, bnd_ok, Cst.d, i1, okO_some, itD_lst]) (by rw [List.length_map, PySem.sizeLine_eq]; omega) (fun y hy => ?_) (fun y hy _ => ?_), mkL_f]
    · congr 3
      rw [List.map_id', List.filter_map, hM]
      congr 1
    · obtain ⟨z, _, rfl⟩ := List.mem_map.mp hy
      have ci : cmpD .isin (plc z) (.lst ((P0.take h).map plc)) S1 = some (decide (z ∈ P0.take h)) := in_plc z _ (by rw [List.length_take]; omega)
      have e : (match plc z with
        | .tup [.int a, .int b] => decide ((a.toNat, b.toNat) ∈ P0.take h)
        | _ => false) = decide (z ∈ P0.take h) := rfl
      rw [e]
      generalize plc z = pz at *
      simp only [List.map_cons, List.map_nil, wipeE, List.set_cons_succ, List.set_cons_zero, evalT, evalE, evalO, List.getElem?_cons_succ, List.getElem?_cons_zero, bnd_ok, Cst.d, i0, okO_some, tk, ci]
    · unfold e_law_1
      simp only [List.map_cons, List.map_nil, wipeE, List.set_cons_succ, List.set_cons_zero, evalE, List.getElem?_cons_succ, List.getElem?_cons_zero]
  -- the other
  obtain ⟨F2, S2, e2, w2'', f2, l2', k2, s2, r2⟩ := fed_ok k hR M (fun z hz => (m0 z).mp (List.mem_of_mem_take ((mM z).mp hz))) w2' f0
  rw [hl0] at l2' r2
  have w1'' : Wat S2 w1 F1 := w1'.frame fun x hx hx2 => by
    have := w1'.lt
    rw [l1'] at hx2 this
    exact r2 x (by omega) (by omega)
  have lkq : ∀ q j, lk (ro F1 q) j = lk (ro F2 q) j := fst_lk f1.sub f2.sub fun q j => by
    rw [k1, k2, mM]
  obtain ⟨sk, sw⟩ := same_wt f1.ok f2.ok (by omega) lkq
  obtain ⟨T1, kn1⟩ := known_ok (k + 3) f1.ok w1''
  have kn1 : C (k + 5) i_Watcher_known [.ref w1] S2 = some (.ok (rnD (knR F1)) (S2 ++ T1)) := kn1
  obtain ⟨T2, kn2⟩ := known_ok (k + 3) f2.ok (w2''.app T1)
  have kn2 : C (k + 5) i_Watcher_known [.ref w2] (S2 ++ T1) = some (.ok (rnD (knR F1)) (S2 ++ T1 ++ T2)) := by rw [sk]; exact kn2
  have mt1 := w_mth w1'' "known" (by simp [wNm])
  have mt2 := w_mth (w2''.app T1) "known" (by simp [wNm])
  obtain ⟨T3, wt1⟩ := waiting_ok (k + 2) f1.ok ((w1''.app T1).app T2)
  have wt1 : C (k + 5) i_Watcher_waiting [.ref w1] (S2 ++ T1 ++ T2) = some (.ok (.ref (S2 ++ T1 ++ T2).length) (S2 ++ T1 ++ T2 ++ ([Ob.lst (wtL F1)] ++ T3))) := wt1
  obtain ⟨T4, wt2⟩ := waiting_ok (k + 2) f2.ok (((w2''.app T1).app T2).app ([Ob.lst (wtL F1)] ++ T3))
  have wt2 : C (k + 5) i_Watcher_waiting [.ref w2] (S2 ++ T1 ++ T2 ++ ([Ob.lst (wtL F1)] ++ T3)) = some (.ok (.ref (S2 ++ T1 ++ T2 ++ ([Ob.lst (wtL F1)] ++ T3)).length) (S2 ++ T1 ++ T2 ++ ([Ob.lst (wtL F1)] ++ T3) ++ ([Ob.lst (wtL F2)] ++ T4))) := wt2
  have mt3 := w_mth ((w1''.app T1).app T2) "waiting" (by simp [wNm])
  have mt4 := w_mth (((w2''.app T1).app T2).app ([Ob.lst (wtL F1)] ++ T3)) "waiting" (by simp [wNm])
  have ne1 : cmpD .ne (rnD (knR F1)) (rnD (knR F1)) (S2 ++ T1 ++ T2) = some false := by
    show (eqD _ (rnD (knR F1)) (rnD (knR F1))).map not = _
    rw [rn_eq (kn_shape hR f1.sub)]; rfl
  have wf : Wat (S2 ++ T1 ++ T2 ++ ([Ob.lst (wtL F1)] ++ T3) ++ ([Ob.lst (wtL F2)] ++ T4)) w1 F1 ∧ Wat (S2 ++ T1 ++ T2 ++ ([Ob.lst (wtL F1)] ++ T3) ++ ([Ob.lst (wtL F2)] ++ T4)) w2 F2 := ⟨(((w1''.app T1).app T2).app _).app _, (((w2''.app T1).app T2).app _).app _⟩
  have ne2 : cmpD .ne (.ref (S2 ++ T1 ++ T2).length) (.ref (S2 ++ T1 ++ T2 ++ ([Ob.lst (wtL F1)] ++ T3)).length) (S2 ++ T1 ++ T2 ++ ([Ob.lst (wtL F1)] ++ T3) ++ ([Ob.lst (wtL F2)] ++ T4)) = some false := by
    show (eqD _ _ _).map not = _
    generalize S2 ++ T1 ++ T2 = U
    have g1 : (U ++ ([Ob.lst (wtL F1)] ++ T3) ++ ([Ob.lst (wtL F2)] ++ T4))[U.length]? = some (.lst ((wtP F1).map plc)) := by
      rw [List.append_assoc, List.append_assoc, ← wtL_eq]
      exact w0 _ _
    have g2 : (U ++ ([Ob.lst (wtL F1)] ++ T3) ++ ([Ob.lst (wtL F2)] ++ T4))[(U ++ ([Ob.lst (wtL F1)] ++ T3)).length]? = some (.lst ((wtP F1).map plc)) := by
      rw [sw, ← wtL_eq]
      exact w0 _ _
    rw [eqD_rr (by have := wtP_len f1.ok; omega) g1 g2]; rfl
  generalize S2 ++ T1 ++ T2 ++ ([Ob.lst (wtL F1)] ++ T3) ++ ([Ob.lst (wtL F2)] ++ T4) = U5 at *
  generalize S2 ++ T1 ++ T2 ++ ([Ob.lst (wtL F1)] ++ T3) = U4 at *
  generalize S2 ++ T1 ++ T2 = U3 at *
  generalize S2 ++ T1 = U2 at *
  refine ⟨U5, F1, F2, M, ?_, wf.1, wf.2, f1, f2, l1', l2', fun q j hq => (k1 q j).mpr (.inr hq)⟩
  have x1 : exec (C (k + 5)) T0 (.ifs (.not (.call i__law_fed false (.cons (.v 4) (.cons (.v 3) (.cons (.sl false (.ix (.v 6) (.c (.int 0))) .no (.so (.v 7))) .nil))))) (.cons (.ret (.c (.bl false))) .nil) .nil) (zE ns c rows w1 w2 P0 P1 h none) S = some (.nx (zE ns c rows w1 w2 P0 P1 h none) S1) := by
    unfold zE
    generalize rnD rows = rd at *
    simp only [exec, evalT, evalE, evalEs, evalO, List.getElem?_cons_succ, List.getElem?_cons_zero, bnd_ok, Cst.d, i0, okO_some, tk, callP_f, e1, truD_bl, Bool.not_true, bnS_ok, execs]
  have x2 : exec (C (k + 5)) T0 k_law_1 (zE ns c rows w1 w2 P0 P1 h none) S1 = some (.nx (zE ns c rows w1 w2 P0 P1 h (some (.lst (M.map plc)))) S1) := by
    unfold k_law_1
    rw [exec, lc]
    rfl
  have x3 : exec (C (k + 5)) T0 (.ifs (.or (.not (.call i__law_fed false (.cons (.v 5) (.cons (.v 3) (.cons (.v 8) .nil))))) (.or (.cmp .ne (.mcl 0 i_Watcher_known "known" false (.v 4) .nil) (.mcl 0 i_Watcher_known "known" false (.v 5) .nil)) (.cmp .ne (.mcl 0 i_Watcher_waiting "waiting" false (.v 4) .nil) (.mcl 0 i_Watcher_waiting "waiting" false (.v 5) .nil)))) (.cons (.ret (.c (.bl false))) .nil) .nil) (zE ns c rows w1 w2 P0 P1 h (some (.lst (M.map plc)))) S1 = some (.nx (zE ns c rows w1 w2 P0 P1 h (some (.lst (M.map plc)))) U5) := by
    unfold zE
    generalize rnD rows = rd at *
    generalize rnD (knR F1) = kd1 at *
    simp only [exec, evalT, evalE, evalEs, List.getElem?_cons_succ, List.getElem?_cons_zero, bnd_ok, callP_f, e2, truD_bl, okO_some, Bool.not_true, mt1, mt2, mt3, mt4, if_true, kn1, kn2, ne1, wt1, wt2, ne2, bnS_ok, execs]
  rw [ex_go x1, ex_go x2, ex_go x3]
theorem rest_ok (k : Nat) (hR : ROk rows) (hc : rows.length = c) (hw : w1 + c < w2) {F1 F2 : Fd} (h1 : Wat S w1 F1) (h2 : Wat S w2 F2) (f1 : FSt rows F1) (f2 : FSt rows F2) (l1 : F1.length = c) (l2 : F2.length = c) (hk : ∀ q j, (q, j) ∈ P0.take h → (lk (ro F1 q) j).isSome = true) (m0 : ∀ z, z ∈ P0 ↔ z ∈ plsA rows) (m1 : ∀ z, z ∈ P1 ↔ z ∈ plsA rows) :
    ∃ S', execs (C (k + 5)) T0 (.cons (.ifs (.or (.not (.call i__law_fed false (.cons (.v 4) (.cons (.v 3) (.cons (.sl false (.ix (.v 6) (.c (.int 0))) (.so (.v 7)) .no) .nil))))) (.not (.call i__law_fed false (.cons (.v 5) (.cons (.v 3) (.cons (.ix (.v 6) (.c (.int 1))) .nil)))))) (.cons (.ret (.c (.bl false))) .nil) .nil) (.cons (.ret (.and (.cmp .eq (.mcl 0 i_Watcher_known "known" false (.v 4) .nil) (.v 3)) (.and (.cmp .eq (.mcl 0 i_Watcher_known "known" false (.v 5) .nil) (.v 3)) (.and (.cmp .eq (.mcl 0 i_Watcher_waiting "waiting" false (.v 4) .nil) (.lst false .nil)) (.cmp .eq (.mcl 0 i_Watcher_waiting "waiting" false (.v 5) .nil) (.lst false .nil)))))) .nil)) (zE ns c rows w1 w2 P0 P1 h (some (.lst (M.map plc)))) S = some (.rt (.bl true) S') := by
  obtain ⟨G1, S1, e1, w1', g1, n1, k1, s1, r1⟩ := fed_ok k hR (P0.drop h) (fun z hz => (m0 z).mp (List.mem_of_mem_drop hz)) h1 f1
  rw [l1] at r1
  have lt2 := h2.lt
  rw [l2] at lt2
  have w2' : Wat S1 w2 F2 := h2.frame fun x hx hx2 => by rw [l2] at hx2; exact r1 x (by omega) (by omega)
  obtain ⟨G2, S2, e2, w2'', g2, n2, k2, s2, r2⟩ := fed_ok k hR P1 (fun z hz => (m1 z).mp hz) w2' f2
  rw [l2] at r2
  have w1'' : Wat S2 w1 G1 := w1'.frame fun x hx hx2 => by
    have := w1'.lt
    rw [n1, l1] at hx2 this
    exact r2 x (by omega) (by omega)
  obtain ⟨a1, b1⟩ := all_fed hR g1 fun z hz => by
    rw [k1]
    have := (m0 z).mpr hz
    rw [← List.take_append_drop h P0] at this
    rcases List.mem_append.mp this with q | q
    · exact .inl (hk z.1 z.2 q)
    · exact .inr q
  obtain ⟨a2, b2⟩ := all_fed hR g2 fun z hz => by
    rw [k2]
    exact .inr ((m1 z).mpr hz)
  have dk : ∀ U, slD false (.lst (P0.map plc)) (some (h : Int)) none U = some (.ok (.lst ((P0.drop h).map plc)) U) := fun U => by
    show mkL false (cutD (P0.map plc) (some (h : Int)) none) U = _
    rw [cutD_lo (by omega), Int.toNat_natCast, ← List.map_drop]; rfl
  have i0 : ∀ U, ixD U (.lst [.lst (P0.map plc), .lst (P1.map plc)]) (.int 0) = some (.lst (P0.map plc)) := fun U => rfl
  have i1 : ∀ U, ixD U (.lst [.lst (P0.map plc), .lst (P1.map plc)]) (.int 1) = some (.lst (P1.map plc)) := fun U => rfl
  obtain ⟨T1, kn1⟩ := known_ok (k + 3) g1.ok w1''
  have kn1 : C (k + 5) i_Watcher_known [.ref w1] S2 = some (.ok (rnD rows) (S2 ++ T1)) := by rw [a1] at kn1; exact kn1
  obtain ⟨T2, kn2⟩ := known_ok (k + 3) g2.ok (w2''.app T1)
  have kn2 : C (k + 5) i_Watcher_known [.ref w2] (S2 ++ T1) = some (.ok (rnD rows) (S2 ++ T1 ++ T2)) := by rw [a2] at kn2; exact kn2
  have mt1 := w_mth w1'' "known" (by simp [wNm])
  have mt2 := w_mth (w2''.app T1) "known" (by simp [wNm])
  obtain ⟨T3, wt1⟩ := waiting_ok (k + 2) g1.ok ((w1''.app T1).app T2)
  have wt1 : C (k + 5) i_Watcher_waiting [.ref w1] (S2 ++ T1 ++ T2) = some (.ok (.ref (S2 ++ T1 ++ T2).length) (S2 ++ T1 ++ T2 ++ ([Ob.lst (wtL G1)] ++ T3))) := wt1
  obtain ⟨T4, wt2⟩ := waiting_ok (k + 2) g2.ok (((w2''.app T1).app T2).app ([Ob.lst (wtL G1)] ++ T3))
  have wt2 : C (k + 5) i_Watcher_waiting [.ref w2] (S2 ++ T1 ++ T2 ++ ([Ob.lst (wtL G1)] ++ T3)) = some (.ok (.ref (S2 ++ T1 ++ T2 ++ ([Ob.lst (wtL G1)] ++ T3)).length) (S2 ++ T1 ++ T2 ++ ([Ob.lst (wtL G1)] ++ T3) ++ ([Ob.lst (wtL G2)] ++ T4))) := wt2
  have mt3 := w_mth ((w1''.app T1).app T2) "waiting" (by simp [wNm])
  have mt4 := w_mth (((w2''.app T1).app T2).app ([Ob.lst (wtL G1)] ++ T3)) "waiting" (by simp [wNm])
  have q1 : ∀ U, cmpD .eq (rnD rows) (rnD rows) U = some true := fun U => rn_eq hR.sh U
  have q3 : cmpD .eq (.ref (S2 ++ T1 ++ T2).length) (.lst []) (S2 ++ T1 ++ T2 ++ ([Ob.lst (wtL G1)] ++ T3)) = some true := eqD_nR [] (by
    rw [wtL_eq, b1]
    exact w0 _ _)
  have q4 : cmpD .eq (.ref (S2 ++ T1 ++ T2 ++ ([Ob.lst (wtL G1)] ++ T3)).length) (.lst []) (S2 ++ T1 ++ T2 ++ ([Ob.lst (wtL G1)] ++ T3) ++ ([Ob.lst (wtL G2)] ++ T4)) = some true := eqD_nR [] (by
    rw [wtL_eq G2, b2]
    exact w0 _ _)
  generalize S2 ++ T1 ++ T2 ++ ([Ob.lst (wtL G1)] ++ T3) ++ ([Ob.lst (wtL G2)] ++ T4) = U5 at *
  generalize S2 ++ T1 ++ T2 ++ ([Ob.lst (wtL G1)] ++ T3) = U4 at *
  generalize S2 ++ T1 ++ T2 = U3 at *
  generalize S2 ++ T1 = U2 at *
  have o0 : 0 ≤ PySem.sizeLine := Nat.zero_le _
  refine ⟨U5, ?_⟩
  unfold zE
  generalize rnD rows = rd at *
  simp only [execs, exec, evalT, evalE, evalEs, evalO, List.getElem?_cons_succ, List.getElem?_cons_zero, bnd_ok, Cst.d, i0, i1, okO_some, dk, callP_f, e1, e2, truD_bl, Bool.not_true, bnS_ok, seqS_nx, mt1, mt2, mt3, mt4, if_true, kn1, kn2, q1, Option.map_some, wt1, wt2, List.length_nil, o0, mkL_f, q3, q4, seqS_rt]
end
theorem law_ok (k : Nat) (ns : List Int) : ∃ S', C (k + 6) i_law [.scr ns] [] = some (.ok (.bl true) S') := by
  rw [c_law]
  obtain ⟨s, hb⟩ := bag_ok (k + 4) ns 0 []
  have hb : C (k + 5) i__law_bag [.scr ns, .int 0] [] = some (.ok (.ref 0) (bS 0 s [.lst []])) := hb
  have hn : 0 < ([Ob.lst []] : Sto).length := by simp
  have d1 := draw_ok (k + 4) 0 s [.lst []] 6 hn (by decide) (by decide)
  have a0 := dr_low (m := 6) s (by decide)
  have a1 := dr_top (m := 6) s (by decide)
  obtain ⟨c, hc⟩ : ∃ c : Nat, 1 + dr 6 s = (c : Int) := ⟨(1 + dr 6 s).toNat, by omega⟩
  have c1 : 1 ≤ c := by omega
  have c6 : c ≤ 6 := by omega
  obtain ⟨rows, fl, m, s2, V, hr, hl, hm, gp, vl, _⟩ := law_run_run k 0 c (by omega) c6 30 (by decide) (nx 6 s) [.lst []] hn
  have hR := gp.rok hm (by omega) (by omega)
  have v0 : 0 < V.length := by simp at vl; omega
  have m1 := make_ok (k + 3) (bS 0 s2 V) c1 c6
  have m2 := make_ok (k + 3) (bS 0 s2 V ++ newW (bS 0 s2 V).length c) c1 c6
  have W1 := newW_wat (bS 0 s2 V) c (newW (bS 0 s2 V ++ newW (bS 0 s2 V).length c).length c)
  have W2 := newW_wat (bS 0 s2 V ++ newW (bS 0 s2 V).length c) c []
  rw [List.append_nil] at W2
  have lw : (bS 0 s2 V).length + c < (bS 0 s2 V ++ newW (bS 0 s2 V).length c).length := by rw [List.length_append, newW_len]; omega
  generalize hU : bS 0 s2 V ++ newW (bS 0 s2 V).length c ++ newW (bS 0 s2 V ++ newW (bS 0 s2 V).length c).length c = U at m2 W1 W2
  have hU2 : U = bS 0 s2 (V ++ newW (bS 0 s2 V).length c ++ newW (bS 0 s2 V ++ newW (bS 0 s2 V).length c).length c) := by
    rw [← hU, bS_app v0, bS_app (app_lt v0 _)]
  generalize hw2 : (bS 0 s2 V ++ newW (bS 0 s2 V).length c).length = w2 at *
  have w1p : 0 < (bS 0 s2 V).length := by rw [bS_len]; exact v0
  generalize hw1 : (bS 0 s2 V).length = w1 at *
  obtain ⟨P0, t0, p0, q0⟩ := turned_ok (k + 3) ns hR.sh 0 U
  obtain ⟨P1, t1, p1, q1⟩ := turned_ok (k + 3) ns hR.sh 17 U
  have t0 : callP (C (k + 5)) true i__law_turned [.scr ns, rnD rows, .int 0] U = some (.ok (.lst (P0.map plc)) U) := t0
  have t1 : callP (C (k + 5)) true i__law_turned [.scr ns, rnD rows, .int 17] U = some (.ok (.lst (P1.map plc)) U) := t1
  have d2 := draw_ok (k + 4) 0 s2 (V ++ newW w1 c ++ newW w2 c) ((P0.length : Nat) + 1 : Int) (app_lt (app_lt v0 _) _) (by omega) (by omega)
  rw [← hU2] at d2
  have b0 := dr_low (m := ((P0.length : Nat) + 1 : Int)) s2 (by omega)
  obtain ⟨h, hh⟩ : ∃ h : Nat, dr ((P0.length : Nat) + 1 : Int) s2 = (h : Int) := ⟨(dr ((P0.length : Nat) + 1 : Int) s2).toNat, by omega⟩
  rw [hh] at d2
  have hX : ∀ x, 0 < x → (bS 0 (nx ((P0.length : Nat) + 1 : Int) s2) (V ++ newW w1 c ++ newW w2 c))[x]? = U[x]? := fun x hx => by
    rw [bS_ne (by omega), hU2, bS_ne (by omega)]
  generalize bS 0 (nx ((P0.length : Nat) + 1 : Int) s2) (V ++ newW w1 c ++ newW w2 c) = X at d2 hX
  have W1' : Wat X w1 (List.replicate c []) := W1.frame fun x hx _ => hX x (by omega)
  have W2' : Wat X w2 (List.replicate c []) := W2.frame fun x hx _ => hX x (by omega)
  have ix0 : ixD U (.lst [.lst (P0.map plc), .lst (P1.map plc)]) (.int 0) = some (.lst (P0.map plc)) := rfl
  have l0 : biD .len [.lst (P0.map plc)] U = some (.int (P0.length : Nat)) := by
    show some (D.int ((P0.map plc).length : Nat)) = _
    rw [List.length_map]
  have o2 : 0 + 1 + 1 ≤ PySem.sizeLine := by rw [PySem.sizeLine_eq]; decide
  have x1 : exec (C (k + 5)) T0 (.asg (.n 1) (.call i__law_bag false (.cons (.v 0) (.cons (.c (.int 0)) .nil)))) [some (.scr ns), none, none, none, none, none, none, none, none, none] [] = some (.nx [some (.scr ns), some (.ref 0), none, none, none, none, none, none, none, none] (bS 0 s [.lst []])) := by
    simp only [exec, evalE, evalEs, List.getElem?_cons_zero, bnd_ok, Cst.d, callP_f, hb, bnS_ok, asg_n, List.set_cons_succ, List.set_cons_zero]
  have x2 : exec (C (k + 5)) T0 (.asg (.n 2) (.bin .add false (.c (.int 1)) (.call i__law_draw false (.cons (.v 1) (.cons (.c (.int 6)) .nil))))) [some (.scr ns), some (.ref 0), none, none, none, none, none, none, none, none] (bS 0 s [.lst []]) = some (.nx [some (.scr ns), some (.ref 0), some (.int (c : Int)), none, none, none, none, none, none, none] (bS 0 (nx 6 s) [.lst []])) := by
    simp only [exec, evalE, evalEs, List.getElem?_cons_zero, List.getElem?_cons_succ, bnd_ok, Cst.d, callP_f, d1, binD_add, hc, bnS_ok, asg_n, List.set_cons_succ, List.set_cons_zero]
  have x3 : exec (C (k + 5)) T0 (.asg (.n 3) (.call i__law_run false (.cons (.v 1) (.cons (.v 2) (.cons (.c (.int 30)) .nil))))) [some (.scr ns), some (.ref 0), some (.int (c : Int)), none, none, none, none, none, none, none] (bS 0 (nx 6 s) [.lst []]) = some (.nx [some (.scr ns), some (.ref 0), some (.int (c : Int)), some (rnD rows), none, none, none, none, none, none] (bS 0 s2 V)) := by
    generalize rnD rows = rd at *
    simp only [exec, evalE, evalEs, List.getElem?_cons_zero, List.getElem?_cons_succ, bnd_ok, Cst.d, callP_f, hr, bnS_ok, asg_n, List.set_cons_succ, List.set_cons_zero]
  have x4 : exec (C (k + 5)) T0 (.asg (.n 4) (.mk 0 i_Watcher___init__ true (.cons (.v 2) .nil))) [some (.scr ns), some (.ref 0), some (.int (c : Int)), some (rnD rows), none, none, none, none, none, none] (bS 0 s2 V) = some (.nx [some (.scr ns), some (.ref 0), some (.int (c : Int)), some (rnD rows), some (.ref w1), none, none, none, none, none] (bS 0 s2 V ++ newW w1 c)) := by
    generalize rnD rows = rd at *
    simp only [exec, evalE, evalEs, List.getElem?_cons_zero, List.getElem?_cons_succ, bnd_ok, m1, bnS_ok, asg_n, List.set_cons_succ, List.set_cons_zero]
  have x5 : exec (C (k + 5)) T0 (.asg (.n 5) (.mk 0 i_Watcher___init__ true (.cons (.v 2) .nil))) [some (.scr ns), some (.ref 0), some (.int (c : Int)), some (rnD rows), some (.ref w1), none, none, none, none, none] (bS 0 s2 V ++ newW w1 c) = some (.nx [some (.scr ns), some (.ref 0), some (.int (c : Int)), some (rnD rows), some (.ref w1), some (.ref w2), none, none, none, none] U) := by
    generalize rnD rows = rd at *
    simp only [exec, evalE, evalEs, List.getElem?_cons_zero, List.getElem?_cons_succ, bnd_ok, m2, bnS_ok, asg_n, List.set_cons_succ, List.set_cons_zero]
  have x6 : exec (C (k + 5)) T0 (.asg (.n 6) (.lst false (.cons (.call i__law_turned true (.cons (.v 0) (.cons (.v 3) (.cons (.c (.int 0)) .nil)))) (.cons (.call i__law_turned true (.cons (.v 0) (.cons (.v 3) (.cons (.c (.int 17)) .nil)))) .nil)))) [some (.scr ns), some (.ref 0), some (.int (c : Int)), some (rnD rows), some (.ref w1), some (.ref w2), none, none, none, none] U = some (.nx [some (.scr ns), some (.ref 0), some (.int (c : Int)), some (rnD rows), some (.ref w1), some (.ref w2), some (.lst [.lst (P0.map plc), .lst (P1.map plc)]), none, none, none] U) := by
    generalize rnD rows = rd at *
    simp only [exec, evalE, evalEs, List.getElem?_cons_zero, List.getElem?_cons_succ, bnd_ok, Cst.d, t0, t1, List.length_cons, List.length_nil, o2, if_true, mkL_f, bnS_ok, asg_n, List.set_cons_succ, List.set_cons_zero]
  have x7 : exec (C (k + 5)) T0 (.asg (.n 7) (.call i__law_draw false (.cons (.v 1) (.cons (.bin .add false (.bi .len (.cons (.ix (.v 6) (.c (.int 0))) .nil)) (.c (.int 1))) .nil)))) [some (.scr ns), some (.ref 0), some (.int (c : Int)), some (rnD rows), some (.ref w1), some (.ref w2), some (.lst [.lst (P0.map plc), .lst (P1.map plc)]), none, none, none] U = some (.nx (zE ns c rows w1 w2 P0 P1 h none) X) := by
    unfold zE
    generalize rnD rows = rd at *
    simp only [exec, evalE, evalEs, List.getElem?_cons_zero, List.getElem?_cons_succ, bnd_ok, Cst.d, ix0, okO_some, l0, binD_add, callP_f, d2, bnS_ok, asg_n, List.set_cons_succ, List.set_cons_zero]
  obtain ⟨S', F1, F2, M, e8, y1, y2, f1, f2, n1, n2, hk⟩ := half_ok (ns := ns) (h := h) k hR hl lw W1' W2' p0 p1 q0 q1 (.cons (.ifs (.or (.not (.call i__law_fed false (.cons (.v 4) (.cons (.v 3) (.cons (.sl false (.ix (.v 6) (.c (.int 0))) (.so (.v 7)) .no) .nil))))) (.not (.call i__law_fed false (.cons (.v 5) (.cons (.v 3) (.cons (.ix (.v 6) (.c (.int 1))) .nil)))))) (.cons (.ret (.c (.bl false))) .nil) .nil) (.cons (.ret (.and (.cmp .eq (.mcl 0 i_Watcher_known "known" false (.v 4) .nil) (.v 3)) (.and (.cmp .eq (.mcl 0 i_Watcher_known "known" false (.v 5) .nil) (.v 3)) (.and (.cmp .eq (.mcl 0 i_Watcher_waiting "waiting" false (.v 4) .nil) (.lst false .nil)) (.cmp .eq (.mcl 0 i_Watcher_waiting "waiting" false (.v 5) .nil) (.lst false .nil)))))) .nil))
  obtain ⟨S'', e9⟩ := rest_ok (ns := ns) (h := h) (M := M) k hR hl lw y1 y2 f1 f2 n1 n2 hk p0 p1
  refine ⟨S'', ?_⟩
  unfold b_law
  rw [ex_go x1, ex_go x2, ex_go x3, ex_go x4, ex_go x5, ex_go x6, ex_go x7, e8, e9]
  rfl
end Lk
theorem PySem.Challenge.cw_cutpapers_k51_whole_any_order_holds : PySem.Challenge.rw_cutpapers_k51_whole_any_order.Holds := by
  exact Lk.holds_of (k := 6) (by decide) fun ns hl _ => Lk.law_ok 0 ns
