import PyProof.Rows.All
import Wide.All
import OpenK.AllK
import Wide.FinOn
import HandS.ForMost
import HandS.ForExc
import HandS.Deep
import HandS.Flow
import KE.SortData
import HandS.Wide
import HandS.TupAny
import HandS.TupLe
import HandS.Text
import KE.DataEq
import KE.DataCmp
import PyProof.Rows.ListMulArg
import HandS.Set
import HandS.SetKeys
import HandS.SetBool
import HandS.Strs
import HandS.SetFor
import PyProof.FactsAll.subtypes_3
import PyProof.FactsAll.subtypes_4
import PyProof.StrWalks
import HandS.TupSets
import PyProof.ListRange
import PyProof.RangeFor
import KE.DataFind
import HandS.Style
import HandS.Dict
import HandS.IsInst
import KE.DataIsa
import PyProof.ReprRoads
import PyProof.ListStr
import HandS.More
import HandS.Iter
import HandS.Zip
import PyProof.Rows.StrIntSpec
import HandS.FStr
import HandS.DictComp
import HandS.Words
import HandS.WideMore
import HandS.Exc
import HandS.ExcOwn
import HandS.WordsExc
import HandS.Ends
import HandS.Codes
import PySem.Challenge.RW_filterdrag_k12_tables
set_option Elab.async false
set_option linter.all false
set_option maxRecDepth 100000
/-! Mini, part a: values, cells, how they lie in the hand layer's abstract heap; readings. -/
namespace Mini
open PySem PySem.Spec PyProof.Rows L2

/-- a value: plain data (never changed any more), a cell that may change, a tuple that holds cells -/
inductive D where
  | p (d : PyData)
  | ref (m : Nat)
  | tr (ds : List D)
inductive Cell where
  | lst (xs : List D)
  | dct (kds : List (Key × D))
  | dead
/-- the kinds of cells -/
inductive Sh where
  | lst
  | dct (ks : List Key)
def Sh.ho : Sh → List V → HO
  | .lst, vs => .lst vs
  | .dct ks, vs => .dK (ks.zip vs)
def Cell.view : Cell → Option (Sh × List D)
  | .lst xs => some (.lst, xs)
  | .dct kds => some (.dct (kds.map (·.1)), kds.map (·.2))
  | .dead => none
/-- what a cell holds -/
def Cell.vals : Cell → List D
  | .lst xs => xs
  | .dct kds => kds.map (·.2)
  | .dead => []
abbrev Mem := List Cell
/-- the locals by slot -/
abbrev Lo := List (Option D)

def live (M : Mem) (m : Nat) : Prop := ∃ c, M[m]? = some c ∧ c ≠ .dead
/-- where the cells lie; the lists that comprehensions around are filling -/
structure Rho where
  c : List Addr
  z : List (Addr × List V)
open Classical in
/-- what is frozen: the abstract heap without the live cells and the lists that are being filled -/
noncomputable def hd (ρ : Rho) (M : Mem) (H : Hp) : Hp := fun a => if (∃ m, ρ.c[m]? = some a ∧ live M m) ∨ ∃ vs, (a, vs) ∈ ρ.z then none else H a

mutual
def RelD (K : PySem.W.Frag) (G : Hp) (ρ : Rho) : D → V → Prop
  | .p d, v => Dp K G v d
  | .ref m, v => ∃ a, ρ.c[m]? = some a ∧ v = .ref a
  | .tr ds, v => ∃ a vs, v = .ref a ∧ SqT K G a vs ∧ RelDs K G ρ ds vs
def RelDs (K : PySem.W.Frag) (G : Hp) (ρ : Rho) : List D → List V → Prop
  | [], vs => vs = []
  | d :: ds, vs => ∃ v r, vs = v :: r ∧ RelD K G ρ d v ∧ RelDs K G ρ ds r
end

section mono
variable {K : PySem.W.Frag} {G G' : Hp} {ρ ρ' : Rho}
/-- more is frozen, the cells stand where they stood -/
structure Lw (G G' : Hp) (ρ ρ' : Rho) : Prop where
  g : ∀ (a : Addr) (o : HO), G a = some o → G' a = some o
  r : ∀ (m : Nat) (a : Addr), ρ.c[m]? = some a → ρ'.c[m]? = some a
theorem Lw.trans {G G1 G2 : Hp} {ρ ρ1 ρ2 : Rho} (a : Lw G G1 ρ ρ1) (b : Lw G1 G2 ρ1 ρ2) : Lw G G2 ρ ρ2 :=
  ⟨fun x o e => b.g x o (a.g x o e), fun m x e => b.r m x (a.r m x e)⟩
theorem Lw.refl (G : Hp) (ρ : Rho) : Lw G G ρ ρ := ⟨fun _ _ e => e, fun _ _ e => e⟩
structure Le (G G' : Hp) (ρ ρ' : Rho) : Prop where
  g : ∀ (a : Addr) (o : HO), G a = some o → G' a = some o
  r : ∀ (m : Nat) (a : Addr), ρ.c[m]? = some a → ρ'.c[m]? = some a
  z : ρ'.z = ρ.z
theorem Le.w {G G' : Hp} {ρ ρ' : Rho} (h : Le G G' ρ ρ') : Lw G G' ρ ρ' := ⟨h.g, h.r⟩
theorem Le.refl (G : Hp) (ρ : Rho) : Le G G ρ ρ := ⟨fun _ _ e => e, fun _ _ e => e, rfl⟩
theorem Le.trans {G G1 G2 : Hp} {ρ ρ1 ρ2 : Rho} (a : Le G G1 ρ ρ1) (b : Le G1 G2 ρ1 ρ2) : Le G G2 ρ ρ2 :=
  ⟨fun x o e => b.g x o (a.g x o e), fun m x e => b.r m x (a.r m x e), b.z.trans a.z⟩
theorem rd_mono (h : ∀ a o, G a = some o → G' a = some o) {a : Addr} {u : HO} (r : Rd G a u) : Rd G' a u := by
  rcases r with r | ⟨o, r⟩
  · exact .inl (h _ _ r)
  · exact .inr ⟨o, h _ _ r⟩
theorem sqL_mono (h : ∀ a o, G a = some o → G' a = some o) {a : Addr} {xs : List V} (s : SqL K G a xs) : SqL K G' a xs := by
  rcases s with r | r
  · exact .inl (rd_mono h r)
  · exact .inr r
theorem sqT_mono (h : ∀ a o, G a = some o → G' a = some o) {a : Addr} {xs : List V} (s : SqT K G a xs) : SqT K G' a xs := by
  rcases s with r | r
  · exact .inl (rd_mono h r)
  · exact .inr r
mutual
theorem dp_mono (h : ∀ a o, G a = some o → G' a = some o) : ∀ {v : V} {d : PyData}, Dp K G v d → Dp K G' v d
  | _, _, .non => .non
  | _, _, .bl b => .bl b
  | _, _, .int i => .int i
  | _, _, .str x => .str x
  | _, _, .lst s a => .lst (sqL_mono h s) (dpAll_mono h a)
  | _, _, .tup s a => .tup (sqT_mono h s) (dpAll_mono h a)
theorem dpAll_mono (h : ∀ a o, G a = some o → G' a = some o) : ∀ {vs : List V} {ds : List PyData}, DpAll K G vs ds → DpAll K G' vs ds
  | _, _, .nil => .nil
  | _, _, .cons a b => .cons (dp_mono h a) (dpAll_mono h b)
end
mutual
theorem RelD.monoW (h : Lw G G' ρ ρ') : ∀ {d : D} {v : V}, RelD K G ρ d v → RelD K G' ρ' d v
  | .p d, v, r => by unfold RelD at r ⊢; exact dp_mono h.g r
  | .ref m, v, r => by
    unfold RelD at r ⊢
    obtain ⟨a, e, q⟩ := r
    exact ⟨a, h.r _ _ e, q⟩
  | .tr ds, v, r => by
    unfold RelD at r ⊢
    obtain ⟨a, vs, e, s, q⟩ := r
    exact ⟨a, vs, e, sqT_mono h.g s, RelDs.monoW h q⟩
theorem RelDs.monoW (h : Lw G G' ρ ρ') : ∀ {ds : List D} {vs : List V}, RelDs K G ρ ds vs → RelDs K G' ρ' ds vs
  | [], vs, r => by unfold RelDs at r ⊢; exact r
  | d :: ds, vs, r => by
    unfold RelDs at r ⊢
    obtain ⟨v, q, e, a, b⟩ := r
    exact ⟨v, q, e, RelD.monoW h a, RelDs.monoW h b⟩
end
theorem RelD.mono (h : Le G G' ρ ρ') {d : D} {v : V} (r : RelD K G ρ d v) : RelD K G' ρ' d v := r.monoW h.w
theorem RelDs.mono (h : Le G G' ρ ρ') {ds : List D} {vs : List V} (r : RelDs K G ρ ds vs) : RelDs K G' ρ' ds vs := r.monoW h.w
mutual
theorem RelD.rho (h : ρ'.c = ρ.c) : ∀ {d : D} {v : V}, RelD K G ρ d v → RelD K G ρ' d v
  | .p d, v, r => by unfold RelD at r ⊢; exact r
  | .ref m, v, r => by
    unfold RelD at r ⊢
    obtain ⟨a, e, q⟩ := r
    exact ⟨a, by rw [h]; exact e, q⟩
  | .tr ds, v, r => by
    unfold RelD at r ⊢
    obtain ⟨a, vs, e, s, q⟩ := r
    exact ⟨a, vs, e, s, RelDs.rho h q⟩
theorem RelDs.rho (h : ρ'.c = ρ.c) : ∀ {ds : List D} {vs : List V}, RelDs K G ρ ds vs → RelDs K G ρ' ds vs
  | [], vs, r => by unfold RelDs at r ⊢; exact r
  | d :: ds, vs, r => by
    unfold RelDs at r ⊢
    obtain ⟨v, q, e, a, b⟩ := r
    exact ⟨v, q, e, RelD.rho h a, RelDs.rho h b⟩
end
theorem RelDs.nil : RelDs K G ρ [] [] := by unfold RelDs; rfl
theorem RelDs.cons {d : D} {v : V} {ds : List D} {vs : List V} (a : RelD K G ρ d v) (b : RelDs K G ρ ds vs) : RelDs K G ρ (d :: ds) (v :: vs) := by
  unfold RelDs; exact ⟨v, vs, rfl, a, b⟩
theorem RelDs.inv {d : D} {ds : List D} {vs : List V} (r : RelDs K G ρ (d :: ds) vs) : ∃ v w, vs = v :: w ∧ RelD K G ρ d v ∧ RelDs K G ρ ds w := by
  unfold RelDs at r; exact r
theorem RelDs.length : ∀ {ds : List D} {vs : List V}, RelDs K G ρ ds vs → ds.length = vs.length
  | [], vs, r => by unfold RelDs at r; rw [r]; rfl
  | d :: ds, vs, r => by
    obtain ⟨v, w, e, a, b⟩ := r.inv
    rw [e, List.length_cons, List.length_cons, RelDs.length b]
theorem RelDs.append : ∀ {ds es : List D} {vs ws : List V}, RelDs K G ρ ds vs → RelDs K G ρ es ws → RelDs K G ρ (ds ++ es) (vs ++ ws)
  | [], es, vs, ws, r, q => by unfold RelDs at r; rw [r]; exact q
  | d :: ds, es, vs, ws, r, q => by
    obtain ⟨v, w, e, a, b⟩ := r.inv
    rw [e]
    exact RelDs.cons a (RelDs.append b q)
theorem RelDs.get : ∀ {ds : List D} {vs : List V} {i : Nat} {d : D}, RelDs K G ρ ds vs → ds[i]? = some d → ∃ v, vs[i]? = some v ∧ RelD K G ρ d v
  | [], vs, i, d, r, e => by simp at e
  | d :: ds, vs, 0, d', r, e => by
    obtain ⟨v, w, q, a, b⟩ := r.inv
    have z : d = d' := by simpa using e
    rw [q, ← z]
    exact ⟨v, rfl, a⟩
  | d :: ds, vs, i + 1, d', r, e => by
    obtain ⟨v, w, q, a, b⟩ := r.inv
    obtain ⟨x, h1, h2⟩ := RelDs.get b (i := i) (d := d') (by simpa using e)
    rw [q]
    exact ⟨x, by simpa using h1, h2⟩
theorem RelDs.getV : ∀ {ds : List D} {vs : List V} {i : Nat} {v : V}, RelDs K G ρ ds vs → vs[i]? = some v → ∃ d, ds[i]? = some d ∧ RelD K G ρ d v
  | [], vs, i, v, r, e => by unfold RelDs at r; rw [r] at e; simp at e
  | d :: ds, vs, 0, v', r, e => by
    obtain ⟨v, w, q, a, b⟩ := r.inv
    rw [q] at e
    have z : v = v' := by simpa using e
    rw [← z]
    exact ⟨d, rfl, a⟩
  | d :: ds, vs, i + 1, v', r, e => by
    obtain ⟨v, w, q, a, b⟩ := r.inv
    rw [q] at e
    obtain ⟨x, h1, h2⟩ := RelDs.getV b (i := i) (v := v') (by simpa using e)
    exact ⟨x, by simpa using h1, h2⟩
theorem RelDs.set {d : D} {v : V} (a : RelD K G ρ d v) : ∀ {ds : List D} {vs : List V} (i : Nat), RelDs K G ρ ds vs → RelDs K G ρ (ds.set i d) (vs.set i v)
  | [], vs, i, r => by unfold RelDs at r; rw [r]; exact RelDs.nil
  | d' :: ds, vs, 0, r => by
    obtain ⟨v, w, q, b, c⟩ := r.inv
    rw [q]
    exact RelDs.cons a c
  | d' :: ds, vs, i + 1, r => by
    obtain ⟨v, w, q, b, c⟩ := r.inv
    rw [q]
    exact RelDs.cons b (RelDs.set a i c)
theorem RelDs.take : ∀ {ds : List D} {vs : List V} (i : Nat), RelDs K G ρ ds vs → RelDs K G ρ (ds.take i) (vs.take i)
  | [], vs, i, r => by unfold RelDs at r; rw [r, List.take_nil, List.take_nil]; exact RelDs.nil
  | d' :: ds, vs, 0, r => RelDs.nil
  | d' :: ds, vs, i + 1, r => by
    obtain ⟨v, w, q, b, c⟩ := r.inv
    rw [q]
    exact RelDs.cons b (RelDs.take i c)
theorem RelDs.drop : ∀ {ds : List D} {vs : List V} (i : Nat), RelDs K G ρ ds vs → RelDs K G ρ (ds.drop i) (vs.drop i)
  | [], vs, i, r => by unfold RelDs at r; rw [r, List.drop_nil, List.drop_nil]; exact RelDs.nil
  | d' :: ds, vs, 0, r => r
  | d' :: ds, vs, i + 1, r => by
    obtain ⟨v, w, q, b, c⟩ := r.inv
    rw [q]
    exact RelDs.drop i c
theorem RelDs.reverse : ∀ {ds : List D} {vs : List V}, RelDs K G ρ ds vs → RelDs K G ρ ds.reverse vs.reverse
  | [], vs, r => by unfold RelDs at r; rw [r]; exact RelDs.nil
  | d' :: ds, vs, r => by
    obtain ⟨v, w, q, b, c⟩ := r.inv
    rw [q, List.reverse_cons, List.reverse_cons]
    exact RelDs.append (RelDs.reverse c) (RelDs.cons b RelDs.nil)
theorem relDs_p : ∀ {ds : List PyData} {vs : List V}, RelDs K G ρ (ds.map .p) vs ↔ DpAll K G vs ds
  | [], vs => by
    constructor
    · intro r; simp only [List.map_nil] at r; unfold RelDs at r; rw [r]; exact .nil
    · intro r; cases r; exact RelDs.nil
  | d :: ds, vs => by
    constructor
    · intro r
      obtain ⟨v, w, q, b, c⟩ := RelDs.inv r
      rw [q]
      unfold RelD at b
      exact .cons b (relDs_p.mp c)
    · intro r
      cases r with
      | cons a b => exact RelDs.cons (by unfold RelD; exact a) (relDs_p.mpr b)
theorem dpAll_get {ds : List PyData} {vs : List V} {i : Nat} {v : V} (r : DpAll K G vs ds) (e : vs[i]? = some v) : ∃ d, ds[i]? = some d ∧ Dp K G v d := by
  obtain ⟨x, h1, h2⟩ := RelDs.getV (ρ := ⟨[], []⟩) (relDs_p.mpr r) e
  rw [List.getElem?_map] at h1
  cases q : ds[i]? with
  | none => rw [q] at h1; cases h1
  | some y => rw [q] at h1; cases h1; unfold RelD at h2; exact ⟨y, rfl, h2⟩
theorem dpAll_length {ds : List PyData} {vs : List V} (r : DpAll K G vs ds) : ds.length = vs.length := by
  have := RelDs.length (ρ := ⟨[], []⟩) (relDs_p.mpr r)
  simpa using this
end mono

/-! ### the cells -/
def CellOk (K : PySem.W.Frag) (G : Hp) (ρ : Rho) (H : Hp) (a : Addr) (c : Cell) : Prop := match c.view with
  | some (sh, xs) => ∃ vs, H a = some (sh.ho vs) ∧ RelDs K G ρ xs vs
  | none => True
structure MemOk (K : PySem.W.Frag) (ρ : Rho) (M : Mem) (H : Hp) : Prop where
  len : ρ.c.length = M.length
  inj : ∀ (i j : Nat) (a : Addr), ρ.c[i]? = some a → ρ.c[j]? = some a → live M i → live M j → i = j
  cell : ∀ (i : Nat) (c : Cell) (a : Addr), M[i]? = some c → ρ.c[i]? = some a → CellOk K (hd ρ M H) ρ H a c
  zin : ∀ (a : Addr) (vs : List V), (a, vs) ∈ ρ.z → H a = some (.lst vs)
  zoff : ∀ (m : Nat) (a : Addr) (vs : List V), ρ.c[m]? = some a → live M m → (a, vs) ∉ ρ.z
theorem CellOk.mono {K : PySem.W.Frag} {G G' H H' : Hp} {ρ ρ' : Rho} {a : Addr} {c : Cell} (h : Le G G' ρ ρ') (hs : H a = H' a) (x : CellOk K G ρ H a c) : CellOk K G' ρ' H' a c := by
  cases c with
  | lst xs => obtain ⟨vs, e, r⟩ := x; exact ⟨vs, hs ▸ e, r.mono h⟩
  | dct kds => obtain ⟨vs, e, r⟩ := x; exact ⟨vs, hs ▸ e, r.mono h⟩
  | dead => trivial
theorem CellOk.monoW {K : PySem.W.Frag} {G G' H H' : Hp} {ρ ρ' : Rho} {a : Addr} {c : Cell} (h : Lw G G' ρ ρ') (hs : H' a = H a) (x : CellOk K G ρ H a c) : CellOk K G' ρ' H' a c := by
  cases c with
  | lst xs => obtain ⟨vs, e, r⟩ := x; exact ⟨vs, hs.trans e, r.monoW h⟩
  | dct kds => obtain ⟨vs, e, r⟩ := x; exact ⟨vs, hs.trans e, r.monoW h⟩
  | dead => trivial
section mem
variable {K : PySem.W.Frag} {ρ : Rho} {M : Mem} {H : Hp}
/-- hidden -/
def Hid (ρ : Rho) (M : Mem) (a : Addr) : Prop := (∃ m, ρ.c[m]? = some a ∧ live M m) ∨ ∃ vs, (a, vs) ∈ ρ.z
theorem hd_some {a : Addr} {o : HO} (h : hd ρ M H a = some o) : H a = some o := by
  unfold hd at h
  split at h
  · cases h
  · exact h
theorem hd_none {a : Addr} (h : H a = none) : hd ρ M H a = none := by
  unfold hd
  split
  · rfl
  · exact h
theorem hd_off {a : Addr} (h : ¬ Hid ρ M a) : hd ρ M H a = H a := by
  unfold hd
  exact if_neg h
theorem hd_on {a : Addr} (h : Hid ρ M a) : hd ρ M H a = none := by
  unfold hd
  exact if_pos h
theorem hd_not {a : Addr} {o : HO} (h : hd ρ M H a = some o) : ¬ Hid ρ M a := fun z => by rw [hd_on z] at h; cases h
theorem MemOk.at (X : MemOk K ρ M H) {m : Nat} {xs : List D} (e : M[m]? = some (.lst xs)) : ∃ a vs, ρ.c[m]? = some a ∧ H a = some (.lst vs) ∧ RelDs K (hd ρ M H) ρ xs vs := by
  have hm : m < M.length := (List.getElem?_eq_some_iff.mp e).1
  have hr : m < ρ.c.length := by rw [X.len]; exact hm
  obtain ⟨vs, h1, h2⟩ := X.cell m _ _ e (List.getElem?_eq_getElem hr)
  exact ⟨_, vs, List.getElem?_eq_getElem hr, h1, h2⟩
theorem MemOk.liveSome (X : MemOk K ρ M H) {m : Nat} {a : Addr} (hl : live M m) (e : ρ.c[m]? = some a) : ∃ o, H a = some o := by
  obtain ⟨c, hc, hn⟩ := hl
  have q := X.cell m c a hc e
  cases c with
  | lst xs => obtain ⟨vs, h, _⟩ := q; exact ⟨_, h⟩
  | dct kds => obtain ⟨vs, h, _⟩ := q; exact ⟨_, h⟩
  | dead => exact absurd rfl hn
theorem MemOk.hidSome (X : MemOk K ρ M H) {a : Addr} (h : Hid ρ M a) : ∃ o, H a = some o := by
  rcases h with ⟨m, e, hl⟩ | ⟨vs, hz⟩
  · exact X.liveSome hl e
  · exact ⟨_, X.zin a vs hz⟩
theorem MemOk.off (X : MemOk K ρ M H) {p : Addr} (hp : H p = none) : ¬ Hid ρ M p := fun h => by
  obtain ⟨o, e⟩ := X.hidSome h
  rw [hp] at e; cases e
theorem MemOk.zne (X : MemOk K ρ M H) {p a : Addr} {vs : List V} (hp : H p = none) (h : (a, vs) ∈ ρ.z) : a ≠ p := fun z => by
  subst z
  rw [X.zin _ _ h] at hp; cases hp
/-- a new frozen object -/
theorem MemOk.frozen (X : MemOk K ρ M H) {p : Addr} {o : HO} (hp : H p = none) : MemOk K ρ M (upd H p o) ∧ Le (hd ρ M H) (hd ρ M (upd H p o)) ρ ρ ∧ hd ρ M (upd H p o) p = some o := by
  have off := X.off hp
  have le : Le (hd ρ M H) (hd ρ M (upd H p o)) ρ ρ := ⟨fun a u e => by
    by_cases ha : a = p
    · subst ha
      rw [hd_none hp] at e; cases e
    · unfold hd at e ⊢
      rw [upd_ne ha]
      exact e, fun _ _ e => e, rfl⟩
  refine ⟨⟨X.len, X.inj, fun i c a h1 h2 => ?_, fun a vs h => by rw [upd_ne (X.zne hp h)]; exact X.zin a vs h, X.zoff⟩, le, by rw [hd_off off, upd_same]⟩
  have q := X.cell i c a h1 h2
  by_cases hc : c = .dead
  · rw [hc]; trivial
  · have ha : a ≠ p := fun z => by
      subst z
      exact off (.inl ⟨i, h2, _, h1, hc⟩)
    exact q.mono le (upd_ne ha).symm
theorem live_append {c : Cell} {m : Nat} (hc : c ≠ .dead) : live (M ++ [c]) m ↔ live M m ∨ m = M.length := by
  constructor
  · rintro ⟨c', h, hn⟩
    rcases Nat.lt_trichotomy m M.length with h1 | h1 | h1
    · rw [List.getElem?_append_left h1] at h
      exact .inl ⟨c', h, hn⟩
    · exact .inr h1
    · rw [List.getElem?_eq_none (by simp; omega)] at h
      cases h
  · rintro (⟨c', h, hn⟩ | rfl)
    · have h1 : m < M.length := (List.getElem?_eq_some_iff.mp h).1
      exact ⟨c', by rw [List.getElem?_append_left h1]; exact h, hn⟩
    · exact ⟨c, by simp, hc⟩
/-- a new cell, at p, whatever z keeps without p -/
theorem MemOk.cellAtG (X : MemOk K ρ M H) {p : Addr} {cc : Cell} {H' : Hp} {z' : List (Addr × List V)} (off : ¬ ∃ m, ρ.c[m]? = some p ∧ live M m) (hz : ∀ a us, (a, us) ∈ z' ↔ (a, us) ∈ ρ.z ∧ a ≠ p) (hH : ∀ a, a ≠ p → H' a = H a) (nd : cc ≠ .dead) (hpn : hd ρ M H p = none) (hcc : CellOk K (hd ρ M H) ρ H' p cc) :
    MemOk K ⟨ρ.c ++ [p], z'⟩ (M ++ [cc]) H' ∧ (∀ a o, hd ρ M H a = some o → hd ⟨ρ.c ++ [p], z'⟩ (M ++ [cc]) H' a = some o) ∧ (∀ (m : Nat) (a : Addr), ρ.c[m]? = some a → (ρ.c ++ [p])[m]? = some a) := by
  have len := X.len
  have rl : ∀ (m : Nat) (a : Addr), ρ.c[m]? = some a → (ρ.c ++ [p])[m]? = some a := fun m a e => by
    have h1 : m < ρ.c.length := (List.getElem?_eq_some_iff.mp e).1
    rw [List.getElem?_append_left h1]; exact e
  have up : ∀ (k : Nat) (a : Addr), (ρ.c ++ [p])[k]? = some a → live (M ++ [cc]) k → (ρ.c[k]? = some a ∧ live M k) ∨ (k = M.length ∧ a = p) := fun k a e l => by
    rcases (live_append nd).mp l with hl | rfl
    · have h1 : k < ρ.c.length := by
        obtain ⟨c, h, _⟩ := hl
        rw [len]; exact (List.getElem?_eq_some_iff.mp h).1
      rw [List.getElem?_append_left h1] at e
      exact .inl ⟨e, hl⟩
    · rw [← len] at e
      simp at e
      exact .inr ⟨rfl, e.symm⟩
  have g : ∀ a o, hd ρ M H a = some o → hd ⟨ρ.c ++ [p], z'⟩ (M ++ [cc]) H' a = some o := fun a o e => by
    have hn := hd_not e
    have ha : a ≠ p := fun z => by subst z; rw [hpn] at e; cases e
    rw [hd_off (ρ := ⟨ρ.c ++ [p], z'⟩) (fun h => by
      rcases h with ⟨m, h1, h2⟩ | ⟨us, h1⟩
      · rcases up m a h1 h2 with h3 | ⟨_, h3⟩
        · exact hn (.inl ⟨m, h3⟩)
        · exact ha h3
      · exact hn (.inr ⟨us, ((hz a us).mp h1).1⟩)), hH a ha]
    exact hd_some e
  have rel : ∀ {ds : List D} {us : List V}, RelDs K (hd ρ M H) ρ ds us → RelDs K (hd ⟨ρ.c ++ [p], z'⟩ (M ++ [cc]) H') ⟨ρ.c ++ [p], z'⟩ ds us := fun {ds us} q => by
    have q' : RelDs K (hd ρ M H) ⟨ρ.c, z'⟩ ds us := RelDs.rho (by rfl) q
    exact RelDs.mono (ρ := ⟨ρ.c, z'⟩) (ρ' := ⟨ρ.c ++ [p], z'⟩) ⟨g, rl, rfl⟩ q'
  have relC : ∀ {H0 : Hp} {a : Addr} {c : Cell}, H' a = H0 a → CellOk K (hd ρ M H) ρ H0 a c → CellOk K (hd ⟨ρ.c ++ [p], z'⟩ (M ++ [cc]) H') ⟨ρ.c ++ [p], z'⟩ H' a c := fun {H0 a c} e q => by
    cases c with
    | dead => trivial
    | lst ys => obtain ⟨us, e1, e2⟩ := q; exact ⟨us, e.trans e1, rel e2⟩
    | dct kds => obtain ⟨us, e1, e2⟩ := q; exact ⟨us, e.trans e1, rel e2⟩
  refine ⟨⟨by show (ρ.c ++ [p]).length = _; rw [List.length_append, List.length_append, len]; rfl, fun i j a h1 h2 l1 l2 => ?_, fun i c a h1 h2 => ?_, fun a us h => ?_, fun m a us h1 h2 h3 => ?_⟩, g, rl⟩
  · rcases up i a h1 l1 with ⟨e1, k1⟩ | ⟨e1, k1⟩
    · rcases up j a h2 l2 with ⟨e2, k2⟩ | ⟨e2, k2⟩
      · exact X.inj i j a e1 e2 k1 k2
      · subst k2; exact absurd ⟨i, e1, k1⟩ off
    · rcases up j a h2 l2 with ⟨e2, k2⟩ | ⟨e2, k2⟩
      · subst k1; exact absurd ⟨j, e2, k2⟩ off
      · rw [e1, e2]
  · rcases Nat.lt_trichotomy i M.length with h | h | h
    · rw [List.getElem?_append_left h] at h1
      replace h2 : (ρ.c ++ [p])[i]? = some a := h2
      rw [List.getElem?_append_left (by rw [len]; exact h)] at h2
      have q := X.cell i c a h1 h2
      by_cases hc : c = .dead
      · rw [hc]; trivial
      · have ha : a ≠ p := fun z => by
          subst z
          exact off ⟨i, h2, _, h1, hc⟩
        exact relC (hH a ha) q
    · subst h
      have e1 : c = cc := by simpa using h1.symm
      have e2 : a = p := by
        have h2 : (ρ.c ++ [p])[M.length]? = some a := h2
        rw [← len] at h2
        simpa using h2.symm
      subst e1; subst e2
      exact relC rfl hcc
    · rw [List.getElem?_eq_none (by simp; omega)] at h1
      cases h1
  · obtain ⟨h1, h2⟩ := (hz a us).mp h
    rw [hH a h2]
    exact X.zin a us h1
  · obtain ⟨h4, h5⟩ := (hz a us).mp h3
    rcases up m a h1 h2 with ⟨e1, k1⟩ | ⟨_, e1⟩
    · exact X.zoff m a us e1 k1 h4
    · exact h5 e1
theorem MemOk.cellAt (X : MemOk K ρ M H) {p : Addr} {xs : List D} {vs : List V} {H' : Hp} {z' : List (Addr × List V)} (off : ¬ ∃ m, ρ.c[m]? = some p ∧ live M m) (hz : ∀ a us, (a, us) ∈ z' ↔ (a, us) ∈ ρ.z ∧ a ≠ p) (hH : ∀ a, a ≠ p → H' a = H a) (hp' : H' p = some (.lst vs)) (hpn : hd ρ M H p = none) (r : RelDs K (hd ρ M H) ρ xs vs) :
    MemOk K ⟨ρ.c ++ [p], z'⟩ (M ++ [.lst xs]) H' ∧ (∀ a o, hd ρ M H a = some o → hd ⟨ρ.c ++ [p], z'⟩ (M ++ [.lst xs]) H' a = some o) ∧ (∀ (m : Nat) (a : Addr), ρ.c[m]? = some a → (ρ.c ++ [p])[m]? = some a) :=
  X.cellAtG (cc := .lst xs) off hz hH (by intro z; cases z) hpn ⟨vs, hp', r⟩
/-- a new cell -/
theorem MemOk.newLst (X : MemOk K ρ M H) {p : Addr} {xs : List D} {vs : List V} (hp : H p = none) (r : RelDs K (hd ρ M H) ρ xs vs) :
    MemOk K ⟨ρ.c ++ [p], ρ.z⟩ (M ++ [.lst xs]) (upd H p (.lst vs)) ∧ Le (hd ρ M H) (hd ⟨ρ.c ++ [p], ρ.z⟩ (M ++ [.lst xs]) (upd H p (.lst vs))) ρ ⟨ρ.c ++ [p], ρ.z⟩ := by
  obtain ⟨x, g, rl⟩ := X.cellAt (H' := upd H p (.lst vs)) (z' := ρ.z) (fun h => X.off hp (.inl h)) (fun a us => ⟨fun h => ⟨h, X.zne hp h⟩, fun h => h.1⟩) (fun a ha => upd_ne ha) upd_same (hd_none hp) r
  exact ⟨x, g, rl, rfl⟩
theorem MemOk.newDct (X : MemOk K ρ M H) {p : Addr} {kds : List (Key × D)} {vs : List V} (hp : H p = none) (r : RelDs K (hd ρ M H) ρ (kds.map (·.2)) vs) :
    MemOk K ⟨ρ.c ++ [p], ρ.z⟩ (M ++ [.dct kds]) (upd H p (.dK ((kds.map (·.1)).zip vs))) ∧ Le (hd ρ M H) (hd ⟨ρ.c ++ [p], ρ.z⟩ (M ++ [.dct kds]) (upd H p (.dK ((kds.map (·.1)).zip vs)))) ρ ⟨ρ.c ++ [p], ρ.z⟩ := by
  obtain ⟨x, g, rl⟩ := X.cellAtG (cc := .dct kds) (H' := upd H p (.dK ((kds.map (·.1)).zip vs))) (z' := ρ.z) (fun h => X.off hp (.inl h)) (fun a us => ⟨fun h => ⟨h, X.zne hp h⟩, fun h => h.1⟩) (fun a ha => upd_ne ha) (by intro z; cases z) (hd_none hp) ⟨vs, upd_same, r⟩
  exact ⟨x, g, rl, rfl⟩
/-- a cell is written -/
theorem MemOk.setG (X : MemOk K ρ M H) {m : Nat} {a : Addr} {c0 cc : Cell} {o : HO} (e : M[m]? = some c0) (n0 : c0 ≠ .dead) (nd : cc ≠ .dead) (ha : ρ.c[m]? = some a) (r : CellOk K (hd ρ M H) ρ (upd H a o) a cc) :
    MemOk K ρ (M.set m cc) (upd H a o) ∧ Le (hd ρ M H) (hd ρ (M.set m cc) (upd H a o)) ρ ρ := by
  have hm : m < M.length := (List.getElem?_eq_some_iff.mp e).1
  have iff : ∀ k, live (M.set m cc) k ↔ live M k := fun k => by
    by_cases hk : m = k
    · subst hk
      exact ⟨fun _ => ⟨_, e, n0⟩, fun _ => ⟨cc, by rw [List.getElem?_set_self hm], nd⟩⟩
    · unfold live
      rw [List.getElem?_set_ne hk]
  have lv : live M m := ⟨_, e, n0⟩
  have on : Hid ρ M a := .inl ⟨m, ha, lv⟩
  have hid : ∀ b, Hid ρ (M.set m cc) b → Hid ρ M b := fun b h => by
    rcases h with ⟨k, k1, k2⟩ | h
    · exact .inl ⟨k, k1, (iff k).mp k2⟩
    · exact .inr h
  have le : Le (hd ρ M H) (hd ρ (M.set m cc) (upd H a o)) ρ ρ := ⟨fun b u q => by
    have hn := hd_not q
    have hb : b ≠ a := fun z => by subst z; exact hn on
    rw [hd_off (fun h => hn (hid b h)), upd_ne hb]
    exact hd_some q, fun _ _ q => q, rfl⟩
  refine ⟨⟨by rw [X.len, List.length_set], fun i j b h1 h2 l1 l2 => X.inj i j b h1 h2 ((iff i).mp l1) ((iff j).mp l2), fun i c b h1 h2 => ?_, fun b us h => ?_, fun i b us h1 h2 => X.zoff i b us h1 ((iff i).mp h2)⟩, le⟩
  · by_cases hi : m = i
    · subst hi
      rw [List.getElem?_set_self hm] at h1
      rw [ha] at h2
      cases h1; cases h2
      exact r.mono le rfl
    · rw [List.getElem?_set_ne hi] at h1
      have q := X.cell i c b h1 h2
      by_cases hc : c = .dead
      · rw [hc]; trivial
      · have hb : b ≠ a := fun z => by
          subst z
          exact hi (X.inj m i b ha h2 lv ⟨_, h1, hc⟩)
        exact q.mono le (upd_ne hb).symm
  · have hb : b ≠ a := fun z => by subst z; exact X.zoff m b us ha lv h
    rw [upd_ne hb]
    exact X.zin b us h
theorem MemOk.setLst (X : MemOk K ρ M H) {m : Nat} {a : Addr} {ys xs : List D} {vs : List V} (e : M[m]? = some (.lst ys)) (ha : ρ.c[m]? = some a) (r : RelDs K (hd ρ M H) ρ xs vs) :
    MemOk K ρ (M.set m (.lst xs)) (upd H a (.lst vs)) ∧ Le (hd ρ M H) (hd ρ (M.set m (.lst xs)) (upd H a (.lst vs))) ρ ρ :=
  X.setG (cc := .lst xs) e (by intro z; cases z) (by intro z; cases z) ha ⟨vs, upd_same, r⟩
theorem MemOk.setDct (X : MemOk K ρ M H) {m : Nat} {a : Addr} {ks kds : List (Key × D)} {vs : List V} (e : M[m]? = some (.dct ks)) (ha : ρ.c[m]? = some a) (r : RelDs K (hd ρ M H) ρ (kds.map (·.2)) vs) :
    MemOk K ρ (M.set m (.dct kds)) (upd H a (.dK ((kds.map (·.1)).zip vs))) ∧ Le (hd ρ M H) (hd ρ (M.set m (.dct kds)) (upd H a (.dK ((kds.map (·.1)).zip vs)))) ρ ρ :=
  X.setG (cc := .dct kds) e (by intro z; cases z) (by intro z; cases z) ha ⟨vs, upd_same, r⟩
theorem MemOk.atD (X : MemOk K ρ M H) {m : Nat} {kds : List (Key × D)} (e : M[m]? = some (.dct kds)) : ∃ a vs, ρ.c[m]? = some a ∧ H a = some (.dK ((kds.map (·.1)).zip vs)) ∧ RelDs K (hd ρ M H) ρ (kds.map (·.2)) vs := by
  have hm : m < M.length := (List.getElem?_eq_some_iff.mp e).1
  have hr : m < ρ.c.length := by rw [X.len]; exact hm
  obtain ⟨vs, h1, h2⟩ := X.cell m _ _ e (List.getElem?_eq_getElem hr)
  exact ⟨_, vs, List.getElem?_eq_getElem hr, h1, h2⟩
/-- a cell is frozen: from now on it is data -/
theorem MemOk.kill (X : MemOk K ρ M H) (m : Nat) : MemOk K ρ (M.set m .dead) H ∧ Le (hd ρ M H) (hd ρ (M.set m .dead) H) ρ ρ := by
  have imp : ∀ k, live (M.set m .dead) k → live M k := fun k ⟨c, h, hn⟩ => by
    by_cases hk : m = k
    · subst hk
      by_cases hm : m < M.length
      · rw [List.getElem?_set_self hm] at h
        cases h
        exact absurd rfl hn
      · rw [List.getElem?_eq_none (by simpa using hm)] at h
        cases h
    · rw [List.getElem?_set_ne hk] at h
      exact ⟨c, h, hn⟩
  have le : Le (hd ρ M H) (hd ρ (M.set m .dead) H) ρ ρ := ⟨fun b u q => by
    have hn := hd_not q
    rw [hd_off (fun h => by
      rcases h with ⟨k, k1, k2⟩ | h
      · exact hn (.inl ⟨k, k1, imp k k2⟩)
      · exact hn (.inr h))]
    exact hd_some q, fun _ _ q => q, rfl⟩
  refine ⟨⟨by rw [X.len, List.length_set], fun i j b h1 h2 l1 l2 => X.inj i j b h1 h2 (imp i l1) (imp j l2), fun i c b h1 h2 => ?_, X.zin, fun i b us h1 h2 => X.zoff i b us h1 (imp i h2)⟩, le⟩
  by_cases hi : m = i
  · subst hi
    by_cases hm : m < M.length
    · rw [List.getElem?_set_self hm] at h1
      cases h1
      trivial
    · rw [List.getElem?_eq_none (by simpa using hm)] at h1
      cases h1
  · rw [List.getElem?_set_ne hi] at h1
    exact (X.cell i c b h1 h2).mono le rfl
end mem
end Mini

/-! Mini, part b: results, readings, how they follow one another. -/
namespace Mini
open PySem PySem.Spec PyProof.Rows L2

inductive R (α : Type) where
  | ok (a : α) (m : Mem)
  | exc (c : Nat) (m : Mem)
  | stuck
def R.bind {α β : Type} (r : R α) (f : α → Mem → R β) : R β := match r with
  | .ok a m => f a m
  | .exc c m => .exc c m
  | .stuck => .stuck
theorem R.bind_assoc {α β γ : Type} (r : R α) (f : α → Mem → R β) (g : β → Mem → R γ) : (r.bind f).bind g = r.bind fun a m => (f a m).bind g := by
  cases r <;> rfl
def ofO {α : Type} : Option (α × Mem) → R α
  | some (a, m) => .ok a m
  | none => .stuck
/-- what a statement does -/
inductive RS where
  | next (l : Lo) (m : Mem)
  | ret (d : D) (m : Mem)
  | brk (l : Lo) (m : Mem)
  | cnt (l : Lo) (m : Mem)
  | exc (c : Nat) (l : Lo) (m : Mem)
  | stuck
def RS.andThen (r : RS) (f : Lo → Mem → RS) : RS := match r with
  | .next l m => f l m
  | r => r
/-- an expression, then a statement's rest -/
def R.to {α : Type} (r : R α) (l : Lo) (f : α → Mem → RS) : RS := match r with
  | .ok a m => f a m
  | .exc c m => .exc c l m
  | .stuck => .stuck

structure Sim (K : PySem.W.Frag) (ρ : Rho) (l : Lo) (M : Mem) (σ : L2.St) (H : Hp) : Prop where
  mem : MemOk K ρ M H
  loc : ∀ (i : Nat) (d : D), l[i]? = some (some d) → ∃ v, σ[i]? = some (some v) ∧ RelD K (hd ρ M H) ρ d v
  len : l.length = σ.length

section
variable {K : PySem.W.Frag} {xc : Nat → Addr} {W : WX} {ρ ρ1 : Rho} {l : Lo} {M M1 : Mem} {σ : L2.St} {H H1 : Hp}
theorem Sim.le (S : Sim K ρ l M σ H) (X : MemOk K ρ1 M1 H1) (h : Le (hd ρ M H) (hd ρ1 M1 H1) ρ ρ1) : Sim K ρ1 l M1 σ H1 :=
  ⟨X, fun i d e => by
    obtain ⟨v, q, r⟩ := S.loc i d e
    exact ⟨v, q, r.mono h⟩, S.len⟩

/-- what is wanted behind a result -/
def post {α β : Type} (Rel : Hp → Rho → α → β → Prop) (K : PySem.W.Frag) (xc : Nat → Addr) (W : WX) (ρ : Rho) (M : Mem) (σ : L2.St) (H : Hp) (Q : β → Hp → Prop) : R α → Prop
  | .ok a M' => ∀ v ρ' H', MemOk K ρ' M' H' → Le (hd ρ M H) (hd ρ' M' H') ρ ρ' → Rel (hd ρ' M' H') ρ' a v → Q v H'
  | .exc c M' => ∀ ρ' H', MemOk K ρ' M' H' → Le (hd ρ M H) (hd ρ' M' H') ρ ρ' → W (.ref (xc c)) none σ H'
  | .stuck => False
def rd {α β : Type} (Rel : Hp → Rho → α → β → Prop) (K : PySem.W.Frag) (xc : Nat → Addr) (W : WX) (f : Lo → Mem → R α) : L2.St → Hp → (β → Hp → Prop) → Prop := fun σ H Q =>
  ∃ ρ l M, Sim K ρ l M σ H ∧ post Rel K xc W ρ M σ H Q (f l M)
abbrev RelB : Hp → Rho → Bool → Bool → Prop := fun _ _ a b => a = b
abbrev rdE (K : PySem.W.Frag) (xc : Nat → Addr) (W : WX) (f : Lo → Mem → R D) : TE := rd (RelD K) K xc W f
abbrev rdT (K : PySem.W.Frag) (xc : Nat → Addr) (W : WX) (f : Lo → Mem → R Bool) : TT := rd RelB K xc W f
abbrev rdA (K : PySem.W.Frag) (xc : Nat → Addr) (W : WX) (f : Lo → Mem → R (List D)) : TA := rd (RelDs K) K xc W f

theorem post.le {α β : Type} {Rel : Hp → Rho → α → β → Prop} {Q : β → Hp → Prop} {r : R α} (h : post Rel K xc W ρ M σ H Q r) (le : Le (hd ρ M H) (hd ρ1 M1 H1) ρ ρ1) : post Rel K xc W ρ1 M1 σ H1 Q r := by
  cases r with
  | ok a m => exact fun v ρ' H' x k r => h v ρ' H' x (le.trans k) r
  | exc c m => exact fun ρ' H' x k => h ρ' H' x (le.trans k)
  | stuck => exact h
theorem post.imp {α β : Type} {Rel : Hp → Rho → α → β → Prop} {Q Q' : β → Hp → Prop} {r : R α} (h : post Rel K xc W ρ M σ H Q r) (k : ∀ v H', Q v H' → Q' v H') : post Rel K xc W ρ M σ H Q' r := by
  cases r with
  | ok a m => exact fun v ρ' H' x kk r => k _ _ (h v ρ' H' x kk r)
  | exc c m => exact h
  | stuck => exact h
/-- first f, then g of its value -/
theorem run1 {α β γ δ : Type} {Rel : Hp → Rho → α → β → Prop} {Rel2 : Hp → Rho → γ → δ → Prop} {Q : δ → Hp → Prop} {f : Lo → Mem → R α} {g : α → Mem → R γ} (S : Sim K ρ l M σ H)
    (h : post Rel2 K xc W ρ M σ H Q ((f l M).bind g)) :
    rd Rel K xc W f σ H fun x H1 => ∃ ρ1 M1 a, Sim K ρ1 l M1 σ H1 ∧ Rel (hd ρ1 M1 H1) ρ1 a x ∧ Le (hd ρ M H) (hd ρ1 M1 H1) ρ ρ1 ∧ post Rel2 K xc W ρ1 M1 σ H1 Q (g a M1) := by
  refine ⟨ρ, l, M, S, ?_⟩
  cases e : f l M with
  | ok a m =>
    rw [e] at h
    exact fun v ρ' H' x k r => ⟨ρ', m, a, S.le x k, r, k, post.le h k⟩
  | exc c m =>
    rw [e] at h
    exact h
  | stuck =>
    rw [e] at h
    exact h
theorem PE.imp {X : Cx} {e : Expr} {t t' : TE} (h : PE X e t) (k : ∀ σ H Q, t' σ H Q → t σ H Q) : PE X e t' := ⟨fun pins s σ H Q I q => h.run pins s σ H Q I (k _ _ _ q)⟩
theorem PT.imp {X : Cx} {e : Expr} {t t' : TT} (h : PT X e t) (k : ∀ σ H Q, t' σ H Q → t σ H Q) : PT X e t' := ⟨fun pins s σ H Q I q => h.run pins s σ H Q I (k _ _ _ q)⟩
theorem PW.imp {X : Cx} {e : Expr} {t t' : TT} (h : PW X e t) (k : ∀ σ H Q, t' σ H Q → t σ H Q) : PW X e t' := ⟨fun w pins s σ H Q I q => h.run w pins s σ H Q I (k _ _ _ q)⟩
theorem PA.imp {X : Cx} {e : List Expr} {t t' : TA} (h : PA X e t) (k : ∀ σ H Q, t' σ H Q → t σ H Q) : PA X e t' := ⟨fun p pins s σ H Q I q => h.run p pins s σ H Q I (k _ _ _ q)⟩
theorem PS.imp {X : Cx} {e : Stmt} {t t' : TS} (h : PS X e t) (k : ∀ D σ H, t' D σ H → t D σ H) : PS X e t' := ⟨fun pins s σ H D I q => h.run pins s σ H D I (k _ _ _ q)⟩
theorem PSs.imp {X : Cx} {e : List Stmt} {t t' : TS} (h : PSs X e t) (k : ∀ D σ H, t' D σ H → t D σ H) : PSs X e t' := ⟨fun pins s σ H D I q => h.run pins s σ H D I (k _ _ _ q)⟩

/-- an operation of one, two values: it gives a value or we do not speak of it -/
def postO (K : PySem.W.Frag) (ρ : Rho) (M : Mem) (H : Hp) (Q : VK) : Option (D × Mem) → Prop
  | some (a, M') => ∀ v ρ' H', MemOk K ρ' M' H' → Le (hd ρ M H) (hd ρ' M' H') ρ ρ' → RelD K (hd ρ' M' H') ρ' a v → Q v H'
  | none => False
theorem postO_of {Q : VK} {r : Option (D × Mem)} (h : post (RelD K) K xc W ρ M σ H Q (ofO r)) : postO K ρ M H Q r := by
  cases r with
  | none => exact h
  | some a => exact h
def rop1 (K : PySem.W.Frag) (g : D → Mem → Option (D × Mem)) : V → Hp → VK → Prop := fun x H Q => ∃ ρ M d, MemOk K ρ M H ∧ RelD K (hd ρ M H) ρ d x ∧ postO K ρ M H Q (g d M)
def rop2 (K : PySem.W.Frag) (g : D → D → Mem → Option (D × Mem)) : R2 := fun x y H Q => ∃ ρ M d e, MemOk K ρ M H ∧ RelD K (hd ρ M H) ρ d x ∧ RelD K (hd ρ M H) ρ e y ∧ postO K ρ M H Q (g d e M)
def ropN (K : PySem.W.Frag) (g : List D → Mem → Option (D × Mem)) : List V → Hp → VK → Prop := fun xs H Q => ∃ ρ M ds, MemOk K ρ M H ∧ RelDs K (hd ρ M H) ρ ds xs ∧ postO K ρ M H Q (g ds M)
end

section
variable {X : Cx} {xc : Nat → Addr} {W : WX}
/-- a op b -/
theorem me_bin {op : Operator} {a b : Expr} {pos : Pos} {fa fb : Lo → Mem → R D} {g : D → D → Mem → Option (D × Mem)} (ho : OpR X (binaryOp op) (rop2 X.K g)) (ha : PE X a (rdE X.K xc W fa)) (hb : PE X b (rdE X.K xc W fb)) :
    PE X (.BinOp a op b pos) (rdE X.K xc W fun l M => (fa l M).bind fun x M1 => (fb l M1).bind fun y M2 => ofO (g x y M2)) := by
  refine PE.imp (pe_op ho ha hb) ?_
  rintro σ H Q ⟨ρ, l, M, S, h⟩
  obtain ⟨ρ0, l0, M0, S0, h0⟩ := run1 (Rel := RelD X.K) S h
  refine ⟨ρ0, l0, M0, S0, h0.imp ?_⟩
  rintro x H1 ⟨ρ1, M1, d, S1, r1, k1, h1⟩
  obtain ⟨ρ2, l2, M2, S2, h2⟩ := run1 (f := fb) (Rel := RelD X.K) S1 h1
  refine ⟨ρ2, l2, M2, S2, h2.imp ?_⟩
  rintro y H2 ⟨ρ3, M3, e, S3, r3, k3, h3⟩
  exact ⟨ρ3, M3, d, e, S3.mem, r1.mono k3, r3, postO_of h3⟩
theorem me_un {op : UnaryOp} {a : Expr} {pos : Pos} {fa : Lo → Mem → R D} {g : D → Mem → Option (D × Mem)} (ho : UnR X (unaryOp op) (rop1 X.K g)) (ha : PE X a (rdE X.K xc W fa)) :
    PE X (.UnaryOp op a pos) (rdE X.K xc W fun l M => (fa l M).bind fun x M1 => ofO (g x M1)) := by
  refine PE.imp (pe_un ho ha) ?_
  rintro σ H Q ⟨ρ, l, M, S, h⟩
  obtain ⟨ρ0, l0, M0, S0, h0⟩ := run1 (Rel := RelD X.K) S h
  refine ⟨ρ0, l0, M0, S0, h0.imp ?_⟩
  rintro x H1 ⟨ρ1, M1, d, S1, r1, k1, h1⟩
  exact ⟨ρ1, M1, d, S1.mem, r1, postO_of h1⟩
theorem me_cmp {op : CmpOp} {a b : Expr} {pos : Pos} {fa fb : Lo → Mem → R D} {g : D → D → Mem → Option (D × Mem)} (ho : OpR X (compareOp op) (rop2 X.K g)) (hm : behindInMarks op b = false) (ha : PE X a (rdE X.K xc W fa)) (hb : PE X b (rdE X.K xc W fb)) :
    PE X (.Compare a [op] [b] pos) (rdE X.K xc W fun l M => (fa l M).bind fun x M1 => (fb l M1).bind fun y M2 => ofO (g x y M2)) := by
  refine PE.imp (pe_cmpR ho ha hb hm) ?_
  rintro σ H Q ⟨ρ, l, M, S, h⟩
  obtain ⟨ρ0, l0, M0, S0, h0⟩ := run1 (Rel := RelD X.K) S h
  refine ⟨ρ0, l0, M0, S0, h0.imp ?_⟩
  rintro x H1 ⟨ρ1, M1, d, S1, r1, k1, h1⟩
  obtain ⟨ρ2, l2, M2, S2, h2⟩ := run1 (f := fb) (Rel := RelD X.K) S1 h1
  refine ⟨ρ2, l2, M2, S2, h2.imp ?_⟩
  rintro y H2 ⟨ρ3, M3, e, S3, r3, k3, h3⟩
  exact ⟨ρ3, M3, d, e, S3.mem, r1.mono k3, r3, postO_of h3⟩
end
end Mini

/-! Mini, part c: operators. -/
namespace Mini
open PySem PySem.Spec PyProof.Rows L2

/-! ### looking at values -/
def pOf : D → Option PyData
  | .p d => some d
  | _ => none
def pAll : List D → Option (List PyData)
  | [] => some []
  | d :: ds => match pOf d, pAll ds with
    | some x, some xs => some (x :: xs)
    | _, _ => none
def seqD (M : Mem) : D → Option (List D)
  | .p (.list ds) => some (ds.map .p)
  | .ref m => match M[m]? with
    | some (.lst xs) => some xs
    | _ => none
  | _ => none
def tupD : D → Option (List D)
  | .p (.tuple ds) => some (ds.map .p)
  | .tr ds => some ds
  | _ => none
def resAll (f : D → Option PyData) : List D → Option (List PyData)
  | [] => some []
  | d :: ds => match f d, resAll f ds with
    | some x, some xs => some (x :: xs)
    | _, _ => none
def res : Nat → Mem → D → Option PyData
  | 0, _, d => pOf d
  | n + 1, M, d => match d with
    | .p x => some x
    | .ref m => match M[m]? with
      | some (.lst xs) => (resAll (res n M) xs).map .list
      | _ => none
    | .tr ds => (resAll (res n M) ds).map .tuple
def al (c : Bool) (xs : List D) (M : Mem) : Option (D × Mem) :=
  if c = true then some (.ref M.length, M ++ [.lst xs]) else (pAll xs).map fun ds => (.p (.list ds), M)
def mkT (xs : List D) : D := match pAll xs with
  | some ds => .p (.tuple ds)
  | none => .tr xs
def okd (d : PyData) : Bool := decide (d.depth ≤ 100)

theorem pAll_map (ds : List PyData) : pAll (ds.map .p) = some ds := by
  induction ds with
  | nil => rfl
  | cons d ds ih => simp only [List.map_cons, pAll, pOf, ih]
theorem pAll_eq : ∀ {xs : List D} {ds : List PyData}, pAll xs = some ds → xs = ds.map .p
  | [], ds, h => by simp only [pAll, Option.some.injEq] at h; subst h; rfl
  | .p x :: xs, ds, h => by
    simp only [pAll, pOf] at h
    cases e : pAll xs with
    | none => rw [e] at h; cases h
    | some ys =>
      rw [e] at h
      simp only [Option.some.injEq] at h
      subst h
      rw [List.map_cons, pAll_eq e]
  | .ref m :: xs, ds, h => by simp only [pAll, pOf] at h; cases h
  | .tr es :: xs, ds, h => by simp only [pAll, pOf] at h; cases h
theorem res_p (n : Nat) (M : Mem) (d : PyData) : res n M (.p d) = some d := by cases n <;> rfl
theorem resAll_map {f : D → Option PyData} (h : ∀ d, f (.p d) = some d) (ds : List PyData) : resAll f (ds.map .p) = some ds := by
  induction ds with
  | nil => rfl
  | cons d ds ih => simp only [List.map_cons, resAll, h, ih]

section
variable {K : PySem.W.Frag} {ρ : Rho} {M : Mem} {H : Hp} {G : Hp}
theorem hdH : ∀ a o, hd ρ M H a = some o → H a = some o := fun _ _ e => hd_some e
theorem seq_ok (X : MemOk K ρ M H) {d : D} {v : V} {xs : List D} (r : RelD K (hd ρ M H) ρ d v) (h : seqD M d = some xs) :
    ∃ a vs, v = .ref a ∧ SqL K H a vs ∧ RelDs K (hd ρ M H) ρ xs vs := by
  cases d with
  | p x =>
    cases x with
    | list ds =>
      simp only [seqD, Option.some.injEq] at h
      subst h
      unfold RelD at r
      cases r with
      | lst s q => exact ⟨_, _, rfl, sqL_mono hdH s, relDs_p.mpr q⟩
    | _ => cases h
  | ref m =>
    unfold RelD at r
    obtain ⟨a, e, rfl⟩ := r
    simp only [seqD] at h
    cases q : M[m]? with
    | none => rw [q] at h; cases h
    | some c =>
      rw [q] at h
      cases c with
      | dead => cases h
      | dct _ => cases h
      | lst ys =>
        simp only [Option.some.injEq] at h
        subst h
        obtain ⟨b, vs, e1, e2, e3⟩ := X.at q
        rw [e] at e1
        cases e1
        exact ⟨_, vs, rfl, .inl (.inl e2), e3⟩
  | tr ds => cases h
theorem tup_ok {d : D} {v : V} {xs : List D} (r : RelD K (hd ρ M H) ρ d v) (h : tupD d = some xs) :
    ∃ a vs, v = .ref a ∧ SqT K H a vs ∧ RelDs K (hd ρ M H) ρ xs vs := by
  cases d with
  | p x =>
    cases x with
    | tuple ds =>
      simp only [tupD, Option.some.injEq] at h
      subst h
      unfold RelD at r
      cases r with
      | tup s q => exact ⟨_, _, rfl, sqT_mono hdH s, relDs_p.mpr q⟩
    | _ => cases h
  | ref m => cases h
  | tr ds =>
    simp only [tupD, Option.some.injEq] at h
    subst h
    unfold RelD at r
    obtain ⟨a, vs, e, s, q⟩ := r
    exact ⟨a, vs, e, sqT_mono hdH s, q⟩
theorem relP {d : PyData} {v : V} (r : RelD K G ρ (.p d) v) : Dp K G v d := by unfold RelD at r; exact r
theorem Pr {d : PyData} {v : V} (r : Dp K G v d) : RelD K G ρ (.p d) v := by unfold RelD; exact r
theorem dpH {d : PyData} {v : V} (r : Dp K (hd ρ M H) v d) : Dp K H v d := dp_mono hdH r
theorem resAll_ok {f : D → Option PyData} (hf : ∀ d v x, RelD K (hd ρ M H) ρ d v → f d = some x → Dp K H v x) : ∀ {ds : List D} {vs : List V} {xs : List PyData}, RelDs K (hd ρ M H) ρ ds vs → resAll f ds = some xs → DpAll K H vs xs
  | [], vs, xs, r, h => by
    unfold RelDs at r
    simp only [resAll, Option.some.injEq] at h
    subst h; rw [r]
    exact .nil
  | d :: ds, vs, xs, r, h => by
    obtain ⟨v, w, e, r1, r2⟩ := r.inv
    simp only [resAll] at h
    cases e1 : f d with
    | none => rw [e1] at h; cases h
    | some x =>
      rw [e1] at h
      cases e2 : resAll f ds with
      | none => rw [e2] at h; cases h
      | some ys =>
        rw [e2] at h
        simp only [Option.some.injEq] at h
        subst h; rw [e]
        exact .cons (hf d v x r1 e1) (resAll_ok hf r2 e2)
theorem res_ok (X : MemOk K ρ M H) : ∀ (n : Nat) {d : D} {v : V} {x : PyData}, RelD K (hd ρ M H) ρ d v → res n M d = some x → Dp K H v x
  | 0, d, v, x, r, h => by
    cases d with
    | p y =>
      simp only [res, pOf, Option.some.injEq] at h
      subst h
      exact dpH (relP r)
    | _ => cases h
  | n + 1, d, v, x, r, h => by
    cases d with
    | p y =>
      simp only [res, Option.some.injEq] at h
      subst h
      exact dpH (relP r)
    | ref m =>
      simp only [res] at h
      cases q : M[m]? with
      | none => rw [q] at h; cases h
      | some c =>
        rw [q] at h
        cases c with
        | dead => cases h
        | dct _ => cases h
        | lst ys =>
          simp only at h
          cases e : resAll (res n M) ys with
          | none => rw [e] at h; cases h
          | some zs =>
            rw [e] at h
            simp only [Option.map_some, Option.some.injEq] at h
            subst h
            unfold RelD at r
            obtain ⟨a, ea, rfl⟩ := r
            obtain ⟨b, vs, e1, e2, e3⟩ := X.at q
            rw [ea] at e1
            cases e1
            exact .lst (.inl (.inl e2)) (resAll_ok (fun d v x r h => res_ok X n r h) e3 e)
    | tr ds =>
      simp only [res] at h
      cases e : resAll (res n M) ds with
      | none => rw [e] at h; cases h
      | some zs =>
        rw [e] at h
        simp only [Option.map_some, Option.some.injEq] at h
        subst h
        unfold RelD at r
        obtain ⟨a, vs, e1, e2, e3⟩ := r
        rw [e1]
        exact .tup (sqT_mono hdH e2) (resAll_ok (fun d v x r h => res_ok X n r h) e3 e)
/-- a new list is laid: a cell, or frozen -/
theorem al_ok (X : MemOk K ρ M H) {c : Bool} {xs : List D} {vs : List V} {Q : VK} (r : RelDs K (hd ρ M H) ρ xs vs) (h : postO K ρ M H Q (al c xs M)) {p : Addr} (hp : H p = none) : Q (.ref p) (upd H p (.lst vs)) := by
  unfold al at h
  split at h
  · obtain ⟨x, le⟩ := X.newLst hp r
    exact h _ _ _ x le (by unfold RelD; exact ⟨p, by show (ρ.c ++ [p])[M.length]? = some p; rw [← X.len]; simp, rfl⟩)
  · cases e : pAll xs with
    | none => rw [e] at h; exact h.elim
    | some ds =>
      rw [e] at h
      obtain ⟨x, le, q⟩ := X.frozen (o := .lst vs) hp
      refine h _ _ _ x le (Pr (.lst (.inl (.inl q)) ?_))
      rw [pAll_eq e] at r
      exact relDs_p.mp (r.mono le)
/-- a new tuple is laid -/
theorem mkT_ok (X : MemOk K ρ M H) {xs : List D} {vs : List V} {Q : VK} (r : RelDs K (hd ρ M H) ρ xs vs) (h : postO K ρ M H Q (some (mkT xs, M))) {p : Addr} (hp : H p = none) : Q (.ref p) (upd H p (.tup vs)) := by
  obtain ⟨x, le, q⟩ := X.frozen (o := .tup vs) hp
  refine h _ _ _ x le ?_
  unfold mkT
  cases e : pAll xs with
  | none => unfold RelD; exact ⟨p, vs, rfl, .inl (.inl q), r.mono le⟩
  | some ds =>
    refine Pr (.tup (.inl (.inl q)) ?_)
    rw [pAll_eq e] at r
    exact relDs_p.mp (r.mono le)
end

/-! ### plain data: what the library asks -/
mutual
theorem dp_plain {K : PySem.W.Frag} {H : Hp} : ∀ {v : V} {d : PyData}, Dp K H v d → d.plain = true
  | _, _, .non => rfl
  | _, _, .bl b => rfl
  | _, _, .int i => rfl
  | _, _, .str x => rfl
  | _, _, .lst s a => by simp only [PyData.plain]; exact dpAll_plain a
  | _, _, .tup s a => by simp only [PyData.plain]; exact dpAll_plain a
theorem dpAll_plain {K : PySem.W.Frag} {H : Hp} : ∀ {vs : List V} {ds : List PyData}, DpAll K H vs ds → PyData.plainAll ds = true
  | _, _, .nil => rfl
  | _, _, .cons a b => by simp only [PyData.plainAll, Bool.and_eq_true]; exact ⟨dp_plain a, dpAll_plain b⟩
end

/-! ### the operators -/
def int2 (f : Int → Int → Option Int) (x y : D) (M : Mem) : Option (D × Mem) := match x, y with
  | .p (.int i), .p (.int j) => (f i j).map fun k => (.p (.int k), M)
  | _, _ => none
def subD : D → D → Mem → Option (D × Mem) := int2 fun i j => some (i - j)
def modD : D → D → Mem → Option (D × Mem) := int2 fun i j => if 0 < j then some (i % j) else none
def fdivD : D → D → Mem → Option (D × Mem) := int2 fun i j => if 0 < j ∧ j.natAbs.log2 < 9000 then some (i / j) else none
def powD : D → D → Mem → Option (D × Mem) := int2 fun i j => if 0 ≤ j ∧ (Builtin.Int.intBits i : Int) * j ≤ 2 ^ 27 then some (i ^ j.toNat) else none
def addD (c : Bool) (x y : D) (M : Mem) : Option (D × Mem) := match x, y with
  | .p (.int i), .p (.int j) => some (.p (.int (i + j)), M)
  | .p (.str a), .p (.str b) => if a.length + b.length ≤ sizeLine then some (.p (.str (a ++ b)), M) else none
  | x, y => match seqD M x, seqD M y with
    | some xs, some ys => if xs.length + ys.length ≤ sizeLine then al c (xs ++ ys) M else none
    | _, _ => none
def mulD (c : Bool) (x y : D) (M : Mem) : Option (D × Mem) := match x, y with
  | .p (.int i), .p (.int j) => if i.natAbs.log2 + j.natAbs.log2 < 1000000 then some (.p (.int (i * j)), M) else none
  | .p (.str z), .p (.int j) => if z.length ≤ 4096 ∧ 0 ≤ j ∧ j ≤ 4096 then some (.p (.str (Txt.mul z j)), M) else none
  | x, .p (.int j) => match seqD M x with
    | some xs => if -(2 ^ 63) ≤ j ∧ j < 2 ^ 63 ∧ xs.length * j.toNat ≤ 2 ^ 24 then al c (List.replicate j.toNat xs).flatten M else none
    | none => none
  | _, _ => none
def binD (c : Bool) : Operator → D → D → Mem → Option (D × Mem)
  | .Add => addD c
  | .Sub => subD
  | .Mult => mulD c
  | .Mod => modD
  | .FloorDiv => fdivD
  | .Pow => powD
  | _ => fun _ _ _ => none

section
variable {X : Cx}
theorem int2_ok {op : Value → Value → Sem Value} {f : Int → Int → Option Int} (h : ∀ i j k, f i j = some k → ∀ (t u : Tok) (s : Shared) (Q : Value → Shared → Prop) (E : Value → Shared → Prop), (∀ t', Q (.int k t') { s with toks := s.toks + 1 }) → wpAny (model X.prog X.w) X.A (op (.int i t) (.int j u)) Q E s) :
    OpR X op (rop2 X.K (int2 f)) := by
  intro pins s σ H x y v u Q I rx ry hq
  obtain ⟨ρ, M, d, e, m, r1, r2, q⟩ := hq
  cases d with
  | p a =>
    cases a with
    | int i =>
      cases e with
      | p b =>
        cases b with
        | int j =>
          cases relP r1; cases relP r2
          obtain ⟨t, rfl⟩ := rx
          obtain ⟨t', rfl⟩ := ry
          simp only [int2] at q
          cases z : f i j with
          | none => rw [z] at q; exact q.elim
          | some k =>
            rw [z] at q
            refine h i j k z t t' s _ _ fun t2 => ?_
            exact ⟨.int k, H, I.tok _, ⟨_, rfl⟩, q _ ρ H m (Le.refl _ _) (Pr (.int k))⟩
        | _ => exact q.elim
      | _ => exact q.elim
    | _ => exact q.elim
  | _ => exact q.elim
theorem op_subD : OpR X (binaryOp .Sub) (rop2 X.K subD) := int2_ok fun i j k h t u s Q E q => by
  cases h
  exact sub_int (q _)
theorem op_modD : OpR X (binaryOp .Mod) (rop2 X.K modD) := int2_ok fun i j k h t u s Q E q => by
  split at h
  · rename_i h1
    cases h
    exact mod_int' (by omega) (by rw [Int.fmod_eq_emod_of_nonneg i (by omega)]; exact q _)
  · cases h
theorem op_fdivD : OpR X (binaryOp .FloorDiv) (rop2 X.K fdivD) := int2_ok fun i j k h t u s Q E q => by
  split at h
  · rename_i h1
    cases h
    have h2 : (0 : Int) < j := h1.1
    exact floordiv_int (by omega) (by rw [Int.fdiv_eq_ediv_of_nonneg i (by omega)]; exact q _) (.inl (PyProof.noPylong_of_log2 h1.2))
  · cases h
theorem op_powD : OpR X (binaryOp .Pow) (rop2 X.K powD) := int2_ok fun i j k h t u s Q E q => by
  split at h
  · rename_i h1
    cases h
    exact pow_int h1.1 h1.2 (q _)
  · cases h
end
end Mini

/-! Mini, part d: + and * of lists, comparisons. -/
namespace Mini
open PySem PySem.Spec PyProof.Rows L2

section
variable {X : Cx} {pins : List (Addr × Obj)} {σ : L2.St} {H : Hp} {s : Shared}
/-- a new list at the heap's end -/
theorem newList {xs : List V} {its : List Value} {Q : VK} {ρ : Rho} {M : Mem} {ds : List D} {c : Bool} (I : Inv X pins σ H s) (m : MemOk X.K ρ M H) (hl : xs.length ≤ sizeLine) (rv : Vals xs its) (r : RelDs X.K (hd ρ M H) ρ ds xs)
    (h : postO X.K ρ M H Q (al c ds M)) (t' : Nat) : EP X pins σ Q (.ref s.heap.objs.size) { s with heap := s.heap.push { cls := .type "list", data := .seq its.toArray }, toks := t' } :=
  ⟨.ref s.heap.objs.size, _, I.laid (o := .lst xs) (fun b ob q => Heap.get?_push_of_some _ q) (Nat.le_refl _) ⟨hl, its, 0, rv, Heap.get?_push_size _ rfl⟩, rfl, al_ok m r h (I.hok.fresh (Nat.le_refl _))⟩
theorem mem2 {ρ : Rho} {M : Mem} {a b : D} {x y : V} {xs ys : List D} (I : Inv X pins σ H s) (m : MemOk X.K ρ M H) (r1 : RelD X.K (hd ρ M H) ρ a x) (r2 : RelD X.K (hd ρ M H) ρ b y) (h1 : seqD M a = some xs) (h2 : seqD M b = some ys) :
    True := trivial
theorem add_seq {ρ : Rho} {M : Mem} {d e : D} {x y : V} {v u : Value} {Q : VK} {c : Bool} {xs ys : List D} (I : Inv X pins σ H s) (rx : RelV x v) (ry : RelV y u) (m : MemOk X.K ρ M H) (r1 : RelD X.K (hd ρ M H) ρ d x) (r2 : RelD X.K (hd ρ M H) ρ e y)
    (h1 : seqD M d = some xs) (h2 : seqD M e = some ys) (hz : xs.length + ys.length ≤ sizeLine) (q : postO X.K ρ M H Q (al c (xs ++ ys) M)) : wpAny (model X.prog X.w) X.A (binaryOp .Add v u) (EP X pins σ Q) X.xe s := by
  obtain ⟨a, vs, rfl, sa, ra⟩ := seq_ok m r1 h1
  obtain ⟨b, ws, rfl, sb, rb⟩ := seq_ok m r2 h2
  cases rx
  cases ry
  obtain ⟨its, rv, ⟨⟨cls, dd, data, sl⟩, n, ho, hc, _, hdt⟩, _⟩ := I.list sa
  obtain ⟨its2, rv2, ⟨⟨cls2, dd2, data2, sl2⟩, n2, ho2, hc2, _, hdt2⟩, _⟩ := I.list sb
  simp only at hc hdt hc2 hdt2
  subst hc hdt hc2 hdt2
  have l1 := rv.length
  have l2 := rv2.length
  have l3 := ra.length
  have l4 := rb.length
  refine concat_meets ⟨_, ho, rfl⟩ ⟨_, ho2, rfl⟩ noFill_list_add seq_list_add PySem.F.slot_list_add PySem.F.entry_list_add (PySem.F.args_list_add_2 _ _) (list_addW a b its.toArray its2.toArray n n2 dd dd2 sl sl2 (by rw [List.size_toArray, List.size_toArray]; omega)) ⟨ho, ho2, ?_⟩
  have ea : its.toArray ++ its2.toArray = (its ++ its2).toArray := by simp
  rw [ea]
  exact newList I m (by rw [List.length_append]; omega) (rv.append rv2) (ra.append rb) q s.toks
theorem op_addD {c : Bool} : OpR X (binaryOp .Add) (rop2 X.K (addD c)) := by
  intro pins s σ H x y v u Q I rx ry hq
  obtain ⟨ρ, M, d, e, m, r1, r2, q⟩ := hq
  unfold addD at q
  split at q
  · cases relP r1; cases relP r2
    exact op_add pins s σ H _ _ v u Q I rx ry ⟨_, _, rfl, rfl, q _ ρ H m (Le.refl _ _) (Pr (.int _))⟩
  · cases relP r1; cases relP r2
    split at q
    · rename_i hl
      exact op_add_str pins s σ H _ _ v u Q I rx ry ⟨_, _, rfl, rfl, hl, q _ ρ H m (Le.refl _ _) (Pr (.str _))⟩
    · exact q.elim
  · split at q
    · rename_i h1 h2
      split at q
      · rename_i hz
        exact add_seq I rx ry m r1 r2 h1 h2 hz q
      · exact q.elim
    · exact q.elim
theorem relDs_rep {K : PySem.W.Frag} {G : Hp} {ρ : Rho} {xs : List D} {vs : List V} (r : RelDs K G ρ xs vs) : ∀ k, RelDs K G ρ (List.replicate k xs).flatten (List.replicate k vs).flatten
  | 0 => RelDs.nil
  | k + 1 => by
    rw [List.replicate_succ, List.replicate_succ, List.flatten_cons, List.flatten_cons]
    exact RelDs.append r (relDs_rep r k)
theorem mul_seq {ρ : Rho} {M : Mem} {d : D} {x : V} {v : Value} {j : Int} {t : Tok} {Q : VK} {c : Bool} {xs : List D} (I : Inv X pins σ H s) (rx : RelV x v) (m : MemOk X.K ρ M H) (r1 : RelD X.K (hd ρ M H) ρ d x)
    (h1 : seqD M d = some xs) (hz : -(2 ^ 63) ≤ j ∧ j < 2 ^ 63 ∧ xs.length * j.toNat ≤ 2 ^ 24) (q : postO X.K ρ M H Q (al c (List.replicate j.toNat xs).flatten M)) : wpAny (model X.prog X.w) X.A (binaryOp .Mult v (.int j t)) (EP X pins σ Q) X.xe s := by
  obtain ⟨a, vs, rfl, sa, ra⟩ := seq_ok m r1 h1
  cases rx
  obtain ⟨its, rv, ⟨⟨cls, dd, data, sl⟩, n, ho, hc, _, hdt⟩, _⟩ := I.list sa
  simp only at hc hdt
  subst hc hdt
  obtain ⟨z1, z2, z3⟩ := hz
  have l1 := rv.length
  have l3 := ra.length
  have hsz' : its.toArray.size * j.toNat ≤ 2 ^ 24 := by rw [List.size_toArray, ← l1, ← l3]; exact z3
  refine wpAny_binaryOp_repeat_ref (T := "list") (U := "int") (by decide) ⟨_, ho, rfl⟩ (fun s' => typeIs_int s' j t) noFill_list_mul F.fills_int_mul F.slot_int_rmul repeat_list F.slot_int_index.lookup
    (call_meets F.slot_int_rmul (typeIs_int s j t) F.entry_int_rmul (F.args_int_rmul_2 _ _) (lm_int_rmul_list_any j t a its.toArray n dd sl)
      ⟨ho, rfl, ⟨_, ho, rfl⟩, call_meets F.slot_list_mul ⟨_, ho, rfl⟩ F.entry_list_mul (F.args_list_mul_2 _ _)
        (lm_list_mul_any a its.toArray n dd sl j t (by simp [Builtin.List.listFitsIndex]; omega) (by omega) (by simp [Builtin.List.listTooLong, sizeLine]; omega)) ⟨ho, ?_⟩⟩)
  rw [listMul_foldl_if]
  have hl : (List.replicate j.toNat vs).flatten.length ≤ sizeLine := by
    rw [lm_len_rep_flat, Nat.mul_comm, l1, sizeLine_eq]
    rw [List.size_toArray] at hsz'
    exact hsz'
  exact newList I m hl (rv.rep j.toNat) (relDs_rep ra _) q s.toks
theorem op_mulD {c : Bool} : OpR X (binaryOp .Mult) (rop2 X.K (mulD c)) := by
  intro pins s σ H x y v u Q I rx ry hq
  obtain ⟨ρ, M, d, e, m, r1, r2, q⟩ := hq
  unfold mulD at q
  split at q
  · cases relP r1; cases relP r2
    split at q
    · rename_i hl
      exact op_mulW pins s σ H _ _ v u Q I rx ry ⟨_, _, rfl, rfl, hl, q _ ρ H m (Le.refl _ _) (Pr (.int _))⟩
    · exact q.elim
  · cases relP r1; cases relP r2
    obtain ⟨t, rfl⟩ := rx
    obtain ⟨t', rfl⟩ := ry
    split at q
    · rename_i z j hz
      obtain ⟨hz1, hz2, hz3⟩ := hz
      have hp : (z.length : Int) * j ≤ 4096 * 4096 := by
        have h1 : (z.length : Int) ≤ 4096 := by omega
        calc (z.length : Int) * j ≤ 4096 * j := Int.mul_le_mul_of_nonneg_right h1 hz2
          _ ≤ 4096 * 4096 := by omega
      refine SB.mul ⟨?_, fun h1 _ => ?_, fun h1 _ => ?_⟩ fun t' k => ⟨.str _, H, I.tok _, ⟨_, rfl⟩, q _ ρ H m (Le.refl _ _) (Pr (.str _))⟩
      · rw [Bool.or_eq_false_iff]
        exact ⟨decide_eq_false (by omega), decide_eq_false (by omega)⟩
      · have hj : 0 < j := by omega
        have : (4096 : Int) ≤ (2 ^ 63 - 1) / j := Int.le_ediv_of_mul_le hj (by omega)
        omega
      · have e : ((z.length * j.toNat : Nat) : Int) = (z.length : Int) * j := by
          push_cast
          rw [Int.toNat_of_nonneg hz2]
        have : z.length * j.toNat ≤ sizeLine := by
          rw [sizeLine_eq]
          omega
        unfold Builtin.Str.tooLong
        simp only [decide_eq_false_iff_not]
        rw [sizeLine_eq] at this
        first | omega | (simp [sizeLine]; omega)
    · exact q.elim
  · cases relP r2
    obtain ⟨t, rfl⟩ := ry
    split at q
    · rename_i h1
      split at q
      · rename_i hz
        exact mul_seq I rx m r1 h1 hz q
      · exact q.elim
    · exact q.elim
  · exact q.elim
theorem op_binD (c : Bool) (op : Operator) : OpR X (binaryOp op) (rop2 X.K (binD c op)) := by
  cases op with
  | Add => exact op_addD
  | Sub => exact op_subD
  | Mult => exact op_mulD
  | Mod => exact op_modD
  | FloorDiv => exact op_fdivD
  | Pow => exact op_powD
  | _ => exact fun pins s σ H x y v u Q I rx ry ⟨ρ, M, d, e, m, r1, r2, q⟩ => q.elim
end

/-! ### comparisons -/
def notN : PyData → Bool
  | .none => false
  | _ => true
def ltP (a b : PyData) : Option Bool := match a, b with
  | .int i, .int j => some (decide (i < j))
  | .str x, .str y => some (decide (x.cps.toList < y.cps.toList))
  | a, b => if PySem.W.alike a b = true ∧ notN a = true ∧ (okd a || okd b) = true then some (PySem.W.dataLt a b) else none
def leP (a b : PyData) : Option Bool := match a, b with
  | .int i, .int j => some (decide (i ≤ j))
  | .str x, .str y => some (!decide (y.cps.toList < x.cps.toList))
  | a, b => if PySem.W.alike a b = true ∧ notN a = true ∧ (okd a || okd b) = true then some (!PySem.W.dataLt b a) else none
def eqP (a b : PyData) : Option Bool := if (okd a || okd b) = true then some (PyData.eqv a b) else none
def inP (a b : PyData) : Option Bool := match b with
  | .list xs => if okd a = true then some (xs.any fun y => PyData.eqv y a) else none
  | .tuple xs => if okd a = true then some (xs.any fun y => PyData.eqv y a) else none
  | .str z => match a with
    | .str x => some (!(Builtin.Str.occurrences z x 0 z.length 1).isEmpty)
    | _ => none
  | _ => none
def isP (a : D) (b : D) : Option Bool := match b with
  | .p .none => match a with
    | .p .none => some true
    | _ => some false
  | .p (.bool y) => match a with
    | .p (.bool x) => some (decide (x = y))
    | _ => none
  | _ => none
def two (f : PyData → PyData → Option Bool) (a b : D) (M : Mem) : Option (D × Mem) := match res 6 M a, res 6 M b with
  | some x, some y => (f x y).map fun k => (.p (.bool k), M)
  | _, _ => none
def cmpD : CmpOp → D → D → Mem → Option (D × Mem)
  | .Eq => two eqP
  | .NotEq => two fun a b => (eqP a b).map (!·)
  | .Lt => two ltP
  | .Gt => two fun a b => ltP b a
  | .LtE => two leP
  | .GtE => two fun a b => leP b a
  | .In => two inP
  | .NotIn => two fun a b => (inP a b).map (!·)
  | .Is => fun a b M => (isP a b).map fun k => (.p (.bool k), M)
  | .IsNot => fun a b M => (isP a b).map fun k => (.p (.bool (!k)), M)

section
variable {X : Cx}
theorem two_ok {op : Value → Value → Sem Value} {f : PyData → PyData → Option Bool}
    (h : ∀ (s : Shared) (a b : PyData) (v u : Value) (as bs : List Addr) (k : Bool) (Q : Value → Shared → Prop) (E : Value → Shared → Prop), f a b = some k → Reads s.heap v a as → Reads s.heap u b bs → a.plain = true → b.plain = true → Q (.bool k) s → wpAny (model X.prog X.w) X.A (op v u) Q E s) :
    OpR X op (rop2 X.K (two f)) := by
  intro pins s σ H x y v u Q I rx ry hq
  obtain ⟨ρ, M, d, e, m, r1, r2, q⟩ := hq
  unfold two at q
  split at q
  · rename_i a b h1 h2
    have d1 := res_ok m 6 r1 h1
    have d2 := res_ok m 6 r2 h2
    obtain ⟨as, q1⟩ := Dp.reads I a x v d1 rx
    obtain ⟨bs, q2⟩ := Dp.reads I b y u d2 ry
    cases e : f a b with
    | none => rw [e] at q; exact q.elim
    | some k =>
      rw [e] at q
      exact h s a b v u as bs k _ _ e q1 q2 (dp_plain d1) (dp_plain d2) ⟨.bl k, H, I, rfl, q _ ρ H m (Le.refl _ _) (Pr (.bl k))⟩
  · exact q.elim
theorem okd_min {A : Around} {a b : PyData} (hu : A.units + 150 < cLine) (h : (okd a || okd b) = true) : A.units + min a.depth b.depth < cLine := by
  unfold okd at h
  simp only [Bool.or_eq_true, decide_eq_true_eq] at h
  have h1 : min a.depth b.depth ≤ 100 := by omega
  omega
theorem eqP_ok {op : Value → Value → Sem Value} (hu : X.A.units + 150 < cLine) (neg : Bool → Bool)
    (rule : ∀ (s : Shared) (a b : PyData) (v u : Value) (as bs : List Addr) (Q : Value → Shared → Prop) (E : Value → Shared → Prop), Reads s.heap v a as → Reads s.heap u b bs → a.plain = true → b.plain = true → X.A.units + min a.depth b.depth < cLine → Q (.bool (neg (PyData.eqv a b))) s → wpAny (model X.prog X.w) X.A (op v u) Q E s) :
    OpR X op (rop2 X.K (two fun a b => (eqP a b).map neg)) := two_ok fun s a b v u as bs k Q E h r1 r2 p1 p2 q => by
  unfold eqP at h
  split at h
  · rename_i z
    simp only [Option.map_some, Option.some.injEq] at h
    subst h
    exact rule s a b v u as bs Q E r1 r2 p1 p2 (okd_min hu z) q
  · cases h
theorem map_id {α : Type} (o : Option α) : o.map (fun x => x) = o := by cases o <;> rfl
theorem op_eqD' (hu : X.A.units + 150 < cLine) : OpR X (compareOp .Eq) (rop2 X.K (two eqP)) := by
  have := eqP_ok (X := X) (op := compareOp .Eq) hu (fun b => b) fun s a b v u as bs Q E r1 r2 p1 p2 hz q => SeqAt.eq_plain r1 r2 p1 p2 hz q
  simpa only [map_id] using this
theorem op_neD' (hu : X.A.units + 150 < cLine) : OpR X (compareOp .NotEq) (rop2 X.K (two fun a b => (eqP a b).map (!·))) :=
  eqP_ok hu (fun b => !b) fun s a b v u as bs Q E r1 r2 p1 p2 hz q => SeqAt.ne_plain r1 r2 p1 p2 hz q
theorem in_min {A : Around} {a : PyData} {xs : List PyData} (hu : A.units + 150 < cLine) (h : okd a = true) : A.units + 1 + min (PyData.depthAll xs) a.depth < cLine := by
  unfold okd at h
  simp only [decide_eq_true_eq] at h
  omega
theorem inP_ok {op : Value → Value → Sem Value} (hu : X.A.units + 150 < cLine) (neg : Bool → Bool)
    (rl : ∀ (s : Shared) (a : PyData) (xs : List PyData) (v u : Value) (as bs : List Addr) (Q : Value → Shared → Prop) (E : Value → Shared → Prop), Reads s.heap u (.list xs) bs → Reads s.heap v a as → PyData.plainAll xs = true → a.plain = true → X.A.units + 1 + min (PyData.depthAll xs) a.depth < cLine → Q (.bool (neg (xs.any fun y => PyData.eqv y a))) s → wpAny (model X.prog X.w) X.A (op v u) Q E s)
    (rt : ∀ (s : Shared) (a : PyData) (xs : List PyData) (v u : Value) (as bs : List Addr) (Q : Value → Shared → Prop) (E : Value → Shared → Prop), Reads s.heap u (.tuple xs) bs → Reads s.heap v a as → PyData.plainAll xs = true → a.plain = true → X.A.units + 1 + min (PyData.depthAll xs) a.depth < cLine → Q (.bool (neg (xs.any fun y => PyData.eqv y a))) s → wpAny (model X.prog X.w) X.A (op v u) Q E s)
    (rs : ∀ (s : Shared) (x z : Str) (t t' : Tok) (Q : Value → Shared → Prop) (E : Value → Shared → Prop), Q (.bool (neg (!(Builtin.Str.occurrences z x 0 z.length 1).isEmpty))) s → wpAny (model X.prog X.w) X.A (op (.str x t) (.str z t')) Q E s) :
    OpR X op (rop2 X.K (two fun a b => (inP a b).map neg)) := two_ok fun s a b v u as bs k Q E h r1 r2 p1 p2 q => by
  cases b with
  | list xs =>
    simp only [inP] at h
    split at h
    · rename_i z
      simp only [Option.map_some, Option.some.injEq] at h
      subst h
      exact rl s a xs v u as bs Q E r2 r1 (by simpa only [PyData.plain] using p2) p1 (in_min hu z) q
    · cases h
  | tuple xs =>
    simp only [inP] at h
    split at h
    · rename_i z
      simp only [Option.map_some, Option.some.injEq] at h
      subst h
      exact rt s a xs v u as bs Q E r2 r1 (by simpa only [PyData.plain] using p2) p1 (in_min hu z) q
    · cases h
  | str z =>
    cases a with
    | str x =>
      simp only [inP, Option.map_some, Option.some.injEq] at h
      subst h
      cases r1; cases r2
      exact rs s x z _ _ Q E q
    | _ => cases h
  | _ => cases h
theorem notN_ne {a : PyData} (h : notN a = true) : a ≠ .none := by
  intro e; subst e; cases h
theorem lt_ok {op : Value → Value → Sem Value} (hu : X.A.units + 150 < cLine) (f : PyData → PyData → Option Bool) (gi : Int → Int → Bool) (gs : Str → Str → Bool) (gd : PyData → PyData → Bool)
    (hi : ∀ i j, f (.int i) (.int j) = some (gi i j)) (hs : ∀ x y, f (.str x) (.str y) = some (gs x y))
    (hd : ∀ a b k, f a b = some k → (∃ i j, a = .int i ∧ b = .int j) ∨ (∃ x y, a = .str x ∧ b = .str y) ∨ (k = gd a b ∧ PySem.W.alike a b = true ∧ notN a = true ∧ (okd a || okd b) = true))
    (ri : ∀ (s : Shared) (i j : Int) (t u : Tok) (Q : Value → Shared → Prop) (E : Value → Shared → Prop), Q (.bool (gi i j)) s → wpAny (model X.prog X.w) X.A (op (.int i t) (.int j u)) Q E s)
    (rs : ∀ (s : Shared) (x y : Str) (t u : Tok) (Q : Value → Shared → Prop) (E : Value → Shared → Prop), Q (.bool (gs x y)) s → wpAny (model X.prog X.w) X.A (op (.str x t) (.str y u)) Q E s)
    (rd : ∀ (s : Shared) (a b : PyData) (v u : Value) (as bs : List Addr) (Q : Value → Shared → Prop) (E : Value → Shared → Prop), Reads s.heap v a as → Reads s.heap u b bs → PySem.W.alike a b = true → a ≠ .none → X.A.units + min a.depth b.depth < cLine → Q (.bool (gd a b)) s → wpAny (model X.prog X.w) X.A (op v u) Q E s) :
    OpR X op (rop2 X.K (two f)) := two_ok fun s a b v u as bs k Q E h r1 r2 p1 p2 q => by
  rcases hd a b k h with ⟨i, j, rfl, rfl⟩ | ⟨x, y, rfl, rfl⟩ | ⟨e, h1, h2, h3⟩
  · rw [hi] at h
    cases h; cases r1; cases r2
    exact ri s i j _ _ Q E q
  · rw [hs] at h
    cases h; cases r1; cases r2
    exact rs s x y _ _ Q E q
  · subst e
    exact rd s a b v u as bs Q E r1 r2 h1 (notN_ne h2) (okd_min hu h3) q
theorem ltP_cases {a b : PyData} {k : Bool} (h : ltP a b = some k) : (∃ i j, a = .int i ∧ b = .int j) ∨ (∃ x y, a = .str x ∧ b = .str y) ∨ (k = PySem.W.dataLt a b ∧ PySem.W.alike a b = true ∧ notN a = true ∧ (okd a || okd b) = true) := by
  unfold ltP at h
  split at h
  · exact .inl ⟨_, _, rfl, rfl⟩
  · exact .inr (.inl ⟨_, _, rfl, rfl⟩)
  · split at h
    · rename_i z
      cases h
      exact .inr (.inr ⟨rfl, z⟩)
    · cases h
theorem leP_cases {a b : PyData} {k : Bool} (h : leP a b = some k) : (∃ i j, a = .int i ∧ b = .int j) ∨ (∃ x y, a = .str x ∧ b = .str y) ∨ (k = (!PySem.W.dataLt b a) ∧ PySem.W.alike a b = true ∧ notN a = true ∧ (okd a || okd b) = true) := by
  unfold leP at h
  split at h
  · exact .inl ⟨_, _, rfl, rfl⟩
  · exact .inr (.inl ⟨_, _, rfl, rfl⟩)
  · split at h
    · rename_i z
      cases h
      exact .inr (.inr ⟨rfl, z⟩)
    · cases h
theorem alike_sw {a b : PyData} (h : PySem.W.alike b a = true ∧ notN b = true ∧ (okd b || okd a) = true) : PySem.W.alike a b = true ∧ notN a = true ∧ (okd a || okd b) = true := by
  obtain ⟨h1, h2, h3⟩ := h
  have h4 : PySem.W.alike a b = true := by rw [PySem.W.alike_comm]; exact h1
  refine ⟨h4, ?_, by rw [Bool.or_comm]; exact h3⟩
  cases a with
  | none =>
    cases b with
    | none => exact h2
    | _ => simp only [PySem.W.alike] at h4; cases h4
  | _ => rfl
theorem op_cmpD (hu : X.A.units + 150 < cLine) (op : CmpOp) : OpR X (compareOp op) (rop2 X.K (cmpD op)) := by
  cases op with
  | Eq => exact op_eqD' hu
  | NotEq => exact op_neD' hu
  | Lt =>
    exact lt_ok hu ltP (fun i j => decide (i < j)) (fun x y => decide (x.cps.toList < y.cps.toList)) PySem.W.dataLt (fun _ _ => rfl) (fun _ _ => rfl) (fun a b k h => ltP_cases h)
      (fun s i j t u Q E q => lt_int q) (fun s i j t u Q E q => PyProof.Rows.lt_str q) fun s a b v u as bs Q E r1 r2 h1 h2 h3 q => PySem.W.lt_data r1 r2 h1 h2 h3 q
  | Gt =>
    refine lt_ok hu (fun a b => ltP b a) (fun i j => decide (j < i)) (fun x y => decide (y.cps.toList < x.cps.toList)) (fun a b => PySem.W.dataLt b a) (fun _ _ => rfl) (fun _ _ => rfl) (fun a b k h => ?_)
      (fun s i j t u Q E q => gt_int q) (fun s i j t u Q E q => PySem.P.gt_str q) fun s a b v u as bs Q E r1 r2 h1 h2 h3 q => PySem.W.gt_data r1 r2 h1 h2 h3 q
    rcases ltP_cases h with ⟨i, j, e1, e2⟩ | ⟨i, j, e1, e2⟩ | ⟨e, z⟩
    · exact .inl ⟨_, _, e2, e1⟩
    · exact .inr (.inl ⟨_, _, e2, e1⟩)
    · exact .inr (.inr ⟨e, alike_sw z⟩)
  | LtE =>
    exact lt_ok hu leP (fun i j => decide (i ≤ j)) (fun x y => !decide (y.cps.toList < x.cps.toList)) (fun a b => !PySem.W.dataLt b a) (fun _ _ => rfl) (fun _ _ => rfl) (fun a b k h => leP_cases h)
      (fun s i j t u Q E q => le_int q) (fun s i j t u Q E q => PySem.P.le_str q) fun s a b v u as bs Q E r1 r2 h1 h2 h3 q => PySem.W.le_data r1 r2 h1 h2 h3 q
  | GtE =>
    refine lt_ok hu (fun a b => leP b a) (fun i j => decide (j ≤ i)) (fun x y => !decide (x.cps.toList < y.cps.toList)) (fun a b => !PySem.W.dataLt a b) (fun _ _ => rfl) (fun _ _ => rfl) (fun a b k h => ?_)
      (fun s i j t u Q E q => ge_int q) (fun s i j t u Q E q => PySem.P.ge_str q) fun s a b v u as bs Q E r1 r2 h1 h2 h3 q => PySem.W.ge_data r1 r2 h1 h2 h3 q
    rcases leP_cases h with ⟨i, j, e1, e2⟩ | ⟨i, j, e1, e2⟩ | ⟨e, z⟩
    · exact .inl ⟨_, _, e2, e1⟩
    · exact .inr (.inl ⟨_, _, e2, e1⟩)
    · exact .inr (.inr ⟨e, alike_sw z⟩)
  | In =>
    have := inP_ok (X := X) (op := compareOp .In) hu (fun b => b) (fun s a xs v u as bs Q E r1 r2 p1 p2 hz q => SeqAt.in_list_data r1 r2 p1 p2 hz q) (fun s a xs v u as bs Q E r1 r2 p1 p2 hz q => SeqAt.in_tuple_data r1 r2 p1 p2 hz q) fun s x z t t' Q E q => in_str q
    have this2 : OpR X (compareOp .In) (rop2 X.K (two inP)) := by simpa only [map_id] using this
    exact this2
  | NotIn =>
    exact inP_ok (X := X) (op := compareOp .NotIn) hu (fun b => !b) (fun s a xs v u as bs Q E r1 r2 p1 p2 hz q => SeqAt.notIn_list_data r1 r2 p1 p2 hz q) (fun s a xs v u as bs Q E r1 r2 p1 p2 hz q => SeqAt.notIn_tuple_data r1 r2 p1 p2 hz q) fun s x z t t' Q E q => notIn_str q
  | Is =>
    intro pins s σ H x y v u Q I rx ry hq
    obtain ⟨ρ, M, d, e, m, r1, r2, q⟩ := hq
    have fin : ∀ k, isP d e = some k → Q (.bl k) H := fun k h => by
      simp only [cmpD, h] at q
      exact q _ ρ H m (Le.refl _ _) (Pr (.bl k))
    cases h : isP d e with
    | none => simp only [cmpD, h] at q; exact q.elim
    | some k =>
      have f := fin k h
      unfold isP at h
      split at h
      · cases relP r2
        split at h
        · cases relP r1; cases h
          exact op_isN pins s σ H _ _ v u Q I rx ry ⟨rfl, f⟩
        · rename_i hn
          cases h
          refine op_isN pins s σ H _ _ v u Q I rx ry ⟨rfl, ?_⟩
          have : x ≠ .non := by
            rintro rfl
            cases d with
            | p z => cases relP r1; exact hn rfl
            | ref m => unfold RelD at r1; obtain ⟨a, _, z⟩ := r1; cases z
            | tr ds => unfold RelD at r1; obtain ⟨a, _, z, _⟩ := r1; cases z
          rw [decide_eq_false this]
          exact f
      · cases relP r2
        split at h
        · cases relP r1; cases h
          exact op_is_bl pins s σ H _ _ v u Q I rx ry ⟨_, _, rfl, rfl, f⟩
        · cases h
      · cases h
  | IsNot =>
    intro pins s σ H x y v u Q I rx ry hq
    obtain ⟨ρ, M, d, e, m, r1, r2, q⟩ := hq
    have fin : ∀ k, isP d e = some k → Q (.bl (!k)) H := fun k h => by
      simp only [cmpD, h] at q
      exact q _ ρ H m (Le.refl _ _) (Pr (.bl (!k)))
    cases h : isP d e with
    | none => simp only [cmpD, h] at q; exact q.elim
    | some k =>
      have f := fin k h
      unfold isP at h
      split at h
      · cases relP r2
        split at h
        · cases relP r1; cases h
          exact op_notN pins s σ H _ _ v u Q I rx ry ⟨rfl, f⟩
        · rename_i hn
          cases h
          refine op_notN pins s σ H _ _ v u Q I rx ry ⟨rfl, ?_⟩
          have : x ≠ .non := by
            rintro rfl
            cases d with
            | p z => cases relP r1; exact hn rfl
            | ref m => unfold RelD at r1; obtain ⟨a, _, z⟩ := r1; cases z
            | tr ds => unfold RelD at r1; obtain ⟨a, _, z, _⟩ := r1; cases z
          rw [decide_eq_false this]
          exact f
      · cases relP r2
        split at h
        · cases relP r1; cases h
          exact op_isnot_bl pins s σ H _ _ v u Q I rx ry ⟨_, _, rfl, rfl, f⟩
        · cases h
      · cases h
end
end Mini

/-! Mini, part y: sets of scannable keys whose order may be walked. -/
namespace Mini
open PySem PySem.Spec PyProof.Rows L2

section
variable {P : Program} {w : World} {κ : Type} [DecidableEq κ] (knd : KeyKind P w κ)
/-- an entry is the key k -/
def EntOf (e : Int × Value) (k : κ) : Prop := knd.is k e.2 = true ∧ e.1 = knd.hash k ∧ e.2.scannable = true
/-- at a lies a set of exactly the keys ks (in some order), fit to be walked -/
def SetX (h : Heap) (a : Addr) (ks : List κ) : Prop :=
  ∃ (o : Obj) (es : Array (Int × Value)) (ep : Nat) (t : SetTable) (l : List κ), h.get? a = some o ∧ o.ExactSet ∧ o.data = .set es ep t ∧ Paired (EntOf knd) es.toList l ∧ l.Perm ks ∧ ks.Nodup ∧
    es.size < scanBound ∧ t.fits es.size = true ∧ Ris t.place.toList ∧ (w.params.followText "set-order" = true ∨ t.led = true)
variable {knd}
theorem paired_perm {α β : Type} {R : α → β → Prop} {as as' : List α} (p : as'.Perm as) : ∀ {bs : List β}, Paired R as bs → ∃ bs', Paired R as' bs' ∧ bs'.Perm bs := by
  induction p with
  | nil => intro bs h; cases h; exact ⟨[], .nil, .nil⟩
  | cons x _ ih =>
    intro bs h
    cases h with
    | cons r t =>
      obtain ⟨bs', h1, h2⟩ := ih t
      exact ⟨_, .cons r h1, h2.cons _⟩
  | swap x y l =>
    intro bs h
    cases h with
    | cons r t =>
      cases t with
      | cons r' t' => exact ⟨_, .cons r' (.cons r t'), .swap _ _ _⟩
  | trans _ _ ih1 ih2 =>
    intro bs h
    obtain ⟨b1, h1, p1⟩ := ih2 h
    obtain ⟨b2, h2, p2⟩ := ih1 h1
    exact ⟨b2, h2, p2.trans p1⟩
theorem paired_mem {α β : Type} {R : α → β → Prop} : ∀ {as : List α} {bs : List β}, Paired R as bs → ∀ a ∈ as, ∃ b ∈ bs, R a b
  | _, _, .nil, a, h => nomatch h
  | _, _, .cons r t, a, h => by
    rcases List.mem_cons.mp h with e | h
    · subst e; exact ⟨_, List.mem_cons_self, r⟩
    · obtain ⟨b, h1, h2⟩ := paired_mem t a h
      exact ⟨b, List.mem_cons_of_mem _ h1, h2⟩
theorem paired_mem2 {α β : Type} {R : α → β → Prop} : ∀ {as : List α} {bs : List β}, Paired R as bs → ∀ b ∈ bs, ∃ a ∈ as, R a b
  | _, _, .nil, a, h => nomatch h
  | _, _, .cons r t, b, h => by
    rcases List.mem_cons.mp h with e | h
    · subst e; exact ⟨_, List.mem_cons_self, r⟩
    · obtain ⟨b, h1, h2⟩ := paired_mem2 t b h
      exact ⟨b, List.mem_cons_of_mem _ h1, h2⟩
theorem elems_of {es : List (Int × Value)} {l : List κ} (h : Paired (EntOf knd) es l) : ElemsOf knd es := fun e he => by
  obtain ⟨k, _, h1, h2, h3⟩ := paired_mem h e he
  exact ⟨⟨k, h1, h2⟩, h3⟩
theorem SetX.perm {h : Heap} {a : Addr} {ks ks' : List κ} (x : SetX knd h a ks) (p : ks.Perm ks') : SetX knd h a ks' := by
  obtain ⟨o, es, ep, t, l, x1, x2, x3, x4, x5, x6, x7⟩ := x
  exact ⟨o, es, ep, t, l, x1, x2, x3, x4, x5.trans p, p.nodup_iff.mp x6, x7⟩
theorem SetX.at {h h' : Heap} {a : Addr} {ks : List κ} (x : SetX knd h a ks) (k : ∀ o, h.get? a = some o → h'.get? a = some o) : SetX knd h' a ks := by
  obtain ⟨o, es, ep, t, l, x1, x2⟩ := x
  exact ⟨o, es, ep, t, l, k o x1, x2⟩
theorem SetX.typeIs {s : Shared} {a : Addr} {ks : List κ} (x : SetX knd s.heap a ks) : s.TypeIs (.ref a) "set" := by
  obtain ⟨o, es, ep, t, l, x1, x2, _⟩ := x
  exact ⟨o, x1, x2.1⟩
theorem setX_new (h : Heap) : SetX knd (h.push { cls := .type "set", dict := none, data := .set #[] 0 (.fresh 0 0 (!w.params.followText "set-order")) }) h.objs.size [] := by
  refine ⟨_, #[], 0, _, [], Heap.get?_push_size _ rfl, ⟨rfl, rfl, rfl⟩, rfl, .nil, .nil, List.nodup_nil, by decide, rfl, List.Pairwise.nil, ?_⟩
  show _ ∨ (!w.params.followText "set-order") = true
  cases w.params.followText "set-order" with
  | true => exact .inl rfl
  | false => exact .inr rfl
section
variable {A : Around} {E : Value → Shared → Prop} {s : Shared} {a : Addr} {ks : List κ}
theorem put_at {h : Heap} {o : Obj} {es es' : Array (Int × Value)} {ep : Nat} {t t' : SetTable} (ho : h.get? a = some o) (hd : o.data = .set es ep t) : (h.update a (Obj.putSet es' t')).get? a = some { o with data := .set es' (ep + 1) t' } :=
  (Heap.get?_update_self (Obj.putSet es' t') ho (by rw [putSet_of es' t' hd]; rfl)).trans (congrArg some (putSet_of es' t' hd))
/-- the new entries are laid, perhaps the table grows -/
theorem lay_ok {g : Bool → Sem Unit} (free : ∀ (b : Bool) (s₁ : Shared) (Q' : Unit → Shared → Prop), Q' () s₁ → wpAny (model P w) A (g b) Q' E s₁) {o : Obj} {es es1 : Array (Int × Value)} {ep : Nat} {t t2 : SetTable} {l : List κ}
    (ho : s.heap.get? a = some o) (ex : o.ExactSet) (hd : o.data = .set es ep t) (pr : Paired (EntOf knd) es1.toList l) (pm : l.Perm ks) (nd : ks.Nodup) (few : es1.size < scanBound) (ft : t2.fits es1.size = true) (ri : Ris t2.place.toList) (ld : w.params.followText "set-order" = true ∨ t2.led = true)
    {dm : Bool} {R : Option Bool → Shared → Prop} (fin : ∀ h', Heap.SameBut a s.heap h' → SetX knd h' a ks → R (some true) { s with heap := h' }) :
    wpAny (model P w) A (do
      storeSet a es1 t2
      if (!dm && t2.tooFull) = true then do
        g (relayAll t2 es1 (SetTable.grown es1.size)).2.2
        storeSet a (relayAll t2 es1 (SetTable.grown es1.size)).1 (relayAll t2 es1 (SetTable.grown es1.size)).2.1
        pure (some true)
      else pure (some true)) R E s := by
  have o1 := put_at (es' := es1) (t' := t2) ho hd
  have sb1 := Heap.SameBut.update s.heap a (Obj.putSet es1 t2)
  refine wpAny_bind (wpAny_storeSet_of ho hd ?_ (fits_of_scanBound few))
  by_cases full : (!dm && t2.tooFull) = true
  · rw [if_pos full]
    have p2 := relayAll_perm t2 es1 (SetTable.grown es1.size)
    have f2 := relayAll_fits t2 es1 (SetTable.grown es1.size)
    have r2 := relayAll_ris t2 es1 (SetTable.grown es1.size)
    have l2 := relayAll_led t2 es1 (SetTable.grown es1.size)
    generalize relayAll t2 es1 (SetTable.grown es1.size) = Z at p2 f2 r2 l2 ⊢
    obtain ⟨es2, t3, gave⟩ := Z
    dsimp only at p2 f2 r2 l2 ⊢
    obtain ⟨lz, pr2, pm2⟩ := paired_perm p2 pr
    have sz : es2.size = es1.size := by rw [← Array.length_toList, p2.length_eq, Array.length_toList]
    have few2 : es2.size < scanBound := by rw [sz]; exact few
    have o2 := put_at (es' := es2) (t' := t3) o1 rfl
    have sb2 := sb1.trans (Heap.SameBut.update _ a (Obj.putSet es2 t3))
    have ld2 : w.params.followText "set-order" = true ∨ t3.led = true := ld.imp id fun z => by rw [l2]; exact z
    refine wpAny_bind (free _ _ _ (wpAny_bind (wpAny_storeSet_of o1 rfl ?_ (fits_of_scanBound few2))))
    exact wpAny_pure (fin _ sb2 ⟨_, es2, _, t3, lz, o2, ex, rfl, pr2, pm2.trans pm, nd, few2, f2, r2, ld2⟩)
  · rw [if_neg full]
    exact wpAny_pure (fin _ sb1 ⟨_, _, _, _, l, o1, ex, rfl, pr, pm, nd, few, ft, ri, ld⟩)
/-- the keys with k -/
def withK (ks : List κ) (k : κ) : List κ := if k ∈ ks then ks else ks ++ [k]
theorem addH_ok {k : κ} {v : Value} {Q : Bool → Shared → Prop} (hk : knd.is k v = true) (sc : v.scannable = true) (x : SetX knd s.heap a ks) (room : ks.length + 1 < scanBound)
    (hQ : ∀ (b : Bool) (h' : Heap), Heap.SameBut a s.heap h' → SetX knd h' a (withK ks k) → Q b { s with heap := h' }) : wpAny (model P w) A (setAddHashed a v (knd.hash k)) Q E s := by
  obtain ⟨o, es, ep, t, l, ho, ex, hd, pr, pm, nd, few, ft, ri, ld⟩ := id x
  have el := elems_of pr
  have len : es.toList.length = l.length := pr.length
  unfold setAddHashed setAddHashedIn
  refine wpAny_holding (wpAny_bind (wpAny_setState_of ho hd ft ?_))
  dsimp only
  rw [byScan_of sc few el, if_pos rfl]
  unfold setAddByScan
  refine wpAny_bind (wpAny_bind (wpAny_rule (wpAny_bind (wpAny_setScan_of hk ho hd ft el ?_))))
  have inj : ∀ e k', EntOf knd e k' → (knd.is k e.2 = true ↔ k' = k) := fun e k' ⟨h1, _, _⟩ => ⟨fun h => knd.inj _ _ _ h1 h, fun h => h ▸ h1⟩
  cases hfi : es.toList.findIdx? (fun e => knd.is k e.2) with
  | some j =>
    dsimp only
    obtain ⟨hj, pj, _⟩ := List.findIdx?_eq_some_iff_getElem.mp hfi
    obtain ⟨k', hm, he⟩ := paired_mem pr _ (List.getElem_mem hj)
    have ek : k' = k := (inj _ _ he).mp pj
    have km : k ∈ ks := pm.mem_iff.mp (ek ▸ hm)
    refine wpAny_pure (wpAny_pure (hQ _ s.heap (Heap.SameBut.refl a s.heap) ?_))
    unfold withK
    rw [if_pos km]
    exact x
  | none =>
    dsimp only
    have kn : k ∉ ks := fun km => by
      obtain ⟨e, he, hr⟩ := paired_mem2 pr k (pm.mem_iff.mpr km)
      have := List.findIdx?_eq_none_iff.mp hfi e he
      rw [hr.1] at this
      cases this
    have ew : withK ks k = ks ++ [k] := if_neg kn
    have freeW : ∀ (b : Bool) {s₁ : Shared} {Q' : Unit → Shared → Prop}, Q' () s₁ → wpAny (model P w) A (match b with | true => rule "set.scan.the-table-gave-way" | false => pure ()) Q' E s₁ := by
      intro b s₁ Q' q
      cases b with
      | false => exact wpAny_pure q
      | true => exact wpAny_rule q
    have p1 := layNew_perm t es (knd.hash k) v
    have f1 := layNew_fits t es (knd.hash k) v
    have r1 := layNew_ris t es (knd.hash k) v ri
    have l1 := layNew_led t es (knd.hash k) v
    generalize layNew t es (knd.hash k) v = Z at p1 f1 r1 l1 ⊢
    obtain ⟨es1, t1, dm, gave⟩ := Z
    dsimp only at p1 f1 r1 l1 ⊢
    have pc : es1.toList.Perm ((knd.hash k, v) :: es.toList) := by
      rw [Array.toList_push] at p1
      exact p1.trans (List.perm_append_singleton _ _)
    obtain ⟨l', pr1, pm1⟩ := paired_perm pc (Paired.cons (F := EntOf knd) (a := (knd.hash k, v)) (b := k) ⟨hk, rfl, sc⟩ pr)
    have pmk : l'.Perm (ks ++ [k]) := pm1.trans ((pm.cons k).trans (List.perm_append_singleton _ _).symm)
    have ndk : (ks ++ [k]).Nodup := (List.perm_append_singleton k ks).nodup_iff.mpr (List.nodup_cons.mpr ⟨kn, nd⟩)
    have sz : es1.size = ks.length + 1 := by rw [← Array.length_toList, pc.length_eq, List.length_cons, len, pm.length_eq]
    have ldk : w.params.followText "set-order" = true ∨ t1.led = true := ld.imp id fun z => l1.trans z
    have fin : ∀ h', Heap.SameBut a s.heap h' → SetX knd h' a (ks ++ [k]) → Q true { s with heap := h' } := fun h' sb r => hQ true h' sb (by rw [ew]; exact r)
    refine wpAny_bind (freeW _ ?_)
    split
    · rw [hashByValue_scannable 8 sc]
      refine wpAny_bind (wpAny_pure ?_)
      refine lay_ok (ks := ks ++ [k]) (l := l') ?_ ho ex hd pr1 pmk ndk (sz ▸ room) ?_ ?_ ?_ ?_
      · intro b s₁ Q' q
        exact freeW b q
      · split <;> first | exact f1 | exact SetTable.fits_plain_off f1
      · split <;> exact r1
      · split <;> exact ldk
      · intro h' sb r
        exact wpAny_pure (fin h' sb r)
    · refine wpAny_bind (wpAny_pure ?_)
      simp only [↓reduceIte]
      refine lay_ok (ks := ks ++ [k]) (l := l') ?_ ho ex hd pr1 pmk ndk (sz ▸ room) f1 r1 ldk ?_
      · intro b s₁ Q' q
        exact freeW b q
      · intro h' sb r
        exact wpAny_pure (fin h' sb r)
theorem add_ok {k : κ} {v : Value} {Q : Bool → Shared → Prop} (hk : knd.is k v = true) (sc : v.scannable = true) (x : SetX knd s.heap a ks) (room : ks.length + 1 < scanBound)
    (hQ : ∀ (b : Bool) (h' : Heap), Heap.SameBut a s.heap h' → SetX knd h' a (withK ks k) → Q b { s with heap := h', toks := s.toks + 1 }) : wpAny (model P w) A (setAdd a v) Q E s := by
  unfold setAdd
  exact wpAny_holding (wpAny_bind (knd.pyHash hk (addH_ok (s := { s with toks := s.toks + 1 }) hk sc x room hQ)))
end
end
end Mini

/-! Mini, part z: set comprehensions of keys. -/
namespace Mini
open PySem PySem.Spec PyProof.Rows L2

/-- a reading of a term that makes a set: its keys -/
abbrev TX := L2.St → Hp → (List Key → Hp → Prop) → Prop
/-- the term makes a set that nobody else knows -/
structure PX (X : Cx) (e : Expr) (t : TX) : Prop where
  run : ∀ (pins : List (Addr × Obj)) (s : Shared) (σ : L2.St) (H : Hp) (Q : List Key → Hp → Prop), Inv X pins σ H s → t σ H Q →
    wpAny (model X.prog X.w) X.A (eval e X.env) (fun u s' => ∃ (D : Addr) (ks : List Key) (H' : Hp), u = .ref D ∧ Inv X pins σ H' s' ∧ H' D = none ∧ SetX (mixKind X.prog X.w) s'.heap D ks ∧ Q ks H') X.xe s
theorem PX.imp {X : Cx} {e : Expr} {t t' : TX} (h : PX X e t) (k : ∀ σ H Q, t' σ H Q → t σ H Q) : PX X e t' := ⟨fun pins s σ H Q I q => h.run pins s σ H Q I (k _ _ _ q)⟩
section
variable {X : Cx}
theorem newSet_at {P : Program} {w : World} {A : Around} {E : Value → Shared → Prop} {s : Shared} {Q : Value → Shared → Prop}
    (h : Q (.ref s.heap.objs.size) { s with heap := s.heap.push { cls := .type "set", dict := none, data := .set #[] 0 (.fresh 0 0 (!w.params.followText "set-order")) } }) : wpAny (model P w) A (newSet (.type "set")) Q E s := PpSet.newSet_ok h
/-- set.add of a key: the set turns -/
theorem addX {pins : List (Addr × Obj)} {σ : L2.St} {H : Hp} {s : Shared} {E : Value → Shared → Prop} {D : Addr} {ks : List Key} {k : Key} {u : Value} {Q : Value → Shared → Prop} (I : Inv X pins σ H s) (f : FpOk X pins H D) (x : SetX (mixKind X.prog X.w) s.heap D ks) (r : RelV (kV k) u)
    (room : ks.length + 1 < scanBound) (h : ∀ s', Inv X pins σ H s' → SetX (mixKind X.prog X.w) s'.heap D (withK ks k) → (∀ b o, b ≠ D → s.heap.get? b = some o → s'.heap.get? b = some o) → Q .none s') : wpAny (model X.prog X.w) X.A (call (.builtin "set.add") [.ref D, u]) Q E s := by
  obtain ⟨f0, f1, f2, f3, f4, f5⟩ := f
  refine wpAny_call_entry PySem.F.slot_set_add x.typeIs PySem.F.entry_set_add ?_ (PySem.F.args_set_add_2 _ _)
  unfold Builtin.«set.add» Builtin.Frozenset.oneOther
  simp only [List.isEmpty_nil, bind_assoc]
  unfold Builtin.Frozenset.addrOf
  refine wpAny_bind (wpAny_pure ?_)
  try dsimp only
  refine wpAny_bind (wpAny_pure ?_)
  try dsimp only
  refine wpAny_bind (add_ok (kV_is r) (key_scan r) x room fun b h' sb x' => ?_)
  show wpAny _ _ (ret Value.none) _ _ _
  exact wpAny_pure ⟨_, rfl, h _ (I.turned (t' := s.toks + 1) (fun b o hb e => (sb.2 b hb).trans e) f0 f1 f3 f4 f5) x' fun b o hb e => (sb.2 b hb).trans e⟩
/-- {elt for target in iter if ..}, elt a key -/
def tScX (wi : TI) (g : TG) (tt : TT) (te : TE) (vs : List Nat) : TX := fun σ H Q => wi σ H fun J H1 => ∃ Wv : Nat → Nat → List Key → Hp → Prop, (∃ m, Wv 0 m [] H1) ∧ ∀ i m ks H, Wv i m ks H →
  (J.stop i H ∧ Q ks H) ∨ (J.go i H ∧ ∃ Nx : List Key → Hp → Prop, (∀ ks' H', Nx ks' H' → ∃ m', m' < m ∧ Wv (i + 1) m' ks' H') ∧ ∀ x H', J.yld i H x H' → g x (L2.wipe σ vs) H' fun σ2 H2 => L2.wipe σ2 vs = L2.wipe σ vs ∧ tt σ2 H2 fun b H3 =>
    if b = true then te σ2 H3 fun y H4 => ∃ k : Key, y = kV k ∧ ks.length + 1 < scanBound ∧ Nx (withK ks k) H4 else Nx ks H3)
theorem px_sc {elt tg iter : Expr} {ifs : List Expr} {scope : Scope} {own : List (PySem.Str × Nat)} {pos : Pos} {wi : TI} {g : TG} {tt : TT} {te : TE} (hc : X.calm = true) (hN : X.N.Nodup) (hi : PI X tg iter wi) (ok : BlkOk X.N X.env.scope scope own)
    (hg : ∀ (s : Shared) (H : Hp) (C : Addr) (cl : List (PySem.Str × Addr)) (fp : List Addr), PG (X.blk s H scope (compEnvC scope cl C X.env) fp) tg g) (ht : ∀ (s : Shared) (H : Hp) (C : Addr) (cl : List (PySem.Str × Addr)) (fp : List Addr), PTs (X.blk s H scope (compEnvC scope cl C X.env) fp) ifs tt)
    (he : ∀ (s : Shared) (H : Hp) (C : Addr) (cl : List (PySem.Str × Addr)) (fp : List Addr), PE (X.blk s H scope (compEnvC scope cl C X.env) fp) elt te) (hs : ∀ x, foldedSetIterable iter X.env x = pure x) :
    PX X (.SetComp elt [⟨tg, iter, ifs, 0⟩] scope pos) (tScX wi g tt te (own.map (·.2))) := by
  refine ⟨fun pins s σ H Q I h => ?_⟩
  have links : ∀ y ∈ scope.names, y.2 = .free → ∃ c, X.env.cells.lookup y.1 = some c := fun y hy e => I.ok.has _ (ok.free y hy e)
  rw [PpSet.eval_SetComp]
  refine wpAny_comprehension_free (use := none) rfl hs (closure_ok links) ok.kind (fun y hy e => by rw [ok.uniq y hy, e]) (thn (hi.run pins s σ H _ I h) fun xv s1 hx => thn hx fun itv s2 h2 => ?_)
  obtain ⟨it, fp, tn, J, H2, rfl, I2, T, st2, f2, Wv, ⟨m0, w0⟩, turn⟩ := h2
  refine newSet_at (newEnv_comp ?_)
  -- the new set is one more object of the iterator's
  have Dn : H2 s2.heap.objs.size = none := I2.hok.fresh (Nat.le_refl _)
  have fD : FpOk X pins H2 s2.heap.objs.size := I2.fpOk (Nat.le_refl _) Dn
  have old2 : ∀ b ∈ fp, b < s2.heap.objs.size := fun b hb => by
    obtain ⟨o, e, _⟩ := T.obj _ _ st2 b hb
    exact Heap.lt_size e
  have xD := setX_new (P := X.prog) (w := X.w) (knd := mixKind X.prog X.w) s2.heap
  have up3 : ∀ b o, s2.heap.get? b = some o → (s2.heap.push { cls := .type "set", dict := none, data := .set #[] 0 (.fresh 0 0 (!X.w.params.followText "set-order")) }).get? b = some o := fun b o e => Heap.get?_push_of_some _ e
  generalize hD : s2.heap.objs.size = D at Dn fD old2 xD
  generalize hh3 : s2.heap.push { cls := .type "set", dict := none, data := .set #[] 0 (.fresh 0 0 (!X.w.params.followText "set-order")) } = h3 at xD up3
  have I3 : Inv X pins σ H2 { s2 with heap := h3 } := I2.kept (t' := s2.toks) up3
  have z3 : h3.objs.size = D + 1 := by rw [← hh3, ← hD, Heap.size_push]
  have fpA : ∀ b ∈ D :: fp, FpOk X pins H2 b ∧ b < h3.objs.size := fun b hb => by
    rcases List.mem_cons.mp hb with e | e
    · rw [e]; exact ⟨fD, by rw [z3]; exact Nat.lt_succ_self _⟩
    · exact ⟨f2 b e, by rw [z3]; exact Nat.lt_succ_of_lt (old2 b e)⟩
  have notD : D ∉ fp := fun z => Nat.lt_irrefl _ (old2 D z)
  have I4 := block_start (fp := D :: fp) I3 ok hN fpA
  have pg := hg { s2 with heap := h3 } H2 h3.objs.size (cellsFrom (h3.objs.size + 1) scope.names (cloFrom X.env.cells scope.names [])) (D :: fp)
  have pt := ht { s2 with heap := h3 } H2 h3.objs.size (cellsFrom (h3.objs.size + 1) scope.names (cloFrom X.env.cells scope.names [])) (D :: fp)
  have pe := he { s2 with heap := h3 } H2 h3.objs.size (cellsFrom (h3.objs.size + 1) scope.names (cloFrom X.env.cells scope.names [])) (D :: fp)
  have upC : ∀ b o, h3.get? b = some o → (pushCells (h3.push { cls := .type "dict", data := .dict #[] }) scope.names).get? b = some o := fun b o e => pushCells_keeps _ _ _ _ (Heap.get?_push_of_some _ e)
  have st4 : tn 0 (pushCells (h3.push { cls := .type "dict", data := .dict #[] }) scope.names) := T.keep _ _ _ st2 fun b _ o e => upC b o (up3 b o e)
  have x4 : SetX (mixKind X.prog X.w) (pushCells (h3.push { cls := .type "dict", data := .dict #[] }) scope.names) D [] := xD.at fun o e => upC D o e
  show codeAny _ _ (.compStart (.SetComp elt [⟨tg, iter, ifs, 0⟩] scope pos) 0 (.ref it) (.ref D) (compEnvC scope (cellsFrom (h3.objs.size + 1) scope.names (cloFrom X.env.cells scope.names [])) h3.objs.size X.env)) (compPost (model X.prog X.w) X.A X.xe none _ (.ref D) h3.objs.size) { s2 with heap := pushCells (h3.push { cls := .type "dict", data := .dict #[] }) scope.names }
  generalize hce : compEnvC scope (cellsFrom (h3.objs.size + 1) scope.names (cloFrom X.env.cells scope.names [])) h3.objs.size X.env = ce at I4 pg pt pe ⊢
  have cL : ce.locals = h3.objs.size := by rw [← hce]; rfl
  generalize hs4 : ({ s2 with heap := pushCells (h3.push { cls := .type "dict", data := .dict #[] }) scope.names } : Shared) = s4 at I4 ⊢
  have st4 : tn 0 s4.heap := by rw [← hs4]; exact st4
  have x4 : SetX (mixKind X.prog X.w) s4.heap D [] := by rw [← hs4]; exact x4
  have stat : ∀ {σ' : L2.St} {H' : Hp} {s' : Shared}, Inv (X.blk { s2 with heap := h3 } H2 scope ce (D :: fp)) [] σ' H' s' → (∀ b ∈ D :: fp, H' b = none) → ∀ b ∈ D :: fp, FpOk (X.blk { s2 with heap := h3 } H2 scope ce (D :: fp)) [] H' b := fun {σ' H' s'} J' hn b hb =>
    ⟨hn b hb, (J'.ok.exf b hb).1, J'.ok.exfs b hb, .inl hb, fun x c e => (J'.ok.exf b hb).2 x c e, fun p hp => nomatch (show p ∈ ([] : List (Addr × Obj)) from hp)⟩
  have objs : ∀ {i : Nat} {h : Heap} {ks : List Key}, tn i h → SetX (mixKind X.prog X.w) h D ks → ∀ b ∈ D :: fp, ∃ o, h.get? b = some o ∧ ∀ v, o.data ≠ .cell v := fun {i h ks} t x b hb => by
    rcases List.mem_cons.mp hb with e | e
    · rw [e]
      obtain ⟨o, es, ep, tb, l, x1, x2, x3, _⟩ := x
      exact ⟨o, x1, fun v z => by rw [x3] at z; cases z⟩
    · exact T.obj _ _ t b e
  have loop : codeAny (model X.prog X.w) X.A (.compLoop (.SetComp elt [⟨tg, iter, ifs, 0⟩] scope pos) 0 (.ref it) (.ref D) ce) (compPost (model X.prog X.w) X.A X.xe none (fun u s' => ∃ (D : Addr) (ks : List Key) (H' : Hp), u = .ref D ∧ Inv X pins σ H' s' ∧ H' D = none ∧ SetX (mixKind X.prog X.w) s'.heap D ks ∧ Q ks H') (.ref D) h3.objs.size) s4 := by
    refine PpSet.compLoopS_any (fun n s' => ∃ i ks H', Inv (X.blk { s2 with heap := h3 } H2 scope ce (D :: fp)) [] (L2.wipe σ (own.map (·.2))) H' s' ∧ tn i s'.heap ∧ SetX (mixKind X.prog X.w) s'.heap D ks ∧ (∀ b ∈ D :: fp, H' b = none) ∧ Wv i n ks H') ?_ m0 ⟨0, [], H2, I4, st4, x4, fun b hb => (fpA b hb).1.1, w0⟩
    rintro n s5 ⟨i, ks, H5, I5, st5, x5, n5, w5⟩
    have nf5 : ∀ b ∈ fp, H5 b = none := fun b hb => n5 b (List.mem_cons_of_mem _ hb)
    have I5p : Inv (X.blk { s2 with heap := h3 } H2 scope ce (D :: fp)) ([] ++ pinsAt [D] s5.heap) (L2.wipe σ (own.map (·.2))) H5 s5 := I5.pinned (fun b hb => by
      have hb : b = D := by simpa using hb
      rw [hb]; exact stat I5 n5 D List.mem_cons_self) fun b hb => by
        have hb : b = D := by simpa using hb
        rw [hb]; exact objs st5 x5 D List.mem_cons_self
    have pinD : ∀ {H' : Hp} {s' : Shared} {σ' : L2.St}, Inv (X.blk { s2 with heap := h3 } H2 scope ce (D :: fp)) ([] ++ pinsAt [D] s5.heap) σ' H' s' → (∀ o, s5.heap.get? D = some o → s'.heap.get? D = some o) ∧ H' D = none := fun {H' s' σ'} J' => by
      obtain ⟨o, es, ep, tb, l, e, _⟩ := x5
      have := J'.pin (D, o) (List.mem_append_right _ (List.mem_append_right _ (mem_pinsAt List.mem_cons_self e)))
      refine ⟨fun o' e' => ?_, this.2.1⟩
      rw [e] at e'; cases e'
      exact this.1
    have fpI : ∀ b ∈ fp, FpOk (X.blk { s2 with heap := h3 } H2 scope ce (D :: fp)) ([] ++ pinsAt [D] s5.heap) H5 b := fun b hb => by
      obtain ⟨a0, a1, a2, a3, a4, _⟩ := stat I5 n5 b (List.mem_cons_of_mem _ hb)
      refine ⟨a0, a1, a2, a3, a4, fun p hp => ?_⟩
      have hp : p ∈ pinsAt [D] s5.heap := by simpa using hp
      have := (of_pinsAt hp).1
      have hp1 : p.1 = D := by simpa using this
      rw [hp1]
      exact fun z => notD (z ▸ hb)
    rcases turn i n ks H5 w5 with ⟨stop, qq⟩ | ⟨go, Nx, hNx, step⟩
    · have td := T.done (X.blk { s2 with heap := h3 } H2 scope ce (D :: fp)) rfl rfl rfl hc i _ s5 _ H5 (fun _ _ => False) I5p fpI st5 stop
      refine thnF td fun r s6 ⟨hr, I6⟩ => ?_
      subst hr
      have x6 := x5.at (pinD I6).1
      have I7 : Inv X pins σ H5 s6 := I3.call' (ch := D :: fp) I6.os I6.base I6.hok I6.bare fun b hb => ⟨(fpA b hb).1.2.2.2.1, (fpA b hb).1.2.1, (fpA b hb).1.2.2.2.2.1, (fpA b hb).1.2.2.2.2.2⟩
      have nC : H5 h3.objs.size = none := cL ▸ (show H5 ce.locals = none from I6.free)
      obtain ⟨m, hn, _⟩ := I6.loc
      have hn : s6.heap.Ns h3.objs.size m := cL ▸ (show s6.heap.Ns ce.locals m from hn)
      refine ⟨m, hn, fun h'' sb => ?_⟩
      obtain ⟨c0, c1, c2, c3, c4, c5⟩ := I3.fpOk (Nat.le_refl _) nC
      have Dne : D ≠ h3.objs.size := by rw [z3]; exact Nat.ne_of_lt (Nat.lt_succ_self _)
      exact ⟨D, ks, H5, rfl, I7.turned (t' := s6.toks) (fun b o hb e => (sb.2 b hb).trans e) c0 c1 c3 c4 c5, (pinD I6).2, x6.at fun o e => (sb.2 D Dne).trans e, qq⟩
    · have ti := T.item (X.blk { s2 with heap := h3 } H2 scope ce (D :: fp)) rfl rfl rfl hc i _ s5 _ H5 (fun _ _ => False) I5p fpI st5 go
      refine thnF ti fun r s6 ⟨u, hr, h6⟩ => ?_
      subst hr
      refine thnF h6 fun _ s7 ⟨x, H7, I7, r7, y7, st7, n7⟩ => ?_
      have x7 := x5.at (pinD I7).1
      have n7' : ∀ b ∈ D :: fp, H7 b = none := fun b hb => by
        rcases List.mem_cons.mp hb with e | e
        · rw [e]; exact (pinD I7).2
        · exact n7 b e
      have I7u : Inv (X.blk { s2 with heap := h3 } H2 scope ce (D :: fp)) [] (L2.wipe σ (own.map (·.2))) H7 s7 := I7.unpinned
      have I7' := I7u.pinned (stat I7u n7') (objs st7 x7)
      refine thnF (pg.run _ s7 _ H7 x u _ I7' r7 (step x H7 y7)) fun _ s8 ⟨σ8, H8, I8, hw8, q8⟩ => ?_
      refine thnF (pt.run _ s8 σ8 H8 _ I8 q8) fun b s9 ⟨H9, I9, q9⟩ => ?_
      have kept : ∀ {s' : Shared} {H' : Hp} {σ' : L2.St}, Inv (X.blk { s2 with heap := h3 } H2 scope ce (D :: fp)) ([] ++ pinsAt (D :: fp) s7.heap) σ' H' s' → ∀ b ∈ D :: fp, ∀ o, s7.heap.get? b = some o → s'.heap.get? b = some o ∧ H' b = none := fun {s' H' σ'} J' b hb o e =>
        let z := J'.pin (b, o) (List.mem_append_right _ (List.mem_append_right _ (mem_pinsAt hb e)))
        ⟨z.1, z.2.1⟩
      have tidy : ∀ {s' : Shared} {H' : Hp}, Inv (X.blk { s2 with heap := h3 } H2 scope ce (D :: fp)) [] σ8 H' s' → Inv (X.blk { s2 with heap := h3 } H2 scope ce (D :: fp)) [] (L2.wipe σ (own.map (·.2))) H' s' := fun {s' H'} J' => by
        refine J'.weak (by rw [← hw8, wipe_length]) fun j v e => ?_
        rw [← hw8] at e
        exact (wipe_some e).1
      have none7 : ∀ {s' : Shared} {H' : Hp} {σ' : L2.St}, Inv (X.blk { s2 with heap := h3 } H2 scope ce (D :: fp)) ([] ++ pinsAt (D :: fp) s7.heap) σ' H' s' → ∀ b ∈ D :: fp, H' b = none := fun {s' H' σ'} J' b hb => by
        obtain ⟨o, e, _⟩ := objs st7 x7 b hb
        exact (kept J' b hb o e).2
      cases b with
      | false =>
        simp only [Bool.false_eq_true, if_false] at q9 ⊢
        obtain ⟨m', hm, w'⟩ := hNx _ _ q9
        exact ⟨m', hm, i + 1, ks, H9, tidy I9.unpinned, T.keep _ _ _ st7 fun b hb o e => (kept I9 b (List.mem_cons_of_mem _ hb) o e).1, x7.at fun o e => (kept I9 D List.mem_cons_self o e).1, none7 I9, w'⟩
      | true =>
        simp only [if_true] at q9 ⊢
        refine thnF (pe.run _ s9 σ8 H9 _ I9 q9) fun z s10 ⟨yv, H10, I10, r10, k, ey, room, nx⟩ => ?_
        subst ey
        have n10 := none7 I10
        have I10u : Inv (X.blk { s2 with heap := h3 } H2 scope ce (D :: fp)) [] σ8 H10 s10 := I10.unpinned
        have x10 := x7.at fun o e => (kept I10 D List.mem_cons_self o e).1
        refine addX (X := X.blk { s2 with heap := h3 } H2 scope ce (D :: fp)) I10u (stat I10u n10 D List.mem_cons_self) x10 r10 room fun s11 I11 x11 same => ?_
        obtain ⟨m', hm, w'⟩ := hNx _ _ nx
        refine ⟨m', hm, i + 1, _, H10, tidy I11, T.keep _ _ _ st7 fun b hb o e => same b o (fun q => notD (q ▸ hb)) (kept I10 b (List.mem_cons_of_mem _ hb) o e).1, x11, n10, w'⟩
  exact PpSet.codeAny_compStart_set loop (T.self X.A 0 _ _ _ st4 loop)
end
end Mini

/-! Mini, part A: set(xs), whatever is walked and whatever the set holds. -/
namespace Mini
open PySem PySem.Spec PyProof.Rows L2

/-- a new, empty set object -/
abbrev set0 (w : World) : Obj := { cls := .type "set", dict := none, data := .set #[] 0 (.fresh 0 0 (!w.params.followText "set-order")) }
section
variable {P : Program} {w : World} {A : Around} {s : Shared} {D : Addr} {n : Nat} {Pv : Nat → Value → Prop} {Sd : Nat → Heap → Prop}
/-- one more item into the set at D -/
def StepsIn (P : Program) (w : World) (D : Addr) (n : Nat) (Pv : Nat → Value → Prop) (Sd : Nat → Heap → Prop) (A : Around) : Prop := ∀ (i : Nat) (v : Value) (s1 : Shared) (E : Value → Shared → Prop) (Q : Bool → Shared → Prop), i < n → Pv i v → Sd i s1.heap →
  (∀ (b : Bool) (h' : Heap) (tk : Nat), s1.toks ≤ tk → Heap.SameBut D s1.heap h' → Sd (i + 1) h' → Q b { s1 with heap := h', toks := tk }) → wpAny (model P w) A (setAdd D v) Q E s1
theorem loop_in {I : Addr} {fp : List Addr} {St : Nat → Heap → Prop} {R : Result → Shared → Prop} (W : Walks P w A.in1 I fp [I] n Pv St) (hD : D ∉ fp) (hI : D < I) (frame : ∀ i h h', Sd i h → (∀ b o, b ≠ I → h.get? b = some o → h'.get? b = some o) → Sd i h') (step : StepsIn P w D n Pv Sd A.in1) :
    ∀ (k i : Nat) (s : Shared), n - i = k → i ≤ n → St i s.heap → Sd i s.heap → (∀ h' tk, Sd n h' → (∀ b o, b ≠ D → b ≠ I → s.heap.get? b = some o → h'.get? b = some o) → R (.ok (.ret .none)) { s with heap := h', toks := tk }) →
      codeAny (model P w) A (.builtin "set.update.loop" ⟨[.ref D, .ref I], []⟩) R s := by
  intro k
  induction k with
  | zero =>
    intro i s hk hi st sd hR
    have e : i = n := by omega
    subst e
    refine codeAny_builtin PyProof.Rows.F.entry_set_update_loop ?_
    rw [Around.under_plainId PyProof.Rows.F.plain_set_update_loop _]
    refine wpAny_bind (W.done s _ _ st fun h' tk same => ?_)
    have up : ∀ b o, b ≠ I → s.heap.get? b = some o → h'.get? b = some o := fun b o hb e => same b o (by simpa using hb) e
    exact wpAny_pure (hR h' tk (frame _ _ _ sd up) fun b o _ hb e => up b o hb e)
  | succ k ih =>
    intro i s hk hi st sd hR
    refine codeAny_builtin PyProof.Rows.F.entry_set_update_loop ?_
    rw [Around.under_plainId PyProof.Rows.F.plain_set_update_loop _]
    refine wpAny_bind (W.item i s _ _ (by omega) st fun v h1 tk1 pv st1 same => ?_)
    have up : ∀ b o, b ≠ I → s.heap.get? b = some o → h1.get? b = some o := fun b o hb e => same b o (by simpa using hb) e
    show wpAny _ A.in1 (holding [v] (setAdd D v) >>= _) _ _ _
    refine wpAny_bind (wpAny_holding (step i v { s with heap := h1, toks := tk1 } _ _ (by omega) pv (frame _ _ _ sd up) fun b h2 tk2 _ sb sd2 => ?_))
    have up2 : ∀ b o, b ≠ D → h1.get? b = some o → h2.get? b = some o := fun b o hb e => (sb.2 b hb).trans e
    refine wpAny_pure ⟨plainId_quiet PyProof.Rows.F.plain_set_update_loop _, ih (i + 1) { s with heap := h2, toks := tk2 } (by omega) (by omega) (W.frame _ _ _ st1 fun b hb o e => up2 b o (fun z => hD (z ▸ hb)) e) sd2 fun h3 tk3 sd3 up3 => ?_⟩
    exact hR h3 tk3 sd3 fun b o b1 b2 e => up3 b o b1 b2 (up2 b o b1 (up b o b2 e))
/-- what walks over the value a -/
def IterOf (P : Program) (w : World) (s : Shared) (a : Value) (n : Nat) (Pv : Nat → Value → Prop) : Prop := ∀ (A1 : Around) (E1 : Value → Shared → Prop) (s1 : Shared) (Q1 : Value → Shared → Prop), (∀ b o, s.heap.get? b = some o → s1.heap.get? b = some o) →
  (∀ (o : Obj) (fp : List Addr) (St : Nat → Heap → Prop), (∀ A' : Around, A'.handled = none → Walks P w A' s1.heap.objs.size fp [s1.heap.objs.size] n Pv St) → (∀ b ∈ fp, b = s1.heap.objs.size ∨ b < s.heap.objs.size) → St 0 (s1.heap.push o) → Q1 (.ref s1.heap.objs.size) { s1 with heap := s1.heap.push o }) →
  wpAny (model P w) A1 (pyIter a) Q1 E1 s1
set_option maxHeartbeats 3200000 in
theorem set_road {a : Value} {T : String} {E : Value → Shared → Prop} {Q : Value → Shared → Prop} (hh : A.handled = none) (ty : ∀ s' : Shared, (∀ b o, s.heap.get? b = some o → s'.heap.get? b = some o) → s'.TypeIs a T) (n1 : isSubtype (.type T) (.type "set") = pure false)
    (n2 : isSubtype (.type T) (.type "frozenset") = pure false) (n3 : (Value.type T == Value.type "dict") = false) (iter : IterOf P w s a n Pv) (frame : ∀ i h h', Sd i h → (∀ b o, b ≤ s.heap.objs.size → h.get? b = some o → h'.get? b = some o) → Sd i h')
    (start : Sd 0 (s.heap.push (set0 w))) (step : ∀ A' : Around, A'.units ≤ A.units + 8 → StepsIn P w s.heap.objs.size n Pv Sd A') (h : ∀ h' tk, Sd n h' → (∀ b o, s.heap.get? b = some o → h'.get? b = some o) → Q (.ref s.heap.objs.size) { s with heap := h', toks := tk }) :
    wpAny (model P w) A (call (.type "set") [a]) Q E s := by
  obtain ⟨c, tl, hmro⟩ := PySem.F.called_set.mro
  have hmade := PySem.F.called_set.made
  have hsub := PySem.F.called_set.sub
  have h1 := PySem.F.called_set.notType
  have h2 := PySem.F.called_set.canCreate
  have hct := PySem.F.typeCall_set_1 a
  refine wpAny_call (codeAny_of_tree ?_)
  show wpAny _ _ (callAny (.type "set") _) _ _ _
  refine wpAny_pure ⟨Code.quiet_builtin _ (by decide +kernel), codeAny_builtin PySem.F.entry_type_call ?_⟩
  rw [Around.under_plain (weight_type_call_type "set" [a] []) rfl]
  repeat (any_goals (first | assumption | wp_step))
  refine codeAny_mono (code_set_led1 a (E := E) (Q₁ := fun obj s₁ => obj = .ref s.heap.objs.size ∧ s₁ = { s with heap := s.heap.push (set0 w) }) ⟨rfl, rfl⟩) fun r s₁ hr => ?_
  cases r with
  | error e => exact hr
  | ok fl =>
    cases fl with
    | next => exact hr.elim
    | brk => exact hr.elim
    | cont => exact hr.elim
    | ret obj =>
      obtain ⟨rfl, rfl⟩ := hr
      have atD : (s.heap.push (set0 w)).get? s.heap.objs.size = some (set0 w) := Heap.get?_push_size _ rfl
      have tyD : Shared.TypeIs { s with heap := s.heap.push (set0 w) } (.ref s.heap.objs.size) "set" := ⟨_, atD, rfl⟩
      have hli := PySem.F.called_set.init.lookup
      have hbi := PySem.F.called_set.init.bind (.ref s.heap.objs.size)
      repeat (any_goals (first | assumption | wp_step))
      refine codeAny_mono (codeAny_call_builtin (R := wants (fun r s₂ => r = .none ∧ ∃ h' tk, s₂ = { s with heap := h', toks := tk } ∧ Sd n h' ∧ (∀ b o, s.heap.get? b = some o → h'.get? b = some o)) E) PySem.F.called_set.init.plain PySem.F.entry_set_init (check_set_init_1 tyD ?_)) fun r₂ s₂ hr₂ => ?_
      · have up1 : ∀ b o, s.heap.get? b = some o → (s.heap.push (set0 w)).get? b = some o := fun b o e => Heap.get?_push_of_some _ e
        have tyA := ty { s with heap := s.heap.push (set0 w) } up1
        unfold Builtin.«set.__init__» noKeywords Builtin.Frozenset.updateFrom
        generalize hPI : pyIter = PI
        wp_walk
        subst hPI
        have zI : (s.heap.push (set0 w)).objs.size = s.heap.objs.size + 1 := Heap.size_push ..
        refine iter A.in1.in1 _ { s with heap := s.heap.push (set0 w) } _ up1 fun o fp St Wk fpb st => ?_
        have hDI : s.heap.objs.size < (s.heap.push (set0 w)).objs.size := by rw [zI]; exact Nat.lt_succ_self _
        refine wpAny_bind (wpAny_runValue ?_)
        refine loop_in (D := s.heap.objs.size) (I := (s.heap.push (set0 w)).objs.size) (fp := fp) (St := St) (n := n) (Pv := Pv) (Sd := Sd) (Wk _ (by simp [hh])) (fun hb => ?_) hDI (fun i h h' sd k => frame i h h' sd fun b o hb e => k b o (fun z => ?_) e) (step _ ?_) (n - 0) 0 _ rfl (Nat.zero_le _) st
          (frame 0 _ _ start fun b o _ e => Heap.get?_push_of_some _ e) fun h' tk sd up => ?_
        · rcases fpb _ hb with e | e
          · rw [e] at hDI; exact Nat.lt_irrefl _ hDI
          · exact Nat.lt_irrefl _ e
        · rw [z] at hb; exact Nat.lt_irrefl _ (Nat.lt_of_lt_of_le hDI hb)
        · show A.units + 1 + 1 + 1 ≤ A.units + 8
          omega
        · show wpAny _ _ _ _ _ _
          refine wpAny_pure ?_
          show wpAny _ _ (ret Value.none) _ _ _
          refine wpAny_pure ⟨rfl, h', tk, rfl, sd, fun b o e => ?_⟩
          have lt := Heap.lt_size e
          exact up b o (Nat.ne_of_lt lt) (Nat.ne_of_lt (Nat.lt_trans lt hDI)) (Heap.get?_push_of_some _ (Heap.get?_push_of_some _ e))
      · cases r₂ with
        | error e => exact hr₂
        | ok fl₂ =>
          cases fl₂ with
          | next => exact hr₂.elim
          | brk => exact hr₂.elim
          | cont => exact hr₂.elim
          | ret r =>
            obtain ⟨rfl, h', tk, rfl, sd, up⟩ := hr₂
            repeat (any_goals (first | assumption | wp_step))
            exact h _ _ sd up
end
end Mini

/-! Mini, part B: sets of ints, texts: made from a walk, sorted, counted. -/
namespace Mini
open PySem PySem.Spec PyProof.Rows L2

def kD : Key → PyData
  | .inl i => .int i
  | .inr z => .str z
/-- all ints or all texts -/
def sameK (ks : List Key) : Bool := ks.all Sum.isLeft || ks.all Sum.isRight
def sortK (ks : List Key) : List Key := ks.mergeSort (PySem.W.dataLe false kD)
theorem kD_inj {a b : Key} (h : PySem.W.keyToks (kD a) = PySem.W.keyToks (kD b)) : a = b := by
  cases a <;> cases b <;> simp [kD, PySem.W.keyToks] at h
  · rw [h]
  · exact congrArg Sum.inr (PySem.W.str_of_cps (congrArg Array.toList h))
theorem sortK_perm {ks ls : List Key} (p : ks.Perm ls) : sortK ks = sortK ls := by
  have T := PySem.W.sortLe_total (listOrd itemOrd) false fun k : Key => PySem.W.keyToks (kD k)
  refine List.Perm.eq_of_pairwise (le := fun a b => PySem.W.dataLe false kD a b = true) (fun a b _ _ h1 h2 => ?_) (PySem.W.sort_pairwise T ks) (PySem.W.sort_pairwise T ls) ((List.mergeSort_perm ks _).trans (p.trans (List.mergeSort_perm ls _).symm))
  have e1 : (!PyProof.Rows.lexLt itemOrd (PySem.W.keyToks (kD b)) (PySem.W.keyToks (kD a))) = true := h1
  have e2 : (!PyProof.Rows.lexLt itemOrd (PySem.W.keyToks (kD a)) (PySem.W.keyToks (kD b))) = true := h2
  rw [Bool.not_eq_true'] at e1 e2
  exact kD_inj ((listOrd itemOrd).total _ _ e2 e1)
theorem rel_is {P : Program} {w : World} {k : Key} {u : Value} (h : (mixKind P w).is k u = true) : RelV (kV k) u := by
  rcases keyIs_shape h with ⟨i, t, rfl, rfl⟩ | ⟨x, t, rfl, rfl⟩
  · exact ⟨t, rfl⟩
  · exact ⟨t, rfl⟩
theorem kD_reads {P : Program} {w : World} {h : Heap} {k : Key} {u : Value} (r : (mixKind P w).is k u = true) : Reads h u (kD k) [] := by
  rcases keyIs_shape r with ⟨i, t, rfl, rfl⟩ | ⟨x, t, rfl, rfl⟩
  · exact .int _ _
  · exact .str _ _
theorem kD_alike {ks : List Key} (h : sameK ks = true) : PySem.W.AllAlike (ks.map kD) := by
  intro x hx y hy
  obtain ⟨a, ha, rfl⟩ := List.mem_map.mp hx
  obtain ⟨b, hb, rfl⟩ := List.mem_map.mp hy
  unfold sameK at h
  rw [Bool.or_eq_true, List.all_eq_true, List.all_eq_true] at h
  rcases h with h | h
  · have h1 := h a ha
    have h2 := h b hb
    cases a <;> cases b <;> first | rfl | exact nomatch (show false = true from h1) | exact nomatch (show false = true from h2)
  · have h1 := h a ha
    have h2 := h b hb
    cases a <;> cases b <;> first | rfl | exact nomatch (show false = true from h1) | exact nomatch (show false = true from h2)
theorem paired_each {α β : Type} {R : α → β → Prop} : ∀ {as : List α} {bs : List β}, Paired R as bs → PySem.W.EachIs R as bs
  | _, _, .nil => .nil
  | _, _, .cons r t => .cons r (paired_each t)
theorem each_imp0 {α β : Type} {R S : α → β → Prop} : ∀ {as : List α} {bs : List β}, PySem.W.EachIs R as bs → (∀ a b, R a b → S a b) → PySem.W.EachIs S as bs
  | _, _, .nil, _ => .nil
  | _, _, .cons h t, f => .cons (f _ _ h) (each_imp0 t f)
theorem paired_snd {P : Program} {w : World} : ∀ {es : List (Int × Value)} {l : List Key}, Paired (EntOf (mixKind P w)) es l → Paired (fun (v : Value) (k : Key) => (mixKind P w).is k v = true) (es.map (·.2)) l
  | _, _, .nil => .nil
  | _, _, .cons r t => .cons r.1 (paired_snd t)
theorem each_vals {P : Program} {w : World} : ∀ {vs : List Value} {l : List Key}, PySem.W.EachIs (fun (v : Value) (k : Key) => (mixKind P w).is k v = true) vs l → Vals (l.map kV) vs
  | _, _, .nil => .nil
  | _, _, .cons r t => .cons (rel_is r) (each_vals t)
section
variable {X : Cx}
theorem sortedX {pins : List (Addr × Obj)} {σ : L2.St} {H : Hp} {s : Shared} {D : Addr} {ks : List Key} {Q : VK} (I : Inv X pins σ H s) (hc : X.calm = true) (hu : X.A.units + 150 < cLine) (x : SetX (mixKind X.prog X.w) s.heap D ks) (same : sameK ks = true)
    (q : ∀ p, H p = none → Q (.ref p) (upd H p (.lst ((sortK ks).map kV)))) : wpAny (model X.prog X.w) X.A (call (.builtin "sorted") [.ref D]) (EP X pins σ Q) X.xe s := by
  obtain ⟨o, es, ep, t, l, ho, ex, hd, pr, pm, nd, few, ft, ri, ld⟩ := x
  refine Calls.call_function_entry PyProof.Rows.kind_sorted PyProof.Rows.plain_sorted PyProof.Rows.entry_sorted (PyProof.Rows.args_sorted1 _) ?_
  unfold Builtin.«sorted»
  refine wpAny_bind (m := checkCount "sorted" 1 1 _) (wpAny_pure ?_)
  refine wpAny_bind (collect_set (A := X.A.in1) (I.ok.hd hc) ⟨o, ho, ex.1, hd⟩ ft few ri ld fun s1 vs up1 sz1 g1 o1 pv => ?_)
  obtain ⟨l2, pr2, pm2⟩ := paired_perm pv (paired_snd pr)
  have each := paired_each pr2
  have pl : l2.Perm ks := pm2.trans pm
  have lenv : vs.length = l2.length := pr2.length
  have few2 : vs.length ≤ sizeLine := by
    rw [pv.length_eq, List.length_map, Array.length_toList]
    exact fits_of_scanBound few
  have I1 : Inv X pins σ H s1 := I.call' (ch := []) o1 (Un.kept up1) (I.hok.kept up1) (by rw [g1]; exact I.bare) fun b hb => nomatch hb
  refine wpAny_bind (wpAny_newList ?_ few2)
  have hoL : (s1.heap.push (seqObj "list" vs.toArray 0)).get? s1.heap.objs.size = some (seqObj "list" vs.toArray 0) := Heap.get?_push_size _ rfl
  have sameL : sameK l2 = true := by
    unfold sameK at same ⊢
    rw [Bool.or_eq_true, List.all_eq_true, List.all_eq_true] at same ⊢
    exact same.imp (fun z k hk => z k (pl.mem_iff.mp hk)) fun z k hk => z k (pl.mem_iff.mp hk)
  refine wpAny_bind (wpAny_holding (PySem.W.list_sort_data (s := { s1 with heap := s1.heap.push (seqObj "list" vs.toArray 0) }) (enc := kD) hoL each (each_imp0 each fun u k r => ⟨[], kD_reads r, List.not_mem_nil⟩) (kD_alike sameL) ?_ (by rw [← lenv]; exact few2) (fun k hk => ?_) fun out h1 h2 => ?_))
  · refine .inr fun d hd => ?_
    obtain ⟨k, hk, rfl⟩ := List.mem_map.mp hd
    cases k <;> exact ⟨(by intro z; cases z), fun xs z => by cases z⟩
  · have e0 : (kD k).depth = 0 := by cases k <;> rfl
    rw [e0]
    show X.A.units + 1 + 1 + 0 < cLine
    omega
  · obtain ⟨c, hc2⟩ := PyProof.Rows.sortedHeap_at (vs := vs) (out := out.toArray) hoL
    have e2 : l2.mergeSort (PySem.W.dataLe false kD) = sortK ks := sortK_perm pl
    rw [e2] at h2
    have lenS : (sortK ks).length ≤ sizeLine := by unfold sortK; rw [List.length_mergeSort, ← pl.length_eq, ← lenv]; exact few2
    refine wpAny_pure ⟨_, rfl, .ref s1.heap.objs.size, upd H s1.heap.objs.size (.lst ((sortK ks).map kV)), ?_, rfl, q _ (I1.hok.fresh (Nat.le_refl _))⟩
    refine I1.laid (t' := s1.toks) (fun b u e => ?_) (Nat.le_refl _) ⟨by rw [List.length_map]; exact lenS, out, c, each_vals h2, by simpa using hc2⟩
    have lt := Heap.lt_size e
    rw [PyProof.Rows.sortedHeap_old (Nat.ne_of_lt lt) (by rw [Heap.size_push]; exact Nat.lt_succ_of_lt lt)]
    exact Heap.get?_push_of_some _ e
theorem lenX {pins : List (Addr × Obj)} {σ : L2.St} {H : Hp} {s : Shared} {D : Addr} {ks : List Key} {Q : VK} (I : Inv X pins σ H s) (x : SetX (mixKind X.prog X.w) s.heap D ks) (q : Q (.int ks.length) H) : wpAny (model X.prog X.w) X.A (call (.builtin "len") [.ref D]) (EP X pins σ Q) X.xe s := by
  obtain ⟨o, es, ep, t, l, ho, ex, hd, pr, pm, nd, few, ft, ri, ld⟩ := x
  have e : es.size = ks.length := by rw [← Array.length_toList, pr.length, pm.length_eq]
  refine call_len_set ho ex hd ft (by have : es.size < 4096 := few; omega) ⟨.int ks.length, H, I.tok _, ⟨_, by rw [e]⟩, q⟩
variable {e : Expr} {t : TX} {p po : Pos}
theorem pe_sortedX (hc : X.calm = true) (hu : X.A.units + 150 < cLine) (hg : Gl X "sorted") (hm : X.mg "sorted" = none) (he : PX X e t) (hs : starEach [e] X.env = (false, eval e X.env) :: starEach [] X.env) :
    PE X (.Call (.Name "sorted" p) [e] [] po) (fun σ H Q => t σ H fun ks H1 => sameK ks = true ∧ ∀ q, H1 q = none → Q (.ref q) (upd H1 q (.lst ((sortK ks).map kV)))) := by
  refine ⟨fun pins s σ H Q I h => ?_⟩
  refine Call_ (ld_blt I hg hm (by decide +kernel : bootBuiltins ("sorted" : Str) = some (.builtin "sorted")) ?_)
  refine PyProof.Rows.callWith_builtin1 (PyProof.Rows.args_cons (thn (he.run pins s σ H _ I h) fun u s1 ⟨D, ks, H1, eu, I1, nD, x, same, q⟩ => ?_) hs) hs rfl
  subst eu
  exact PyProof.Rows.args_nil (sortedX I1 hc hu x same q)
theorem pe_lenX (hg : Gl X "len") (hm : X.mg "len" = none) (he : PX X e t) (hs : starEach [e] X.env = (false, eval e X.env) :: starEach [] X.env) :
    PE X (.Call (.Name "len" p) [e] [] po) (fun σ H Q => t σ H fun ks H1 => Q (.int ks.length) H1) := by
  refine ⟨fun pins s σ H Q I h => ?_⟩
  refine Call_ (ld_blt I hg hm PySem.boot_len ?_)
  refine PyProof.Rows.callWith_builtin1 (PyProof.Rows.args_cons (thn (he.run pins s σ H _ I h) fun u s1 ⟨D, ks, H1, eu, I1, nD, x, q⟩ => ?_) hs) hs rfl
  subst eu
  exact PyProof.Rows.args_nil (lenX I1 x q)
end
end Mini

/-! Mini, part C: set(xs) of ints, texts. -/
namespace Mini
open PySem PySem.Spec PyProof.Rows L2

def dedupK (ks : List Key) : List Key := ks.foldl withK []
def signs (z : Str) : List Key := z.cps.toList.map fun c => .inr ⟨#[c]⟩
theorem withK_len (ks : List Key) (k : Key) : (withK ks k).length ≤ ks.length + 1 := by
  unfold withK
  split
  · omega
  · rw [List.length_append, List.length_singleton]
    omega
theorem dedupK_snoc (ks : List Key) (k : Key) : dedupK (ks ++ [k]) = withK (dedupK ks) k := by
  unfold dedupK
  rw [List.foldl_append]
  rfl
theorem fold_len : ∀ (ks acc : List Key), (ks.foldl withK acc).length ≤ acc.length + ks.length
  | [], acc => by simp
  | k :: ks, acc => by
    have := fold_len ks (withK acc k)
    have h := withK_len acc k
    rw [List.foldl_cons, List.length_cons]
    omega
theorem dedupK_len (ks : List Key) : (dedupK ks).length ≤ ks.length := by
  have := fold_len ks []
  simpa [dedupK] using this
section
variable {P : Program} {w : World} {s : Shared}
theorem iter_list {l : Addr} {items : Array Value} (hl : s.heap.IsList l items) : IterOf P w s (.ref l) items.size fun i v => items[i]? = some v := by
  intro A1 E1 s1 Q1 up hQ
  obtain ⟨o, ho, hc, n, hd⟩ := hl
  have l1 : s1.heap.IsList l items := ⟨o, up _ _ ho, hc, n, hd⟩
  have lt : l < s.heap.objs.size := Heap.lt_size ho
  have ne : l ≠ s1.heap.objs.size := Nat.ne_of_lt (Heap.lt_size (up _ _ ho))
  refine wpAny_pyIter_list l1 (hQ _ [s1.heap.objs.size, l] _ (fun A' h => Walks.list h _ l ne items) (fun b hb => ?_) ⟨⟨_, Heap.get?_push_size _ rfl, rfl, rfl⟩, l1.push _⟩)
  rcases List.mem_cons.mp hb with e | e
  · exact .inl e
  · rw [List.mem_singleton.mp e]; exact .inr lt
theorem iter_str {z : Str} {t : Tok} : IterOf P w s (.str z t) z.cps.size (SignAt z) := by
  intro A1 E1 s1 Q1 up hQ
  exact wpAny_pyIter_str fun o St Wk st => hQ o _ St Wk (fun b hb => .inl (List.mem_singleton.mp hb)) st
theorem setX_steps {D : Addr} {n : Nat} {Pv : Nat → Value → Prop} {keys : List Key} (hn : n = keys.length) (few : n + 1 < scanBound) (hv : ∀ i v, Pv i v → ∃ k, keys[i]? = some k ∧ (mixKind P w).is k v = true ∧ v.scannable = true) (A : Around) :
    StepsIn P w D n Pv (fun i h => SetX (mixKind P w) h D (dedupK (keys.take i))) A := by
  intro i v s1 E Q hi pv sd hQ
  obtain ⟨k, e, is, sc⟩ := hv i v pv
  have e2 : keys.take (i + 1) = keys.take i ++ [k] := by rw [List.take_add_one, e]; rfl
  refine add_ok is sc sd (by have := dedupK_len (keys.take i); rw [List.length_take] at this; omega) fun b h' sb x => hQ b h' _ (Nat.le_succ _) sb ?_
  show SetX (mixKind P w) h' D (dedupK (keys.take (i + 1)))
  rw [e2, dedupK_snoc]
  exact x
end
section
variable {X : Cx}
/-- what the value x walks over: keys -/
def WalkK (K : PySem.W.Frag) (H : Hp) (x : V) (keys : List Key) : Prop := (∃ a, x = .ref a ∧ SqL K H a (keys.map kV)) ∨ ∃ z, x = .str z ∧ keys = signs z
def tSetX (K : PySem.W.Frag) (te : TE) : TX := fun σ H Q => te σ H fun x H1 => ∃ keys : List Key, WalkK K H1 x keys ∧ keys.length + 1 < scanBound ∧ Q (dedupK keys) H1
theorem px_set {e : Expr} {te : TE} {p po : Pos} (hc : X.calm = true) (hg : Gl X "set") (hm : X.mg "set" = none) (he : PE X e te) (hs : starEach [e] X.env = (false, eval e X.env) :: starEach [] X.env) : PX X (.Call (.Name "set" p) [e] [] po) (tSetX X.K te) := by
  refine ⟨fun pins s σ H Q I h => ?_⟩
  refine Call_ (ld_blt I hg hm (by decide +kernel : bootBuiltins ("set" : Str) = some (.type "set")) ?_)
  refine PyProof.Rows.callWith_type1 (PyProof.Rows.args_cons (thn (he.run pins s σ H _ I h) fun u s1 ⟨x, H1, I1, r1, keys, wk, few, q⟩ => ?_) hs) hs rfl
  refine PyProof.Rows.args_nil ?_
  have fin : ∀ {T : String} {n : Nat} {Pv : Nat → Value → Prop}, (∀ s' : Shared, (∀ b o, s1.heap.get? b = some o → s'.heap.get? b = some o) → s'.TypeIs u T) → isSubtype (.type T) (.type "set") = pure false → isSubtype (.type T) (.type "frozenset") = pure false → (Value.type T == Value.type "dict") = false →
      IterOf X.prog X.w s1 u n Pv → n = keys.length → (∀ i v, Pv i v → ∃ k, keys[i]? = some k ∧ (mixKind X.prog X.w).is k v = true ∧ v.scannable = true) →
      wpAny (model X.prog X.w) X.A (call (.type "set") [u]) (fun u s' => ∃ (D : Addr) (ks : List Key) (H' : Hp), u = .ref D ∧ Inv X pins σ H' s' ∧ H' D = none ∧ SetX (mixKind X.prog X.w) s'.heap D ks ∧ Q ks H') X.xe s1 := by
    intro T n Pv ty n1 n2 n3 it hn hv
    refine set_road (Sd := fun i h => SetX (mixKind X.prog X.w) h s1.heap.objs.size (dedupK (keys.take i))) (I1.ok.hd hc) ty n1 n2 n3 it (fun i h h' sd k => SetX.at sd fun o e => k _ o (Nat.le_refl _) e) (setX_new s1.heap) (fun A' _ => setX_steps hn (by rw [hn]; exact few) hv A') fun h' tk sd up => ?_
    rw [hn, List.take_length] at sd
    exact ⟨_, _, H1, rfl, I1.kept up, I1.hok.fresh (Nat.le_refl _), sd, q⟩
  rcases wk with ⟨a, rfl, sq⟩ | ⟨z, rfl, rfl⟩
  · cases r1
    obtain ⟨its, rv, pl, hz⟩ := I1.list sq
    have hl := rv.length
    rw [List.length_map] at hl
    refine fin (T := "list") (fun s' up => ?_) PySem.F.sub_list_set PySem.F.sub_list_frozenset (by decide) (iter_list pl.isList) (by rw [List.size_toArray, hl]) fun i v hv => ?_
    · obtain ⟨o, ho, hcl, _⟩ := pl.isList
      exact ⟨o, up _ _ ho, hcl⟩
    · have hv : its[i]? = some v := by simpa using hv
      have hi : i < keys.length := by rw [hl]; exact (List.getElem?_eq_some_iff.mp hv).1
      refine ⟨keys[i], List.getElem?_eq_getElem hi, ?_⟩
      obtain ⟨u', e1, e2⟩ := rv.get (i := i) (x := kV keys[i]) (by rw [List.getElem?_map, List.getElem?_eq_getElem hi]; rfl)
      rw [hv] at e1
      cases e1
      exact ⟨kV_is e2, key_scan e2⟩
  · obtain ⟨t, rfl⟩ := r1
    refine fin (T := "str") (fun s' up => rfl) PySem.F.sub_str_set PySem.F.sub_str_frozenset (by decide) iter_str (by unfold signs; simp) fun i v ⟨c, t', hc1, hc2⟩ => ?_
    refine ⟨.inr ⟨#[c]⟩, ?_, ?_⟩
    · unfold signs
      rw [List.getElem?_map, Array.getElem?_toList, hc1]
      rfl
    · subst hc2
      exact ⟨kV_is (k := .inr ⟨#[c]⟩) ⟨t', rfl⟩, rfl⟩
end
end Mini

/-! Mini, part D: sets of objects that are equal by what they hold (tuples): the search, the growth, adding. -/
namespace Mini
open PySem PySem.Spec PyProof.Rows L2

/-- keys that are objects -/
structure ObK (P : Program) (w : World) (κ : Type) [DecidableEq κ] where
  is : Heap → κ → Addr → Prop
  hash : κ → Int
  eq : ∀ {A : Around} {E : Value → Shared → Prop} {s : Shared} {x y : κ} {a b : Addr} {Q : Bool → Shared → Prop}, A.units < cLine → is s.heap x a → is s.heap y b → Q (decide (x = y)) s → wpAny (model P w) A (eqBool (.ref a) (.ref b)) Q E s
  seen : ∀ {A : Around} {E : Value → Shared → Prop} {s : Shared} {x : κ} {b : Addr} {ys : List Value} {Q : Bool → Shared → Prop}, is s.heap x b → (∀ y ∈ ys, ∃ z c, y = Value.ref c ∧ is s.heap z c) → Q false s → wpAny (model P w) A (searchCouldBeSeen (.ref b) ys) Q E s
  byv : ∀ {A : Around} {E : Value → Shared → Prop} {s : Shared} {x : κ} {b : Addr} {Q : Bool → Shared → Prop}, is s.heap x b → (∀ c, Q c s) → wpAny (model P w) A (hashByValue 8 (.ref b)) Q E s
  stay : ∀ {h h' : Heap} {x : κ} {a b : Addr} {o : Obj} {es : Array (Int × Value)} {ep : Nat} {t : SetTable}, is h x b → h.get? a = some o → o.data = .set es ep t → Heap.SameBut a h h' → is h' x b
  keep : ∀ {h h' : Heap} {x : κ} {b : Addr}, is h x b → (∀ o, h.get? b = some o → h'.get? b = some o) → is h' x b
section
variable {P : Program} {w : World} {κ : Type} [DecidableEq κ] (O : ObK P w κ)
/-- the entries of the rows L -/
def entH (L : List (Addr × κ)) : List (Int × Value) := L.map fun p => (O.hash p.2, Value.ref p.1)
/-- entries and table are as the rows L say -/
structure Tabl (h : Heap) (L : List (Addr × κ)) (es : Array (Int × Value)) (t : SetTable) : Prop where
  ent : es.toList = entH O L
  tab : TabOk t (L.map fun p => O.hash p.2)
  nd : (L.map (·.2)).Nodup
  all : ∀ p ∈ L, O.is h p.2 p.1
  ld : w.params.followText "set-order" = true ∨ t.led = true
  room : L.length * 5 < t.mask * 3
  few : L.length < 64
def SetH (h : Heap) (a : Addr) (L : List (Addr × κ)) : Prop := ∃ (o : Obj) (es : Array (Int × Value)) (ep : Nat) (t : SetTable), h.get? a = some o ∧ o.ExactSet ∧ o.data = .set es ep t ∧ Tabl O h L es t
variable {O}
section
variable {A : Around} {E : Value → Shared → Prop} {s : Shared} {a : Addr} {L : List (Addr × κ)} {es : Array (Int × Value)} {t : SetTable}
theorem Tabl.size {h : Heap} (R : Tabl O h L es t) : es.size = L.length := by
  have := congrArg List.length R.ent
  simpa [entH] using this
theorem Tabl.fits {h : Heap} (R : Tabl O h L es t) : t.fits es.size = true := by
  have h1 := R.tab.sz
  have h2 := R.size
  have h3 := R.room
  rw [List.length_map] at h1
  unfold SetTable.fits SetTable.fill
  rw [R.tab.dm, Bool.and_eq_true, beq_iff_eq, decide_eq_true_eq]
  exact ⟨by omega, by show t.place.size + 0 ≤ t.mask; omega⟩
theorem Tabl.get {h : Heap} (R : Tabl O h L es t) {i : Nat} {p : Addr × κ} (e : L[i]? = some p) : es[i]? = some (O.hash p.2, Value.ref p.1) := by
  rw [← Array.getElem?_toList, R.ent]
  unfold entH
  rw [List.getElem?_map, e]; rfl
theorem Tabl.whole {h : Heap} (R : Tabl O h L es t) : ¬ t.gaveWay = true := by
  unfold SetTable.gaveWay
  rw [mask_odd R.tab.mok]
  decide
theorem Tabl.hashAt {h : Heap} (R : Tabl O h L es t) {i : Nat} {p : Addr × κ} (e : L[i]? = some p) : (es[i]?.map (·.1)).getD 0 = O.hash p.2 := by rw [R.get e]; rfl
theorem probe_dummy (m : Nat) : ∀ (n : Nat) (p : SetTable.Probe), p.dummy = none → (nth m p n).dummy = none
  | 0, _, h => h
  | n + 1, p, h => probe_dummy m n (adv m p) (by unfold adv; split <;> exact h)
/-- the start of the way of the hash h in a table of mask m -/
abbrev wayP (m : Nat) (h : Int) : SetTable.Probe := runAt m (SetTable.bits h % (m + 1)) (SetTable.bits h)
/-- the search goes on at the c-th step of the way -/
theorem seek {o : Obj} {ep : Nat} (ho : s.heap.get? a = some o) (hd : o.data = .set es ep t) (R : Tabl O s.heap L es t) {x : Addr} {k : κ} (hx : O.is s.heap k x) (hu : A.units < cLine) {K : Nat} (far : K < 10 * SetTable.turns t.mask) (free : way t.mask (O.hash k) K ∉ t.place.toList) (taken : ∀ c, c < K → way t.mask (O.hash k) c ∈ t.place.toList)
    {Q : SetFound → Shared → Prop} (hin : k ∈ L.map (·.2) → Q (.there none) s) (hout : k ∉ L.map (·.2) → Q (.free (way t.mask (O.hash k) K) false) s) :
    ∀ (f c : Nat) (stand : Option SetTable.Probe), stand.getD (t.probeStart (O.hash k)) = nth t.mask (wayP t.mask (O.hash k)) c → c ≤ K → K - c < f → (∀ (i : Nat) p, L[i]? = some p → p.2 = k → ∃ c', c ≤ c' ∧ c' < K ∧ t.place.toList[i]? = some (way t.mask (O.hash k) c')) →
      wpAny (model P w) A (setSearchFrom a (.ref x) (O.hash k) true f stand) Q E s := by
  intro f
  induction f with
  | zero => intro c stand _ _ hf; exact absurd hf (Nat.not_lt_zero _)
  | succ f ih =>
    intro c stand at0 hc hf ahead
    rw [setSearchFrom_succ]
    refine wpAny_bind (wpAny_setState_of ho hd R.fits ?_)
    dsimp only
    refine wp_if_neg R.whole ?_
    try refine wpAny_bind (wpAny_pure ?_)
    have from_c : ∀ q, (nth t.mask (nth t.mask (wayP t.mask (O.hash k)) c) q) = nth t.mask (wayP t.mask (O.hash k)) (c + q) := fun q => (nth_add t.mask c _ q).symm
    have place_c : ∀ q, (nth t.mask (nth t.mask (wayP t.mask (O.hash k)) c) q).j = way t.mask (O.hash k) (c + q) := fun q => congrArg SetTable.Probe.j (from_c q)
    have toK : c + (K - c) = K := by omega
    have passed : ∀ {c' i0 : Nat} {p0 : Addr × κ} {q : Nat}, (∀ (k' i' : Nat), k' < q → t.place.toList[i']? = some (nth t.mask (nth t.mask (wayP t.mask (O.hash k)) c) k').j → (es[i']?.map (·.1)).getD 0 ≠ O.hash k) → L[i0]? = some p0 → p0.2 = k → c ≤ c' → c' < c + q → t.place.toList[i0]? = some (way t.mask (O.hash k) c') → False := by
      intro c' i0 p0 q no h0 hk0 a1 a2 a3
      refine no (c' - c) i0 (by omega) (by rw [place_c, show c + (c' - c) = c' by omega]; exact a3) ?_
      rw [R.hashAt h0, hk0]
    rcases go_spec t R.tab.ris R.tab.dm (fun i => (es[i]?.map (·.1)).getD 0) (O.hash k) (10 * SetTable.turns t.mask) (K - c) _ (probe_dummy t.mask c _ rfl) (by omega) (fun q hq => by rw [place_c]; exact taken (c + q) (by omega)) (by rw [place_c, toK]; exact free) with ⟨q, i, hq, hi, hh, no, met⟩ | ⟨no, met⟩
    · have met' : t.probe (fun i => (es[i]?.map (·.1)).getD 0) (O.hash k) (stand.getD (t.probeStart (O.hash k))) = some (.candidate (way t.mask (O.hash k) (c + q)) i (nth t.mask (wayP t.mask (O.hash k)) (c + (q + 1)))) := by
        rw [at0, ← place_c, ← from_c]
        exact met
      rw [met']
      dsimp only
      rw [place_c] at hi
      have il : i < L.length := by
        have h1 : i < t.place.toList.length := (List.getElem?_eq_some_iff.mp hi).1
        have h2 := R.tab.sz
        rw [List.length_map] at h2
        rw [Array.length_toList] at h1
        omega
      obtain ⟨p, hp⟩ : ∃ p, L[i]? = some p := ⟨_, List.getElem?_eq_getElem il⟩
      have pm : p ∈ L := List.mem_of_getElem? hp
      have on : wpAny (model P w) A (searchRest a (.ref x) (O.hash k) true f es t (way t.mask (O.hash k) (c + q)) i (nth t.mask (wayP t.mask (O.hash k)) (c + (q + 1)))) Q E s := by
        unfold searchRest
        rw [R.get hp]
        dsimp only
        refine wpAny_bind (wpAny_holding (O.eq hu (R.all p pm) hx ?_))
        refine wpAny_bind (wpAny_setState_of ho hd R.fits ?_)
        dsimp only
        by_cases same : p.2 = k
        · refine wp_if_pos (by simp [same]) (wpAny_pure (hin (List.mem_map.mpr ⟨p, pm, same⟩)))
        · refine wp_if_neg (by simp [same]) ?_
          try refine wpAny_bind (wpAny_pure ?_)
          rw [sameMem]
          dsimp only
          have here : t.slot (way t.mask (O.hash k) (c + q)) = .live i := slot_live R.tab.ris hi
          simp only [if_true, here, R.get hp]
          refine wpAny_bind (wpAny_isSame_ref_self (wpAny_bind (wpAny_pure ?_)))
          simp only [if_true]
          refine wp_if_neg (by simp [same]) (ih (c + (q + 1)) _ rfl (by omega) (by omega) fun i0 p0 h0 hk0 => ?_)
          obtain ⟨c', a1, a2, a3⟩ := ahead i0 p0 h0 hk0
          refine ⟨c', ?_, a2, a3⟩
          rcases Nat.lt_trichotomy c' (c + q) with z | z | z
          · exact (passed no h0 hk0 a1 z a3).elim
          · rw [z] at a3
            have := (slot_live R.tab.ris a3).symm.trans here
            injection this with this
            rw [this, hp] at h0
            cases h0
            exact absurd hk0 same
          · omega
      by_cases led : t.led = true
      · refine wp_if_neg (by simp [led]) ?_
        try refine wpAny_bind (wpAny_pure ?_)
        exact on
      · refine wp_if_pos (by simp [led]) (wpAny_bind (O.seen hx (fun y hy => ?_) ?_))
        · obtain ⟨e, he, rfl⟩ := List.mem_map.mp hy
          have e2 : e ∈ es.toList := by
            have : e ∈ es ∧ e.1 = O.hash k := by simpa using he
            simpa using this.1
          rw [R.ent] at e2
          obtain ⟨p2, hp2, rfl⟩ := List.mem_map.mp e2
          exact ⟨p2.2, p2.1, rfl, R.all p2 hp2⟩
        · refine wp_if_neg (by decide) ?_
          try refine wpAny_bind (wpAny_pure ?_)
          exact on
    · have met' : t.probe (fun i => (es[i]?.map (·.1)).getD 0) (O.hash k) (stand.getD (t.probeStart (O.hash k))) = some (.empty (way t.mask (O.hash k) K) none) := by
        rw [at0]
        have := place_c (K - c)
        rw [toK] at this
        rw [← this]
        exact met
      rw [met']
      dsimp only
      refine wpAny_pure (hout fun km => ?_)
      obtain ⟨p0, h0, hk0⟩ := List.mem_map.mp km
      obtain ⟨i0, hi0⟩ := List.mem_iff_getElem?.mp h0
      obtain ⟨c', a1, a2, a3⟩ := ahead i0 p0 hi0 hk0
      exact passed no hi0 hk0 a1 (by omega) a3
/-- the search that adding asks for -/
theorem seek0 {o : Obj} {ep : Nat} (ho : s.heap.get? a = some o) (hd : o.data = .set es ep t) (R : Tabl O s.heap L es t) {x : Addr} {k : κ} (hx : O.is s.heap k x) (hu : A.units < cLine) {Q : SetFound → Shared → Prop} (hin : k ∈ L.map (·.2) → Q (.there none) s)
    (hout : ∀ K, k ∉ L.map (·.2) → way t.mask (O.hash k) K ∉ t.place.toList → (∀ c, c < K → way t.mask (O.hash k) c ∈ t.place.toList) → Q (.free (way t.mask (O.hash k) K) false) s) : wpAny (model P w) A (setSearch a (.ref x) (O.hash k) true) Q E s := by
  have room := R.room
  obtain ⟨K, far, free, taken⟩ := R.tab.first (by rw [List.length_map]; omega) (O.hash k)
  have small : K < 100000 := by
    have : 10 * SetTable.turns t.mask ≤ 1420 := by
      unfold SetTable.turns
      rcases R.tab.mok with e | e | e <;> omega
    omega
  unfold setSearch
  refine seek ho hd R hx hu far free taken hin (fun n => hout K n free taken) 100000 0 none rfl (Nat.zero_le _) (by omega) fun i p hp hk => ?_
  have e1 : (L.map fun p => O.hash p.2)[i]? = some (O.hash k) := by rw [List.getElem?_map, hp, ← hk]; rfl
  have il : i < t.place.toList.length := by
    have h1 : i < L.length := (List.getElem?_eq_some_iff.mp hp).1
    have h2 := R.tab.sz
    rw [List.length_map] at h2
    rw [Array.length_toList]
    omega
  obtain ⟨c, hc, e⟩ := R.tab.before free e1 (List.getElem?_eq_getElem il)
  exact ⟨c, Nat.zero_le _, hc, by rw [List.getElem?_eq_getElem il, e]⟩
end
end
end Mini

/-! Mini, part E: sets of objects grow, take one more. -/
namespace Mini
open PySem PySem.Spec PyProof.Rows L2

section
variable {P : Program} {w : World} {κ : Type} [DecidableEq κ] {O : ObK P w κ}
section
variable {A : Around} {E : Value → Shared → Prop} {s : Shared} {a : Addr} {L : List (Addr × κ)} {es : Array (Int × Value)} {t : SetTable}
theorem fm_congr {α β : Type} {f g : α → Option β} : ∀ {l : List α}, (∀ x ∈ l, f x = g x) → l.filterMap f = l.filterMap g
  | [], _ => rfl
  | x :: l, h => by
    rw [List.filterMap_cons, List.filterMap_cons, h x List.mem_cons_self, fm_congr fun y hy => h y (List.mem_cons_of_mem _ hy)]
theorem range_to {α : Type} (L : List α) : ∀ n, n ≤ L.length → (List.range n).filterMap (fun i => L[i]?) = L.take n
  | 0, _ => rfl
  | n + 1, hn => by
    rw [List.range_succ, List.filterMap_append, range_to L n (Nat.le_of_succ_le hn), List.take_add_one]
    congr 1
theorem range_all {α : Type} (L : List α) : (List.range L.length).filterMap (fun i => L[i]?) = L := by rw [range_to L _ (Nat.le_refl _), List.take_length]
/-- the rows in another order -/
theorem reorder (R : es.toList = entH O L) {order : Array Nat} (hp : order.toList.Perm (List.range L.length)) :
    ∃ L2, (order.filterMap (es[·]?)).toList = entH O L2 ∧ L2.Perm L ∧ (L2.map fun p => O.hash p.2) = order.toList.map fun i => (es.map (·.1)).getD i 0 := by
  refine ⟨order.toList.filterMap fun i => L[i]?, ?_, ?_, ?_⟩
  · have e1 : ∀ i : Nat, es[i]? = (L[i]?).map fun p => (O.hash p.2, Value.ref p.1) := fun i => by
      rw [← Array.getElem?_toList, R]
      unfold entH
      rw [List.getElem?_map]
    rw [Array.toList_filterMap]
    unfold entH
    rw [List.map_filterMap]
    exact fm_congr fun i _ => e1 i
  · have := hp.filterMap fun i => L[i]?
    rw [range_all] at this
    exact this
  · have inL : ∀ i ∈ order.toList, i < L.length := fun i hi => List.mem_range.mp (hp.mem_iff.mp hi)
    have key : ∀ l : List Nat, (∀ i ∈ l, i < L.length) → ((l.filterMap fun i => L[i]?).map fun p => O.hash p.2) = l.map fun i => (es.map (·.1)).getD i 0 := by
      intro l
      induction l with
      | nil => intro _; rfl
      | cons i l ih =>
        intro hl
        have hi := hl i List.mem_cons_self
        rw [List.filterMap_cons_some (List.getElem?_eq_getElem hi), List.map_cons, List.map_cons, ih fun j hj => hl j (List.mem_cons_of_mem _ hj)]
        congr 1
        have e1 : es[i]? = some (O.hash (L[i]).2, Value.ref (L[i]).1) := by
          rw [← Array.getElem?_toList, R]
          unfold entH
          rw [List.getElem?_map, List.getElem?_eq_getElem hi]; rfl
        simp [Array.getD_eq_getD_getElem?, e1]
    exact key _ inL
theorem Tabl.of_rows {es : Array (Int × Value)} (e : es.toList = entH O L) : es.size = L.length := by
  have := congrArg List.length e
  simpa [entH] using this
/-- the table is laid anew, larger -/
theorem grow {o : Obj} {ep : Nat} (ho : s.heap.get? a = some o) (ex : o.ExactSet) (hd : o.data = .set es ep t) (ent : es.toList = entH O L) (sz : t.place.size = es.size) (dm : t.dummies = #[]) (fill : es.size ≤ t.mask) (nd : (L.map (·.2)).Nodup) (all : ∀ p ∈ L, O.is s.heap p.2 p.1)
    (ld : w.params.followText "set-order" = true ∨ t.led = true) (few : L.length < 64) {wanted M : Nat} (hw : SetTable.sizeAbove wanted - 1 = M) (hM : MaskOk M) (hw2 : SetTable.sizeAbove wanted ≤ 128) (room : L.length * 5 < M * 3) {Q : Unit → Shared → Prop}
    (hQ : ∀ h' L', Heap.SameBut a s.heap h' → SetH O h' a L' → L'.Perm L → Q () { s with heap := h' }) : wpAny (model P w) A (setRelay a wanted) Q E s := by
  have len := Tabl.of_rows ent
  have fits : t.fits es.size = true := by
    unfold SetTable.fits SetTable.fill
    rw [dm, Bool.and_eq_true, beq_iff_eq, decide_eq_true_eq]
    exact ⟨sz, by show t.place.size + 0 ≤ t.mask; omega⟩
  obtain ⟨t', order, laid, perm, T, mask', led', plain', _⟩ := relaid_ok t (hs := es.map (·.1)) (wanted := wanted) hw hM (by rw [Array.size_map, len]; omega)
  rw [Array.size_map, len] at perm
  obtain ⟨L2, r1, r2, r3⟩ := reorder ent perm
  rw [← r3] at T
  have sz2 : (order.filterMap (es[·]?)).size = es.size := by rw [Tabl.of_rows r1, r2.length_eq, len]
  rw [setRelay_eq]
  refine wpAny_bind (wpAny_setState_of ho hd fits ?_)
  dsimp only
  refine wp_if_neg (by rw [sizeLine_eq]; omega) ?_
  try refine wpAny_bind (wpAny_pure ?_)
  rw [laid]
  dsimp only
  refine wpAny_bind (wp_if_neg (by rw [sz2]; simp) ?_)
  try refine wpAny_bind (wpAny_pure ?_)
  refine wpAny_pure ?_
  dsimp only
  have sb : Heap.SameBut a s.heap (s.heap.update a (Obj.putSet (order.filterMap (es[·]?)) t')) := Heap.SameBut.update ..
  refine wpAny_storeSet_of ho hd (hQ _ L2 sb ⟨_, _, _, _, put_at ho hd, ex, rfl, ?_⟩ r2) (by rw [sz2, len, sizeLine_eq]; omega)
  exact ⟨r1, T, (r2.map (·.2)).nodup_iff.mpr nd, fun p hp => O.stay (all p (r2.mem_iff.mp hp)) ho hd sb, by rw [led']; exact ld, by rw [r2.length_eq, mask']; exact room, by rw [r2.length_eq]; exact few⟩
/-- one more row, or the one that is there -/
def addedH (L L' : List (Addr × κ)) (x : Addr) (k : κ) : Prop := (k ∈ L.map (·.2) ∧ L' = L) ∨ (k ∉ L.map (·.2) ∧ L'.Perm ((x, k) :: L))
theorem addH {x : Addr} {k : κ} (R : SetH O s.heap a L) (hx : O.is s.heap k x) (hu : A.units < cLine) (few : L.length + 1 < 64) {Q : Bool → Shared → Prop} (hQ : ∀ b h' L', Heap.SameBut a s.heap h' → SetH O h' a L' → addedH L L' x k → Q b { s with heap := h' }) :
    wpAny (model P w) A (setAddHashed a (.ref x) (O.hash k)) Q E s := by
  obtain ⟨o, es, ep, t, ho, ex, hd, T⟩ := id R
  have len := T.size
  have room := T.room
  unfold setAddHashed
  refine wpAny_holding ?_
  rw [show (100000 : Nat) = 99999 + 1 from rfl, setAddHashedIn_succ]
  refine wpAny_bind (wpAny_setState_of ho hd T.fits ?_)
  dsimp only
  refine wp_if_neg (by simp [byScan, Value.scannable]) ?_
  try refine wpAny_bind (wpAny_pure ?_)
  refine wpAny_bind (seek0 ho hd T hx hu (fun km => ?_) fun K km free taken => ?_)
  · dsimp only
    exact wpAny_pure (hQ false s.heap L (Heap.SameBut.refl a s.heap) R (.inl ⟨km, rfl⟩))
  · dsimp only
    refine wpAny_bind (wpAny_setState_of ho hd T.fits ?_)
    dsimp only
    obtain ⟨q1, q2, q3, q4, q5, q6, q7, q8, q9⟩ := T.tab.put free taken
    generalize t.put (way t.mask (O.hash k) K) = pt at q1 q3 q4 q5 q6 q7 q8 q9 ⊢
    obtain ⟨t1, p⟩ := pt
    dsimp only at q1 q3 q4 q5 q6 q7 q8 q9 ⊢
    subst q1
    have both : ∀ t2 : SetTable, t2 = t1 ∨ t2 = { t1 with plain := false } → wpAny (model P w) A (do
        storeSet a (SetTable.insertAt es (SetTable.below t.place (way t.mask (O.hash k) K)) (O.hash k, Value.ref x)) t2
        if (!false && t2.tooFull) = true then setRelay a (SetTable.grown (es.size + 1))
        pure true) Q E s := ?_
    · by_cases pl : t1.plain = true
      · first
          | refine wp_if_pos pl (wpAny_bind (O.byv hx fun b => ?_))
          | (refine wpAny_bind ?_; refine wp_if_pos pl (O.byv hx fun b => ?_))
        cases b with
        | true => exact both t1 (.inl rfl)
        | false => exact both _ (.inr rfl)
      · first
          | refine wp_if_neg pl (wpAny_bind (wpAny_pure ?_))
          | (refine wpAny_bind ?_; refine wp_if_neg pl (wpAny_pure ?_))
        exact both t1 (.inl rfl)
    intro t2 ht2
    have c3 : ∀ hs, TabOk t1 hs → TabOk t2 hs := by
      rintro hs ⟨r1, r2, r3, r4, r5, r6⟩
      rcases ht2 with rfl | rfl
      · exact ⟨r1, r2, r3, r4, r5, r6⟩
      · exact ⟨r1, r2, r3, r4, r5, r6⟩
    have c4 : t2.mask = t1.mask := by rcases ht2 with rfl | rfl <;> rfl
    have c5 : t2.led = t1.led := by rcases ht2 with rfl | rfl <;> rfl
    have c9 : t2.fill = t1.fill := by rcases ht2 with rfl | rfl <;> rfl
    have q3 := c3 _ q3
    rw [← c4] at q4
    rw [← c5] at q5
    rw [← c9] at q9
    clear c3 c4 c5 c9 ht2 q6 q7 q8
    have put1 : (SetTable.insertAt es (SetTable.below t.place (way t.mask (O.hash k) K)) (O.hash k, Value.ref x)).toList = entH O (L.take (SetTable.below t.place (way t.mask (O.hash k) K)) ++ (x, k) :: L.drop (SetTable.below t.place (way t.mask (O.hash k) K))) := by
      rw [SetTable.toList_insertAt, T.ent]
      unfold entH
      rw [List.map_append, List.map_cons, List.map_take, List.map_drop]
    generalize SetTable.below t.place (way t.mask (O.hash k) K) = p at q2 q3 put1 ⊢
    have pm := put_perm L p (x, k)
    have hashes : (L.take p ++ (x, k) :: L.drop p).map (fun p => O.hash p.2) = (L.map fun p => O.hash p.2).take p ++ O.hash k :: (L.map fun p => O.hash p.2).drop p := by
      rw [List.map_append, List.map_cons, List.map_take, List.map_drop]
    rw [← hashes] at q3
    have nd1 : ((L.take p ++ (x, k) :: L.drop p).map (·.2)).Nodup := (pm.map (·.2)).nodup_iff.mpr (by rw [List.map_cons]; exact List.nodup_cons.mpr ⟨km, T.nd⟩)
    generalize SetTable.insertAt es p (O.hash k, Value.ref x) = es1 at put1 ⊢
    generalize L.take p ++ (x, k) :: L.drop p = L1 at pm q3 nd1 put1
    have len1 : L1.length = L.length + 1 := pm.length_eq
    have sz1 : es1.size = L.length + 1 := (Tabl.of_rows put1).trans len1
    refine wpAny_bind (wpAny_storeSet_of ho hd ?_ (by rw [sz1, sizeLine_eq]; omega))
    have sb : Heap.SameBut a s.heap (s.heap.update a (Obj.putSet es1 t2)) := Heap.SameBut.update ..
    have ho1 := put_at (es' := es1) (t' := t2) ho hd
    generalize s.heap.update a (Obj.putSet es1 t2) = h1 at sb ho1 ⊢
    have all1 : ∀ p ∈ L1, O.is h1 p.2 p.1 := fun p hp => by
      rcases List.mem_cons.mp (pm.mem_iff.mp hp) with e | e
      · rw [e]; exact O.stay hx ho hd sb
      · exact O.stay (T.all p e) ho hd sb
    have ld1 : w.params.followText "set-order" = true ∨ t2.led = true := by rw [q5]; exact T.ld
    by_cases full : t2.tooFull = true
    · have at0 : (L.length + 1) * 5 ≥ t2.mask * 3 := by
        have := full
        unfold SetTable.tooFull at this
        rw [decide_eq_true_eq, q9, List.length_map] at this
        exact this
      have which : (t.mask = 7 ∧ L.length = 4) ∨ (t.mask = 31 ∧ L.length = 18) := by
        rcases T.tab.mok with e | e | e <;> rw [q4, e] at at0 <;> rw [e] at room
        · exact .inl ⟨e, by omega⟩
        · exact .inr ⟨e, by omega⟩
        · omega
      have go : ∀ M, SetTable.sizeAbove (SetTable.grown (L.length + 1)) - 1 = M → MaskOk M → SetTable.sizeAbove (SetTable.grown (L.length + 1)) ≤ 128 → (L.length + 1) * 5 < M * 3 →
          wpAny (model P w) A (setRelay a (SetTable.grown (L.length + 1))) (fun _ s' => wpAny (model P w) A (pure true) Q E s') E { s with heap := h1 } := by
        intro M g1 g2 g3 g4
        have szp : t2.place.size = es1.size := by
          have := q3.sz
          rw [List.length_map] at this
          rw [this, sz1, len1]
        refine grow (s := { s with heap := h1 }) ho1 ex rfl put1 szp q3.dm (by rw [sz1, q4]; rcases which with ⟨e, e2⟩ | ⟨e, e2⟩ <;> omega) nd1 all1 ld1 (by rw [len1]; exact few) g1 g2 g3 (by rw [len1]; exact g4) ?_
        exact fun h2 L2 sb2 R2 pm2 => wpAny_pure (hQ true h2 L2 (sb.trans sb2) R2 (.inr ⟨km, pm2.trans pm⟩))
      rw [len]
      first
        | refine wp_if_pos (by simp [full]) (wpAny_bind ?_)
        | (refine wpAny_bind ?_; refine wp_if_pos (by simp [full]) ?_)
      rcases which with ⟨_, e2⟩ | ⟨_, e2⟩
      · exact go 31 (by rw [e2, size_20]) (.inr (.inl rfl)) (by rw [e2, size_20]; decide) (by omega)
      · exact go 127 (by rw [e2, size_76]) (.inr (.inr rfl)) (by rw [e2, size_76]; decide) (by omega)
    · have room1 : L1.length * 5 < t2.mask * 3 := by
        have := full
        unfold SetTable.tooFull at this
        rw [decide_eq_true_eq, q9, List.length_map] at this
        omega
      first
        | refine wp_if_neg (by simp [full]) ?_
        | (refine wpAny_bind ?_; refine wp_if_neg (by simp [full]) (wpAny_pure ?_))
      exact wpAny_pure (hQ true h1 L1 sb ⟨_, es1, _, t2, ho1, ex, rfl, put1, q3, nd1, all1, ld1, room1, by rw [len1]; exact few⟩ (.inr ⟨km, pm⟩))
end
end
end Mini

/-! Mini, part F: len(set(xs)), xs tuples of ints and texts. -/
namespace Mini
open PySem PySem.Spec PyProof.Rows L2

section
variable {P : Program} {w : World} {A : Around} {E : Value → Shared → Prop} {s : Shared}
/-- the tuple at b is of the keys k -/
abbrev TupAt (P : Program) (w : World) (h : Heap) (k : List Key) (b : Addr) : Prop := IsTupleKey (mixKind P w) h k b
theorem items_keys {k : List Key} {vs : List Value} (h : ItemsAre (mixKind P w) k vs) : ∀ v ∈ vs, (∃ i t, v = Value.int i t) ∨ ∃ z t, v = Value.str z t := by
  induction h with
  | nil => intro v hv; cases hv
  | @cons k0 v' ks vs h1 _ ih =>
    intro v hv
    rcases List.mem_cons.mp hv with e | hv
    · subst e
      rcases keyIs_shape h1 with ⟨i, t, _, e⟩ | ⟨z, t, _, e⟩
      · exact .inl ⟨i, t, e⟩
      · exact .inr ⟨z, t, e⟩
    · exact ih v hv
theorem tup_byv {k : List Key} {b : Addr} {Q : Bool → Shared → Prop} (hk : TupAt P w s.heap k b) (hQ : ∀ c, Q c s) : wpAny (model P w) A (hashByValue 8 (.ref b)) Q E s := by
  have hT := hk.typeIs
  obtain ⟨o, items, n, ho, _, hd, hi⟩ := hk
  unfold hashByValue
  refine wpAny_bind (wpAny_specialOf hT PySem.F.slot_tuple_hash.lookup ?_)
  show wpAny _ _ (seqItems? (.ref b) >>= _) _ _ s
  refine wpAny_bind (wpAny_seqItems ho hd ?_)
  refine wpAny_bind ?_
  show wpAny _ _ (forIn items _ _) _ _ s
  rw [← Array.forIn_toList]
  refine wpAny_forIn_list _ (fun rest r s' => s' = s ∧ ∀ v ∈ rest, (∃ i t, v = Value.int i t) ∨ ∃ z t, v = Value.str z t) _ ?_ ?_ _ _ ⟨rfl, items_keys hi⟩
  · rintro v rest r s' ⟨rfl, all⟩
    rcases all v List.mem_cons_self with ⟨i, t, rfl⟩ | ⟨z, t, rfl⟩
    · refine wpAny_bind (wpAny_of_eq (hashBy_int 7 i t) ?_)
      simp only [Bool.not_true, Bool.false_eq_true, if_false]
      exact wpAny_pure ⟨rfl, fun u hu' => all u (List.mem_cons_of_mem _ hu')⟩
    · refine wpAny_bind (wpAny_of_eq (show hashByValue 7 (.str z t) = pure false from rfl) ?_)
      simp only [Bool.not_false, if_true]
      exact wpAny_pure (wpAny_pure (hQ _))
  · rintro ⟨r1, r2⟩ s' ⟨rfl, _⟩
    cases r1 with
    | none => exact wpAny_pure (hQ _)
    | some c => exact wpAny_pure (hQ _)
theorem tup_class {k : List Key} {b : Addr} {Q : Bool → Shared → Prop} (hk : TupAt P w s.heap k b) (h : Q false s) : wpAny (model P w) A (ofAClassStatement 8 (.ref b)) Q E s := by
  have hT := hk.typeIs
  obtain ⟨o, items, n, ho, _, hd, hi⟩ := hk
  unfold ofAClassStatement
  refine wpAny_bind (wpAny_typeOf hT ?_)
  dsimp only
  have e : (("tuple" : String) == "tuple") = true := by decide
  simp only [e, if_true, Bool.not_true, Bool.false_eq_true, if_false]
  try refine wpAny_bind (wpAny_pure ?_)
  try simp only [Bool.not_true, Bool.false_eq_true, if_false]
  show wpAny _ _ (seqItems? (.ref b) >>= _) _ _ s
  refine wpAny_bind (wpAny_seqItems ho hd ?_)
  dsimp only
  refine wpAny_bind ?_
  show wpAny _ _ (forIn items _ _) _ _ s
  rw [← Array.forIn_toList]
  refine wpAny_forIn_list _ (fun rest r s' => r.1 = none ∧ s' = s ∧ ∀ v ∈ rest, (∃ i t, v = Value.int i t) ∨ ∃ z t, v = Value.str z t) _ ?_ ?_ _ _ ⟨rfl, rfl, items_keys hi⟩
  · rintro v rest r s' ⟨hr, rfl, all⟩
    have e : ofAClassStatement 7 v = pure false := by rcases all v List.mem_cons_self with ⟨i, t, rfl⟩ | ⟨z, t, rfl⟩ <;> rfl
    refine wpAny_bind (wpAny_of_eq e ?_)
    simp only [Bool.false_eq_true, if_false]
    exact wpAny_pure ⟨rfl, rfl, fun u hu' => all u (List.mem_cons_of_mem _ hu')⟩
  · rintro ⟨r1, r2⟩ s' ⟨hr, rfl, _⟩
    simp only at hr
    subst hr
    exact wpAny_pure h
theorem tup_seen {k : List Key} {b : Addr} {Q : Bool → Shared → Prop} (hk : TupAt P w s.heap k b) {ys : List Value} (hy : ∀ y ∈ ys, ∃ z c, y = Value.ref c ∧ TupAt P w s.heap z c) (h : Q false s) : wpAny (model P w) A (searchCouldBeSeen (.ref b) ys) Q E s := by
  unfold searchCouldBeSeen
  refine wpAny_bind ?_
  refine wpAny_forIn_list _ (fun rest r s' => r.1 = none ∧ s' = s ∧ ∀ y ∈ rest, ∃ z c, y = Value.ref c ∧ TupAt P w s.heap z c) _ ?_ ?_ _ _ ⟨rfl, rfl, hy⟩
  · rintro v rest r s' ⟨hr, rfl, all⟩
    obtain ⟨z, c, rfl, hc⟩ := all v List.mem_cons_self
    have on : ∀ y ∈ rest, ∃ z c, y = Value.ref c ∧ TupAt P w s'.heap z c := fun u hu' => all u (List.mem_cons_of_mem _ hu')
    dsimp only
    by_cases hv : (b == c || (carriedByValue (.ref b) && carriedByValue (.ref c))) = true
    · exact wp_if_pos hv (wpAny_pure ⟨rfl, rfl, on⟩)
    · refine wp_if_neg hv (wpAny_bind (wpAny_eqIsQuiet_tuple hk ?_))
      simp only [Bool.not_true, Bool.false_eq_true, if_false]
      refine wpAny_bind (wpAny_eqIsQuiet_tuple hc ?_)
      simp only [Bool.not_true, Bool.false_eq_true, if_false]
      refine wpAny_bind (tup_class hk ?_)
      simp only [Bool.false_eq_true, if_false]
      refine wpAny_bind (tup_class hc ?_)
      simp only [Bool.false_eq_true, if_false]
      exact wpAny_pure ⟨rfl, rfl, on⟩
  · rintro ⟨r1, r2⟩ s' ⟨hr, rfl, _⟩
    simp only at hr
    subst hr
    exact wpAny_pure h
/-- tuples of ints and texts as keys -/
def tupK (P : Program) (w : World) : ObK P w (List Key) where
  is := fun h k b => TupAt P w h k b
  hash := tupleKeyHash (mixKind P w)
  eq := fun hu ha hb h => wpAny_eqBool_tuple hu ha hb h
  seen := fun hk hy h => tup_seen hk hy h
  byv := fun hk h => tup_byv hk h
  stay := fun {h h' x a b o es ep t} hk ho hd sb => by
    obtain ⟨o', items, n, ho', hc, hd', hi⟩ := hk
    have ne : b ≠ a := fun z => by
      rw [z, ho] at ho'
      cases ho'
      rw [hd] at hd'
      cases hd'
    exact ⟨o', items, n, (sb.2 b ne).trans ho', hc, hd', hi⟩
  keep := fun hk k => by
    obtain ⟨o', items, n, ho', r⟩ := hk
    exact ⟨o', items, n, k _ ho', r⟩
end
def withT (ks : List (List Key)) (k : List Key) : List (List Key) := withK ks k
def dedupT (ks : List (List Key)) : List (List Key) := ks.foldl withT []
theorem dedupT_snoc (ks : List (List Key)) (k : List Key) : dedupT (ks ++ [k]) = withT (dedupT ks) k := by
  unfold dedupT
  rw [List.foldl_append]
  rfl
theorem withT_len (ks : List (List Key)) (k : List Key) : (withT ks k).length ≤ ks.length + 1 := by
  unfold withT withK
  split
  · omega
  · rw [List.length_append, List.length_singleton]; omega
theorem dedupT_len (ks : List (List Key)) : (dedupT ks).length ≤ ks.length := by
  have key : ∀ (ks acc : List (List Key)), (ks.foldl withT acc).length ≤ acc.length + ks.length := by
    intro ks
    induction ks with
    | nil => intro acc; simp
    | cons k ks ih =>
      intro acc
      have := ih (withT acc k)
      have := withT_len acc k
      rw [List.foldl_cons, List.length_cons]
      omega
  simpa [dedupT] using key ks []
section
variable {X : Cx}
def tLenT (K : PySem.W.Frag) (te : TE) : TE := fun σ H Q => te σ H fun x H1 => ∃ (a : Addr) (bs : List (Addr × List Key)), x = .ref a ∧ SqL K H1 a (bs.map fun p => V.ref p.1) ∧ (∀ p ∈ bs, SqT K H1 p.1 (p.2.map kV)) ∧ bs.length < 63 ∧ Q (.int (dedupT (bs.map (·.2))).length) H1
theorem items_of {P : Program} {w : World} : ∀ {k : List Key} {us : List Value}, Vals (k.map kV) us → ItemsAre (mixKind P w) k us
  | [], _, .nil => .nil
  | k :: ks, _, .cons r t => .cons (kV_is r) (items_of t)
theorem vals_refs : ∀ {bs : List (Addr × List Key)} {us : List Value}, Vals (bs.map fun p => V.ref p.1) us → us = bs.map fun p => Value.ref p.1
  | [], _, .nil => rfl
  | b :: bs, _, .cons r t => by
    rw [List.map_cons, ← vals_refs t]
    cases r
    rfl
theorem tupAt_of {pins : List (Addr × Obj)} {σ : L2.St} {H : Hp} {s : Shared} {b : Addr} {k : List Key} (I : Inv X pins σ H s) (h : SqT X.K H b (k.map kV)) : TupAt X.prog X.w s.heap k b := by
  obtain ⟨its, r, ⟨o, ho, hc, n, hd⟩, hz⟩ := I.tuple h
  exact ⟨o, its.toArray, n, ho, hc, hd, by simpa using items_of r⟩
theorem pe_lenT {e : Expr} {te : TE} {p po p2 po2 : Pos} (hc : X.calm = true) (hu : X.A.units + 150 < cLine) (hg : Gl X "len") (hm : X.mg "len" = none) (hg2 : Gl X "set") (hm2 : X.mg "set" = none) (he : PE X e te) (hs : starEach [e] X.env = (false, eval e X.env) :: starEach [] X.env) :
    PE X (.Call (.Name "len" p) [.Call (.Name "set" p2) [e] [] po2] [] po) (tLenT X.K te) := by
  refine ⟨fun pins s σ H Q I h => ?_⟩
  refine Call_ (ld_blt I hg hm PySem.boot_len ?_)
  refine PyProof.Rows.callWith_builtin1 (PyProof.Rows.args_cons ?_ rfl) rfl rfl
  refine Call_ (ld_blt I hg2 hm2 (by decide +kernel : bootBuiltins ("set" : Str) = some (.type "set")) ?_)
  refine PyProof.Rows.callWith_type1 (PyProof.Rows.args_cons (thn (he.run pins s σ H _ I h) fun u s1 ⟨x, H1, I1, r1, a, bs, ex, sq, tups, few, q⟩ => PyProof.Rows.args_nil ?_) hs) hs rfl
  subst ex
  cases r1
  obtain ⟨its, rv, pl, hz⟩ := I1.list sq
  have ei := vals_refs rv
  subst ei
  have tup0 : ∀ p ∈ bs, (tupK X.prog X.w).is s1.heap p.2 p.1 := fun p hp => tupAt_of I1 (tups p hp)
  have lt0 : ∀ p ∈ bs, p.1 < s1.heap.objs.size := fun p hp => by
    obtain ⟨o, _, _, ho, _⟩ := tup0 p hp
    exact Heap.lt_size ho
  let Sd : Nat → Heap → Prop := fun i h => ∃ L : List (Addr × List Key), SetH (tupK X.prog X.w) h s1.heap.objs.size L ∧ (L.map (·.2)).Perm (dedupT ((bs.take i).map (·.2))) ∧ (∀ p ∈ L, p.1 < s1.heap.objs.size) ∧ ∀ p ∈ bs, (tupK X.prog X.w).is h p.2 p.1
  refine set_road (T := "list") (n := ((bs.map fun p => Value.ref p.1).toArray).size) (Sd := Sd) (I1.ok.hd hc) (fun s' up => ?_) PySem.F.sub_list_set PySem.F.sub_list_frozenset (by decide) (iter_list pl.isList) (fun i h h' sd k => ?_) ?_ (fun A' hA => ?_) fun h' tk sd up => ?_
  · obtain ⟨o, ho, hcl, _⟩ := pl.isList
    exact ⟨o, up _ _ ho, hcl⟩
  · obtain ⟨L, ⟨o, es, ep, t, ho, ex, hd, T⟩, pm, lt, tb⟩ := sd
    refine ⟨L, ⟨o, es, ep, t, k _ _ (Nat.le_refl _) ho, ex, hd, ⟨T.ent, T.tab, T.nd, fun p hp => (tupK X.prog X.w).keep (T.all p hp) fun o e => k _ o (Nat.le_of_lt (lt p hp)) e, T.ld, T.room, T.few⟩⟩, pm, lt, fun p hp => (tupK X.prog X.w).keep (tb p hp) fun o e => k _ o (Nat.le_of_lt (lt0 p hp)) e⟩
  · refine ⟨[], ⟨_, #[], 0, _, Heap.get?_push_size _ rfl, ⟨rfl, rfl, rfl⟩, rfl, ?_⟩, .nil, (fun p hp => by cases hp), fun p hp => (tupK X.prog X.w).keep (tup0 p hp) fun o e => Heap.get?_push_of_some _ e⟩
    refine ⟨rfl, ⟨List.Pairwise.nil, rfl, rfl, .inl rfl, (fun x hx => by cases hx), (fun i h j hi => by simp at hi)⟩, List.nodup_nil, (fun p hp => by cases hp), ?_, by show 0 * 5 < 7 * 3; decide, by show 0 < 64; decide⟩
    show _ ∨ (!X.w.params.followText "set-order") = true
    cases X.w.params.followText "set-order" with
    | true => exact .inl rfl
    | false => exact .inr rfl
  · intro i v s2 E2 Q2 hi pv ⟨L, R, pm, lt, tb⟩ hQ
    have hb : i < bs.length := by simpa using hi
    have ev : v = .ref bs[i].1 := by
      have : (bs.map fun p => Value.ref p.1)[i]? = some v := by simpa using pv
      rw [List.getElem?_map, List.getElem?_eq_getElem hb] at this
      exact (Option.some.inj this).symm
    subst ev
    have hx := tb bs[i] (List.getElem_mem hb)
    have hA2 : A'.units < cLine := by omega
    have lenL : L.length ≤ i := by
      have := pm.length_eq
      rw [List.length_map] at this
      have h2 := dedupT_len ((bs.take i).map (·.2))
      rw [List.length_map, List.length_take] at h2
      omega
    unfold setAdd
    refine wpAny_holding (wpAny_bind (wpAny_pyHash_tuple hA2 hx ?_))
    refine addH (O := tupK X.prog X.w) (s := { s2 with toks := s2.toks + (bs[i].2.length + 1) }) R hx hA2 (by omega) fun b h' L' sb R' ad => hQ b h' _ (Nat.le_add_right _ _) sb ⟨L', R', ?_, ?_, fun p hp => ?_⟩
    · have e2 : (bs.take (i + 1)).map (·.2) = (bs.take i).map (·.2) ++ [bs[i].2] := by
        rw [List.take_add_one, List.getElem?_eq_getElem hb, List.map_append]; rfl
      rw [e2, dedupT_snoc]
      unfold withT withK
      rcases ad with ⟨km, rfl⟩ | ⟨km, pm'⟩
      · rw [if_pos (pm.mem_iff.mp km)]
        exact pm
      · rw [if_neg fun z => km (pm.mem_iff.mpr z)]
        have m1 : (L'.map (fun p => p.2)).Perm (bs[i].2 :: L.map fun p => p.2) := pm'.map (fun p => p.2)
        exact m1.trans ((pm.cons _).trans (List.perm_append_singleton _ _).symm)
    · rcases ad with ⟨_, rfl⟩ | ⟨_, pm'⟩
      · exact lt
      · intro p hp
        rcases List.mem_cons.mp (pm'.mem_iff.mp hp) with e | e
        · rw [e]; exact lt0 _ (List.getElem_mem hb)
        · exact lt p e
    · obtain ⟨o, es, ep, t, ho, _, hd, _⟩ := R
      exact (tupK X.prog X.w).stay (tb p hp) ho hd sb
  · obtain ⟨L, ⟨o, es, ep, t, ho, ex, hd, T⟩, pm, lt, tb⟩ := sd
    have full : bs.take (bs.map fun p => Value.ref p.1).toArray.size = bs := by rw [List.size_toArray, List.length_map, List.take_length]
    rw [full] at pm
    have len : es.size = (dedupT (bs.map (·.2))).length := by rw [T.size, ← pm.length_eq, List.length_map]
    have few2 := T.few
    refine PyProof.Rows.args_nil (call_len_set ho ex hd T.fits (by rw [T.size]; omega) ?_)
    have I2 : Inv X pins σ H1 { s1 with heap := h', toks := tk } := I1.kept up
    exact ⟨.int (dedupT (bs.map (·.2))).length, H1, I2.tok _, ⟨_, by rw [len]⟩, q⟩
end
end Mini

/-! Mini, part G: list(range(..)). -/
namespace Mini
open PySem PySem.Spec PyProof.Rows L2

def rngV (lo : Int) (n : Nat) : List V := (List.range n).map fun (k : Nat) => .int (lo + ((k : Nat) : Int))
/-- the bounds of range(..) from its arguments -/
def rngOf (vs : List V) (lo hi : Int) : Prop := (vs = [.int hi] ∧ lo = 0) ∨ vs = [.int lo, .int hi]
def tLrg (ta : TA) : TE := fun σ H Q => ta σ H fun vs H1 => ∃ lo hi : Int, rngOf vs lo hi ∧ (-(2 ^ 62) ≤ lo ∧ lo < 2 ^ 62 ∧ -(2 ^ 62) ≤ hi ∧ hi < 2 ^ 62) ∧ (hi - lo).toNat ≤ 2 ^ 24 ∧ ∀ p, H1 p = none → Q (.ref p) (upd H1 p (.lst (rngV lo (hi - lo).toNat)))
theorem vals_rng {lo : Int} {n : Nat} {acc : Array Value} (h : ItemsOf (fun i v => ∃ t, v = .int (lo + i * 1) t) acc n) : Vals (rngV lo n) acc.toList := by
  obtain ⟨hn, hi⟩ := h
  have key : ∀ (vs : List Value) (lo : Int), (∀ (i : Nat) (v : Value), vs[i]? = some v → ∃ t, v = Value.int (lo + i * 1) t) → Vals (rngV lo vs.length) vs := by
    intro vs
    induction vs with
    | nil => intro lo _; exact .nil
    | cons v vs ih =>
      intro lo hc
      have e : rngV lo (v :: vs).length = .int lo :: rngV (lo + 1) vs.length := by
        unfold rngV
        rw [List.length_cons, List.range_succ_eq_map, List.map_cons, List.map_map]
        congr 1
        · simp
        · refine List.map_congr_left fun k _ => ?_
          show V.int (lo + ((k + 1 : Nat) : Int)) = V.int (lo + 1 + ((k : Nat) : Int))
          congr 1
          omega
      rw [e]
      obtain ⟨t, et⟩ := hc 0 v rfl
      refine .cons ⟨t, by rw [et]; simp⟩ (ih (lo + 1) fun i v' hv => ?_)
      obtain ⟨t', e'⟩ := hc (i + 1) v' hv
      refine ⟨t', e'.trans ?_⟩
      congr 1
      omega
  have := key acc.toList lo fun i v hv => hi i v (by simpa using hv)
  rw [Array.length_toList, hn] at this
  exact this
section
variable {X : Cx}
theorem pe_lrg {e : Expr} {es : List Expr} {ta : TA} {p p2 q pos : Pos} (hc : X.calm = true) (hg : Gl X "list") (hm : X.mg "list" = none) (hg2 : Gl X "range") (hm2 : X.mg "range" = none) (ha : PA X (e :: es) ta)
    (hs : starEach (e :: es) X.env = (false, eval e X.env) :: starEach es X.env) (hpl : (backTo q (starEach es X.env)).any (·.1) = false) :
    PE X (.Call (.Name "list" p) [.Call (.Name "range" p2) (e :: es) [] q] [] pos) (tLrg ta) := by
  refine ⟨fun pins s σ H Q I h => ?_⟩
  refine Call_ (ld_blt I hg hm (by decide +kernel : bootBuiltins ("list" : Str) = some (.type "list")) ?_)
  refine PyProof.Rows.callWith_type1 (PyProof.Rows.args_cons ?_ rfl) rfl rfl
  refine Call_ (ld_blt I hg2 hm2 boot_range (PyProof.Rows.callWith_type1 (thn (ha.run q pins s σ H _ I h) fun us s1 ⟨vs, H1, I1, r1, lo, hi, hv, ⟨b1, b2, b3, b4⟩, few, w⟩ => ?_) hs hpl))
  have fin : ∀ {t u v : Tok} {tk : Nat}, wpAny (model X.prog X.w) X.A (spliced (backTo pos (starEach [] X.env))) (fun vs s₂ => wpAny (model X.prog X.w) X.A (call (.type "list") (Value.ref s1.heap.objs.size :: vs)) (EP X pins σ Q) X.xe s₂) X.xe { s1 with heap := s1.heap.push { cls := .type "range", data := .fields #[.int lo t, .int hi u, .int 1 v] }, toks := tk } := by
    intro t u v tk
    have I2 : Inv X pins σ H1 { s1 with heap := s1.heap.push { cls := .type "range", data := .fields #[.int lo t, .int hi u, .int 1 v] }, toks := tk } := I1.kept fun b o e => Heap.get?_push_of_some _ e
    have sz : Builtin.Range.rangeSize lo hi 1 = ((hi - lo).toNat : Nat) := by rw [rangeSize_one]; split <;> omega
    refine PyProof.Rows.args_nil (call_list_range (n := (hi - lo).toNat) (I2.ok.hd hc) (IsRange.new ..) (small_one b1 b2 b3 b4) sz few fun h' tk' acc c' up hS hit => ?_)
    have vr := vals_rng hit
    refine ⟨.ref _, upd H1 _ (.lst (rngV lo (hi - lo).toNat)), I2.laid (t' := tk') up (Nat.le_refl _) ⟨?_, acc.toList, c', vr, by simpa using hS⟩, rfl, w _ (I2.hok.fresh (Nat.le_refl _))⟩
    unfold rngV
    rw [List.length_map, List.length_range, sizeLine_eq]
    omega
  rcases hv with ⟨rfl, rfl⟩ | rfl
  · cases r1 with
    | cons r rr =>
      cases rr
      obtain ⟨t, rfl⟩ := r
      exact call_range_1 fin
  · cases r1 with
    | cons r rr =>
      cases rr with
      | cons r' rr =>
        cases rr
        obtain ⟨t, rfl⟩ := r
        obtain ⟨t', rfl⟩ := r'
        exact call_range_2 fin
end
end Mini

/-! Mini, part e: the terms, what they are in the text, what they are worth. -/
namespace Mini
open PySem PySem.Spec PyProof.Rows L2

/-- four numbers in one -/
def pos (p : Nat) : Pos := ⟨p / 4096 / 4096 / 4096, p / 4096 / 4096 % 4096, p / 4096 % 4096, p % 4096⟩
/-- a target of names -/
inductive T where
  | nm (i : Nat) (p : Nat)
  | tp (ts : List T) (k : Nat) (p : Nat)
/-- built-in functions and types that are called -/
inductive B where
  | len | max | min | int | str | list | tuple | sorted | repr | sum | any | all | abs | bool
/-- methods of lists, texts -/
inductive Mt where
  | append | extend | pop | reverse | clear | insert | index | lcount
  | join | split | partition | upper | find | count | replace
/-- what a for walks: a value, range(..), enumerate(..), zip(.., ..) -/
inductive IK where
  | ov | rng (pn p : Nat) | enu (pn p : Nat) | zip (pn p : Nat) | itm (pn p : Nat)
/-- built-in classes for isinstance -/
inductive Ty where
  | int | bool | str | list | tuple
/-- operations on the values of their parts, from left to right -/
inductive X1 where
  | fm4
  | calk (f : Str) (ks : List Str) (pm : List Nat)
inductive E where
  | nop
  | non (p : Nat)
  | bl (b : Bool) (p : Nat)
  | int (i : Int) (p : Nat)
  | str (s : Str) (p : Nat)
  | var (i : Nat) (p : Nat)
  | glb (x : Str) (p : Nat)
  | tup (es : List E) (k : Nat) (p : Nat)
  | lst (c : Bool) (es : List E) (p : Nat)
  | bin (c : Bool) (op : Operator) (a b : E) (p : Nat)
  | neg (a : E) (p : Nat)
  | not (a : E) (p : Nat)
  | cmp (op : CmpOp) (a b : E) (p : Nat)
  | chn (op op' : CmpOp) (a b c : E) (p : Nat)
  | and (es : List E) (p : Nat)
  | or (es : List E) (p : Nat)
  | ife (c a b : E) (p : Nat)
  | ix (a b : E) (p : Nat)
  | sl (c : Bool) (a lo hi : E) (p2 p : Nat)
  | cal (f : Str) (es : List E) (pn p : Nat)
  | blt (c : Bool) (b : B) (es : List E) (pn p : Nat)
  | isi (a : E) (t : Ty) (pt pn p : Nat)
  | isiT (a : E) (ts : List (Ty × Nat)) (k pt pn p : Nat)
  | mth (c : Bool) (o : E) (m : Mt) (es : List E) (pa p : Nat)
  | lc (c : Bool) (k : IK) (its : List E) (t : T) (ifs : List E) (elt : E) (ns : List (Str × NameKind)) (own : List (Str × Nat)) (p : Nat)
  | frz (a : E)
  | dc0 (p : Nat)
  | lrg (c : Bool) (es : List E) (q2 p2 pn p : Nat)
  | ssc (c : Bool) (k : IK) (its : List E) (t : T) (ifs : List E) (elt : E) (ns : List (Str × NameKind)) (own : List (Str × Nat)) (p2 pn p : Nat)
  | sst (c : Bool) (a : E) (q2 p2 pn p : Nat)
  | nst (a : E) (q2 p2 pn p : Nat)
  | sls (c : Bool) (a lo hi st : E) (p2 p : Nat)
  | fmt (a : E) (p : Nat)
  | fst (a b : E) (es : List E) (p : Nat)
  | dcp (k : IK) (its : List E) (t : T) (ifs : List E) (ke ve : E) (ns : List (Str × NameKind)) (own : List (Str × Nat)) (p : Nat)
  | ext (x : X1) (es : List E) (ps : List Nat)

def B.name : B → Str
  | .len => "len" | .max => "max" | .min => "min" | .int => "int" | .str => "str" | .list => "list" | .tuple => "tuple" | .sorted => "sorted" | .repr => "repr" | .sum => "sum" | .any => "any" | .all => "all" | .abs => "abs" | .bool => "bool"
def Mt.name : Mt → Str
  | .append => "append" | .extend => "extend" | .pop => "pop" | .reverse => "reverse" | .clear => "clear" | .insert => "insert" | .index => "index" | .lcount => "count"
  | .join => "join" | .split => "split" | .partition => "partition" | .upper => "upper" | .find => "find" | .count => "count" | .replace => "replace"
def Ty.name : Ty → Str
  | .int => "int" | .bool => "bool" | .str => "str" | .list => "list" | .tuple => "tuple"
def scopeOf (ns : List (Str × NameKind)) : Scope := { kind := .function, names := ns, isGenerator := false, isCoroutine := false, more := [] }

def E.isNop : E → Bool
  | .nop => true
  | _ => false
def opt (b : Bool) (e : Expr) : Option Expr := if b = true then none else some e
def IK.ast (k : IK) (es : List Expr) : Expr := match k with
  | .ov => es.headD (.Constant .none 0 (pos 0))
  | .rng pn p => .Call (.Name "range" (pos pn)) es [] (pos p)
  | .enu pn p => .Call (.Name "enumerate" (pos pn)) es [] (pos p)
  | .zip pn p => .Call (.Name "zip" (pos pn)) es [] (pos p)
  | .itm pn p => .Call (.Attribute (es.headD (.Constant .none 0 (pos 0))) "items" (pos pn)) [] [] (pos p)
def kwsAst : List Str → List Expr → List Nat → List Keyword
  | k :: ks, e :: es, p :: ps => ⟨some k, e, pos p⟩ :: kwsAst ks es ps
  | _, _, _ => []
def X1.ast (x : X1) (es : List Expr) (ps : List Nat) : Expr := match x with
  | .fm4 => .FormattedValue (es.headD (.Constant .none 0 (pos 0))) (-1) (some (.JoinedStr [.Constant (.str ">4") 0 (pos (ps.getD 0 0))] (pos (ps.getD 1 0)))) (pos (ps.getD 2 0))
  | .calk f ks _ => .Call (.Name f (pos (ps.getD 0 0))) [] (kwsAst ks es (ps.drop 2)) (pos (ps.getD 1 0))
mutual
def T.ast (N : List Str) : T → Expr
  | .nm i p => .Name (N.getD i "") (pos p)
  | .tp ts k p => .Tuple (T.asts N ts) k (pos p)
def T.asts (N : List Str) : List T → List Expr
  | [] => []
  | t :: ts => T.ast N t :: T.asts N ts
end
mutual
def E.ast (N : List Str) : E → Expr
  | .nop => .Constant .none 0 (pos 0)
  | .non p => .Constant .none 0 (pos p)
  | .bl b p => .Constant (.bool b) 0 (pos p)
  | .int i p => .Constant (.int i) 0 (pos p)
  | .str s p => .Constant (.str s) 0 (pos p)
  | .var i p => .Name (N.getD i "") (pos p)
  | .glb x p => .Name x (pos p)
  | .tup es k p => .Tuple (E.asts N es) k (pos p)
  | .lst _ es p => .List (E.asts N es) (pos p)
  | .bin _ op a b p => .BinOp (E.ast N a) op (E.ast N b) (pos p)
  | .neg a p => .UnaryOp .USub (E.ast N a) (pos p)
  | .not a p => .UnaryOp .Not (E.ast N a) (pos p)
  | .cmp op a b p => .Compare (E.ast N a) [op] [E.ast N b] (pos p)
  | .chn op op' a b c p => .Compare (E.ast N a) [op, op'] [E.ast N b, E.ast N c] (pos p)
  | .and es p => .BoolOp .And (E.asts N es) (pos p)
  | .or es p => .BoolOp .Or (E.asts N es) (pos p)
  | .ife c a b p => .IfExp (E.ast N c) (E.ast N a) (E.ast N b) (pos p)
  | .ix a b p => .Subscript (E.ast N a) (E.ast N b) (pos p)
  | .sl _ a lo hi p2 p => .Subscript (E.ast N a) (.Slice (opt lo.isNop (E.ast N lo)) (opt hi.isNop (E.ast N hi)) none (pos p2)) (pos p)
  | .cal f es pn p => .Call (.Name f (pos pn)) (E.asts N es) [] (pos p)
  | .blt _ b es pn p => .Call (.Name b.name (pos pn)) (E.asts N es) [] (pos p)
  | .isi a t pt pn p => .Call (.Name "isinstance" (pos pn)) [E.ast N a, .Name t.name (pos pt)] [] (pos p)
  | .isiT a ts k pt pn p => .Call (.Name "isinstance" (pos pn)) [E.ast N a, .Tuple (ts.map fun z => .Name z.1.name (pos z.2)) k (pos pt)] [] (pos p)
  | .mth _ o m es pa p => .Call (.Attribute (E.ast N o) m.name (pos pa)) (E.asts N es) [] (pos p)
  | .lc _ k its t ifs elt ns _ p => .ListComp (E.ast N elt) [⟨t.ast N, k.ast (E.asts N its), E.asts N ifs, 0⟩] (scopeOf ns) (pos p)
  | .frz a => E.ast N a
  | .dc0 p => .Dict [] [] (pos p)
  | .lrg _ es q2 p2 pn p => .Call (.Name "list" (pos pn)) [.Call (.Name "range" (pos q2)) (E.asts N es) [] (pos p2)] [] (pos p)
  | .ssc _ k its t ifs elt ns _ p2 pn p => .Call (.Name "sorted" (pos pn)) [.SetComp (E.ast N elt) [⟨t.ast N, k.ast (E.asts N its), E.asts N ifs, 0⟩] (scopeOf ns) (pos p2)] [] (pos p)
  | .sst _ a q2 p2 pn p => .Call (.Name "sorted" (pos pn)) [.Call (.Name "set" (pos q2)) [E.ast N a] [] (pos p2)] [] (pos p)
  | .nst a q2 p2 pn p => .Call (.Name "len" (pos pn)) [.Call (.Name "set" (pos q2)) [E.ast N a] [] (pos p2)] [] (pos p)
  | .sls _ a lo hi st p2 p => .Subscript (E.ast N a) (.Slice (opt lo.isNop (E.ast N lo)) (opt hi.isNop (E.ast N hi)) (some (E.ast N st)) (pos p2)) (pos p)
  | .fmt a p => .FormattedValue (E.ast N a) (-1) none (pos p)
  | .fst a b es p => .JoinedStr (E.ast N a :: E.ast N b :: E.asts N es) (pos p)
  | .dcp k its t ifs ke ve ns _ p => .DictComp (E.ast N ke) (E.ast N ve) [⟨t.ast N, k.ast (E.asts N its), E.asts N ifs, 0⟩] (scopeOf ns) (pos p)
  | .ext x es ps => x.ast (E.asts N es) ps
def E.asts (N : List Str) : List E → List Expr
  | [] => []
  | e :: es => E.ast N e :: E.asts N es
end
end Mini
namespace Mini
open PySem L2
example : E.ast ["a"] (.bin false .Add (.var 0 (((1*4096+2)*4096+3)*4096+4)) (.lst true [.int 3 0] 5) 0) = .BinOp (.Name "a" ⟨1,2,3,4⟩) .Add (.List [.Constant (.int 3) 0 ⟨0,0,0,0⟩] ⟨0,0,0,5⟩) ⟨0,0,0,0⟩ := rfl
end Mini

/-! Mini, part f: what the terms are worth. -/
namespace Mini
open PySem PySem.Spec PyProof.Rows L2

def truD (d : D) (M : Mem) : Option Bool := match d with
  | .p .none => some false
  | .p (.bool b) => some b
  | .p (.int i) => some (i != 0)
  | .p (.str y) => if y.length ≤ sizeLine then some ((y.length : Int) != 0) else none
  | d => match seqD M d with
    | some xs => some (!xs.isEmpty)
    | none => match tupD d with
      | some xs => some (!xs.isEmpty)
      | none => none
def tru (d : D) (M : Mem) : R Bool := match truD d M with
  | some k => .ok k M
  | none => .stuck
def cutL {α : Type} (xs : List α) (lo hi : Option Int) : List α := (xs.drop (HT.sIx xs.length 0 lo)).take (HT.sIx xs.length xs.length hi - HT.sIx xs.length 0 lo)
/-- a cell's dict -/
def celD (x : D) (M : Mem) : Option (Nat × List (Key × D)) := match x with
  | .ref m => match M[m]? with
    | some (.dct kds) => some (m, kds)
    | _ => none
  | _ => none
def keyD : D → Option Key
  | .p (.int i) => some (.inl i)
  | .p (.str z) => some (.inr z)
  | _ => none
def getKD (kds : List (Key × D)) (k : Key) : Option D := (kds.find? fun z => decide (z.1 = k)).map (·.2)
def putKD (kds : List (Key × D)) (k : Key) (d : D) : List (Key × D) :=
  if (kds.any fun z => decide (z.1 = k)) = true then kds.map (fun z => if z.1 = k then (z.1, d) else z) else kds ++ [(k, d)]
def ixS (x i : D) (M : Mem) : Option (D × Mem) := match i with
  | .p (.int k) => match x with
    | .p (.str z) => if z.length ≤ sizeLine then (atI z.cps.toList k).map fun c => (.p (.str ⟨#[c]⟩), M) else none
    | x => match seqD M x with
      | some xs => (atI xs k).map fun d => (d, M)
      | none => match tupD x with
        | some xs => (atI xs k).map fun d => (d, M)
        | none => none
  | _ => none
def ixD (x i : D) (M : Mem) : Option (D × Mem) := match celD x M with
  | some z => (keyD i).bind fun k => (getKD z.2 k).map fun d => (d, M)
  | none => ixS x i M
def slD (c : Bool) (x : D) (lo hi : Option Int) (M : Mem) : Option (D × Mem) := match x with
  | .p (.str z) => if z.length ≤ sizeLine then some (.p (.str (cutS z lo hi)), M) else none
  | x => match seqD M x with
    | some xs => al c (cutL xs lo hi) M
    | none => none
def negD (x : D) (M : Mem) : Option (D × Mem) := match x with
  | .p (.int i) => some (.p (.int (-i)), M)
  | _ => none
def asInt : D → Option (Option Int)
  | .p (.int i) => some (some i)
  | _ => none
def lenS (x : D) (M : Mem) : Option Nat := match x with
  | .p (.str y) => if y.length ≤ sizeLine then some y.length else none
  | x => match seqD M x with
    | some xs => some xs.length
    | none => match tupD x with
      | some xs => some xs.length
      | none => none
def lenD (x : D) (M : Mem) : Option Nat := match celD x M with
  | some z => some z.2.length
  | none => lenS x M
def intsOf : List D → Option (List Int)
  | [] => some []
  | .p (.int i) :: ds => (intsOf ds).map (i :: ·)
  | _ => none
def boolsOf : List D → Option (List Bool)
  | [] => some []
  | .p (.bool i) :: ds => (boolsOf ds).map (i :: ·)
  | _ => none
def strsOf : List D → Option (List Str)
  | [] => some []
  | .p (.str i) :: ds => (strsOf ds).map (i :: ·)
  | _ => none
/-- all of the one kind, sortable -/
def sortOk (xs : List PyData) : Bool :=
  (xs.all fun a => xs.all fun b => PySem.W.alike a b) && ((xs.all fun a => match a with | .tuple (_ :: _) => true | _ => false) || (xs.all fun a => match a with | .none => false | .tuple _ => false | _ => true)) && xs.all okd
inductive Tk where
  | none | bool | int | str | list | tuple
def tyD (x : D) (M : Mem) : Option Tk := match x with
  | .p .none => some .none
  | .p (.bool _) => some .bool
  | .p (.int _) => some .int
  | .p (.str _) => some .str
  | .p (.list _) => some .list
  | .p (.tuple _) => some .tuple
  | .p (.dict _) => Option.none
  | .tr _ => some .tuple
  | .ref m => match M[m]? with
    | some (.lst _) => some .list
    | _ => Option.none
def isT (k : Tk) (t : Ty) : Bool := match k, t with
  | .int, .int | .bool, .int | .bool, .bool | .str, .str | .list, .list | .tuple, .tuple => true
  | _, _ => false
def isaP (t : Ty) (x : D) (M : Mem) : Option Bool := (tyD x M).map fun k => isT k t
def isaPs (ts : List Ty) (x : D) (M : Mem) : Option Bool := (tyD x M).map fun k => ts.any (isT k)
def one1 (f : D → Mem → Option (D × Mem)) (ds : List D) (M : Mem) : Option (D × Mem) := match ds with
  | [x] => f x M
  | _ => none
def bLen (x : D) (M : Mem) : Option (D × Mem) := (lenD x M).map fun n => (.p (.int n), M)
def bMax (ds : List D) (M : Mem) : Option (D × Mem) := match ds with
  | [.p (.int i), .p (.int j)] => some (.p (.int (if j > i then j else i)), M)
  | _ => none
def bMin (ds : List D) (M : Mem) : Option (D × Mem) := match ds with
  | [.p (.int i), .p (.int j)] => some (.p (.int (if j < i then j else i)), M)
  | _ => none
def bInt (x : D) (M : Mem) : Option (D × Mem) := match x with
  | .p (.int i) => some (.p (.int i), M)
  | .p (.bool k) => some (.p (.int (if k then 1 else 0)), M)
  | .p (.str a) => match PySem.intText? a with
    | some n => if a.length ≤ 640 then some (.p (.int n), M) else none
    | none => none
  | _ => none
def bBool (x : D) (M : Mem) : Option (D × Mem) := match x with
  | .p (.bool k) => some (.p (.bool k), M)
  | _ => none
def bStr (x : D) (M : Mem) : Option (D × Mem) := match x with
  | .p (.int i) => if i.natAbs.log2 < 1920 then some (.p (.str (toString i)), M) else none
  | _ => none
def bAbs (x : D) (M : Mem) : Option (D × Mem) := match x with
  | .p (.int i) => some (.p (.int (if i < 0 then -i else i)), M)
  | _ => none
def bListS (c : Bool) (x : D) (M : Mem) : Option (D × Mem) := match seqD M x with
  | some xs => al c xs M
  | none => match tupD x with
    | some xs => al c xs M
    | none => none
def signsD (z : Str) : List D := z.cps.toList.map fun c => .p (.str ⟨#[c]⟩)
def bList (c : Bool) (x : D) (M : Mem) : Option (D × Mem) := match x with
  | .p (.str z) => if z.length ≤ sizeLine then al c (signsD z) M else none
  | x => bListS c x M
def bTuple (x : D) (M : Mem) : Option (D × Mem) := match seqD M x with
  | some xs => some (mkT xs, M)
  | none => match tupD x with
    | some _ => some (x, M)
    | none => none
def bSum (x : D) (M : Mem) : Option (D × Mem) := match (seqD M x).bind intsOf with
  | some is => some (.p (.int is.sum), M)
  | none => none
def bAny (x : D) (M : Mem) : Option (D × Mem) := match (seqD M x).bind boolsOf with
  | some is => some (.p (.bool (is.any id)), M)
  | none => none
def bAll (x : D) (M : Mem) : Option (D × Mem) := match (seqD M x).bind boolsOf with
  | some is => some (.p (.bool (is.all id)), M)
  | none => none
def bSorted (c : Bool) (x : D) (M : Mem) : Option (D × Mem) := match (seqD M x).bind pAll with
  | some xs => if sortOk xs = true ∧ xs.length ≤ sizeLine then al c ((xs.mergeSort (PySem.W.dataLe false id)).map .p) M else none
  | none => none
def shP (d : PyData) : Bool := match d with
  | .list _ => true
  | .tuple _ => true
  | _ => false
def bRepr (x : D) (M : Mem) : Option (D × Mem) := match res 6 M x with
  | some d => if shP d = true ∧ d.showable = true ∧ okd d = true ∧ d.shown.length ≤ sizeLine then some (.p (.str d.shown), M) else none
  | none => none
def bltD (c : Bool) : B → List D → Mem → Option (D × Mem)
  | .len => one1 bLen
  | .max => bMax
  | .min => bMin
  | .int => one1 bInt
  | .bool => one1 bBool
  | .str => one1 bStr
  | .abs => one1 bAbs
  | .list => one1 (bList c)
  | .tuple => one1 bTuple
  | .sum => one1 bSum
  | .any => one1 bAny
  | .all => one1 bAll
  | .sorted => one1 (bSorted c)
  | .repr => one1 bRepr
/-- a cell's list -/
def celL (x : D) (M : Mem) : Option (Nat × List D) := match x with
  | .ref m => match M[m]? with
    | some (.lst xs) => some (m, xs)
    | _ => none
  | _ => none
def nonD : D := .p .none
def cel (f : Nat → List D → Option (D × Mem)) (o : D) (M : Mem) : Option (D × Mem) := match celL o M with
  | some (m, xs) => f m xs
  | none => none
def mAppend (o : D) (ds : List D) (M : Mem) : Option (D × Mem) := match ds with
  | [x] => cel (fun m xs => if xs.length < sizeLine then some (nonD, M.set m (.lst (xs ++ [x]))) else none) o M
  | _ => none
def mExtend (o : D) (ds : List D) (M : Mem) : Option (D × Mem) := match ds with
  | [x] => cel (fun m xs => cel (fun _ ys => if xs.length + ys.length ≤ sizeLine then some (nonD, M.set m (.lst (xs ++ ys))) else none) x M) o M
  | _ => none
def mPop (o : D) (ds : List D) (M : Mem) : Option (D × Mem) := match ds with
  | [] => cel (fun m xs => (xs[xs.length - 1]?).map fun y => (y, M.set m (.lst xs.dropLast))) o M
  | [.p (.int i)] => cel (fun m xs => if -(2 ^ 63) ≤ i ∧ i < 2 ^ 63 then match seqIndex? i xs.length with
      | some k => (xs[k]?).map fun y => (y, M.set m (.lst (xs.eraseIdx k)))
      | none => none
    else none) o M
  | _ => none
def mReverse (o : D) (ds : List D) (M : Mem) : Option (D × Mem) := match ds with
  | [] => cel (fun m xs => some (nonD, M.set m (.lst xs.reverse))) o M
  | _ => none
def mClear (o : D) (ds : List D) (M : Mem) : Option (D × Mem) := match ds with
  | [] => cel (fun m _ => some (nonD, M.set m (.lst []))) o M
  | _ => none
def mInsert (o : D) (ds : List D) (M : Mem) : Option (D × Mem) := match ds with
  | [.p (.int i), x] => cel (fun m xs => if xs.length < sizeLine ∧ 0 ≤ i ∧ i < 2 ^ 63 then some (nonD, M.set m (.lst (xs.take i.toNat ++ x :: xs.drop i.toNat))) else none) o M
  | _ => none
def listP : Option PyData → Option (List PyData)
  | some (.list xs) => some xs
  | _ => none
def mIndex (o : D) (ds : List D) (M : Mem) : Option (D × Mem) := match ds with
  | [x] => match listP (res 6 M o), res 6 M x with
    | some xs, some d => if okd d = true then (SeqAt.dataPlace xs d).map fun j => (.p (.int (j : Nat)), M) else none
    | _, _ => none
  | _ => none
def mCount (o : D) (ds : List D) (M : Mem) : Option (D × Mem) := match ds with
  | [x] => match listP (res 6 M o), res 6 M x with
    | some xs, some d => if okd d = true then some (.p (.int ((xs.countP fun y => PyData.eqv y d : Nat) : Int)), M) else none
    | _, _ => none
  | _ => none
def str1 (o : D) (ds : List D) : Option (Str × Str) := match o, ds with
  | .p (.str a), [.p (.str b)] => some (a, b)
  | _, _ => none
def mFind (o : D) (ds : List D) (M : Mem) : Option (D × Mem) := (str1 o ds).map fun (a, b) => (.p (.int (Txt.find a b)), M)
def mSCount (o : D) (ds : List D) (M : Mem) : Option (D × Mem) := (str1 o ds).map fun (a, b) => (.p (.int (Txt.count a b)), M)
def mUpper (o : D) (ds : List D) (M : Mem) : Option (D × Mem) := match o, ds with
  | .p (.str a), [] => if a.length ≤ 5592405 then some (.p (.str (Txt.upper a)), M) else none
  | _, _ => none
def mSplit (c : Bool) (o : D) (ds : List D) (M : Mem) : Option (D × Mem) := match str1 o ds with
  | some (a, b) => if (b.length == 0) = false ∧ a.length + 2 ≤ sizeLine then al c ((Txt.split a b).map fun z => .p (.str z)) M else none
  | none => none
def mJoin (o : D) (ds : List D) (M : Mem) : Option (D × Mem) := match o, ds with
  | .p (.str a), [x] => match (seqD M x).bind strsOf with
    | some ys => if (ys.map (·.length)).sum + ys.length * a.length ≤ 16777216 then some (.p (.str (Txt.join a ys)), M) else none
    | none => none
  | _, _ => none
def mPart (o : D) (ds : List D) (M : Mem) : Option (D × Mem) := match str1 o ds with
  | some (a, b) => if (b.length == 0) = false ∧ a.length ≤ sizeLine then some (.p (.tuple [.str (Txt.partition a b).1, .str (Txt.partition a b).2.1, .str (Txt.partition a b).2.2]), M) else none
  | none => none
def mthD (c : Bool) : Mt → D → List D → Mem → Option (D × Mem)
  | .append => mAppend
  | .extend => mExtend
  | .pop => mPop
  | .reverse => mReverse
  | .clear => mClear
  | .insert => mInsert
  | .index => mIndex
  | .lcount => mCount
  | .find => mFind
  | .count => mSCount
  | .upper => mUpper
  | .split => mSplit c
  | .join => mJoin
  | .partition => mPart
  | _ => fun _ _ _ => none

/-- is it of the kind that has the method -/
def Mt.isStr : Mt → Bool
  | .join | .split | .partition | .upper | .find | .count | .replace => true
  | _ => false
def rcv (b : Mt) (x : D) (M : Mem) : Bool := match b.isStr with
  | true => match x with
    | .p (.str _) => true
    | _ => false
  | false => (seqD M x).isSome
/-- the world around: the defs by name, the module's constants -/
structure Wd where
  call : Str → List D → Mem → R D
  glb : Str → Option PyData

def getL (l : Lo) (i : Nat) (M : Mem) : R D := match l[i]? with
  | some (some d) => .ok d M
  | _ => .stuck
mutual
def setT : T → D → Lo → Option Lo
  | .nm i _, d, l => if i < l.length then some (l.set i (some d)) else none
  | .tp ts _ _, d, l => match tupD d with
    | some ds => setTs ts ds l
    | none => none
def setTs : List T → List D → Lo → Option Lo
  | [], [], l => some l
  | t :: ts, d :: ds, l => match setT t d l with
    | some l' => setTs ts ds l'
    | none => none
  | _, _, _ => none
end
def bothIs (w : Option (List D)) (xs : List D) : Prop := w = some xs
/-- what is walked: the values, and what must stay as it is meanwhile -/
abbrev Wk := List (D × List D)
open Classical in
noncomputable def stays (w : Wk) (M : Mem) : Bool := decide (∀ z ∈ w, seqD M z.1 = some z.2 ∨ (seqD M z.1 = none ∧ tupD z.1 = some z.2))
def zipD : List D → List D → List D
  | x :: xs, y :: ys => mkT [x, y] :: zipD xs ys
  | _, _ => []
def enuD : Nat → List D → List D
  | _, [] => []
  | n, x :: xs => mkT [.p (.int n), x] :: enuD (n + 1) xs
def rngD (lo : Int) (n : Nat) : List D := (List.range n).map fun (k : Nat) => .p (.int (lo + ((k : Nat) : Int)))
def seqOrTup (M : Mem) (x : D) : Option (List D) := match seqD M x with
  | some xs => some xs
  | none => tupD x
def big (i : Int) : Prop := -(2 ^ 62) ≤ i ∧ i < 2 ^ 62
instance (i : Int) : Decidable (big i) := by unfold big; infer_instance
/-- the items of a dict -/
def itmD (kds : List (Key × D)) : List D := kds.map fun z => mkT [.p (kD z.1), z.2]
/-- what is walked, from the values of its parts -/
def walkD (k : IK) (ds : List D) (M : Mem) : Option (List D × Wk) := match k, ds with
  | .ov, [.p (.str z)] => if z.length ≤ sizeLine then some (z.cps.toList.map fun c => .p (.str ⟨#[c]⟩), []) else none
  | .ov, [x] => (seqOrTup M x).map fun xs => (xs, [(x, xs)])
  | .rng _ _, [.p (.int j)] => if big j then some (rngD 0 j.toNat, []) else none
  | .rng _ _, [.p (.int i), .p (.int j)] => if big i ∧ big j then some (rngD i (j - i).toNat, []) else none
  | .enu _ _, [x] => (seqD M x).map fun xs => (enuD 0 xs, [(x, xs)])
  | .itm _ _, [.ref m] => match M[m]? with
    | some (.dct kds) => some (itmD kds, [])
    | _ => none
  | .zip _ _, [x, y] => match seqD M x, seqD M y with
    | some xs, some ys => some (zipD xs ys, [(x, xs), (y, ys)])
    | none, none => match tupD x, tupD y with
      | some xs, some ys => some (zipD xs ys, [])
      | none, none => match x, y with
        | .p (.str a), .p (.str b) => some (zipD (a.cps.toList.map fun c => .p (.str ⟨#[c]⟩)) (b.cps.toList.map fun c => .p (.str ⟨#[c]⟩)), [])
        | _, _ => none
      | _, _ => none
    | _, _ => none
  | _, _ => none
/-- the loop of a comprehension -/
noncomputable def lcL (w : Wk) (body : D → Mem → R (Option D)) : List D → Mem → R (List D)
  | [], M => if stays w M = true then .ok [] M else .stuck
  | d :: ds, M => if stays w M = true then (body d M).bind fun r M1 => (lcL w body ds M1).bind fun xs M2 => .ok (match r with | some x => x :: xs | none => xs) M2 else .stuck
def wipeL (l : Lo) : List Nat → Lo
  | [] => l
  | v :: vs => (wipeL l vs).set v none
/-- nothing raised comes out of a comprehension -/
def R.calm {α : Type} : R α → R α
  | .exc _ _ => .stuck
  | r => r
/-- a dict whose items are walked is gone -/
@[reducible] def wkM (k : IK) (ds : List D) (M : Mem) : Mem := match k with
  | .itm _ _ => match ds with
    | [.ref m] => M.set m .dead
    | _ => M
  | _ => M
def walkR (k : IK) (ds : List D) (M : Mem) : R (List D × Wk) := match walkD k ds M with
  | some r => .ok r (wkM k ds M)
  | none => .stuck
/-- one turn of a comprehension -/
def lcB (ft : Lo → Mem → R Bool) (fe : Lo → Mem → R D) (t : T) (own : List Nat) (l : Lo) (d : D) (M : Mem) : R (Option D) := match setT t d (wipeL l own) with
  | none => .stuck
  | some l2 => (ft l2 M).calm.bind fun b M3 => if b = true then (fe l2 M3).calm.bind fun x M4 => .ok (some x) M4 else .ok none M3
def finL (c : Bool) (ys : List D) (M : Mem) : R D := if ys.length ≤ sizeLine then ofO (al c ys M) else .stuck
def freeze (d : D) (M : Mem) : Option (D × Mem) := match d with
  | .p x => some (.p x, M)
  | .ref m => match M[m]? with
    | some (.lst xs) => (pAll xs).map fun ds => (.p (.list ds), M.set m .dead)
    | _ => none
  | .tr _ => none
def ofB (r : Option (D × Mem)) : R D := ofO r

mutual
def D.bd (n : Nat) : D → Bool
  | .p _ => true
  | .ref m => decide (m < n)
  | .tr ds => D.bds n ds
def D.bds (n : Nat) : List D → Bool
  | [] => true
  | d :: ds => D.bd n d && D.bds n ds
end
def gcOk (M : Mem) (d : D) (M' : Mem) : Prop := d.bd M.length = true ∧ ∀ (i : Nat) (c : Cell), i < M.length → M'[i]? = some c → M[i]? = some c ∨ D.bds M.length c.vals = true
open Classical in
noncomputable def gc (M : Mem) (r : R D) : R D := match r with
  | .ok d M' => if gcOk M d M' then .ok d (M'.take M.length) else .ok d M'
  | .exc c M' => if gcOk M nonD M' then .exc c (M'.take M.length) else .exc c M'
  | .stuck => .stuck
def optI (b : Bool) (r : R D) (M : Mem) : R (Option Int) := if b = true then .ok none M else r.bind fun d M1 => match asInt d with
  | some o => .ok o M1
  | none => .stuck
/-! ### sets at once -/
def keysD : List D → Option (List Key)
  | [] => some []
  | d :: ds => match keyD d, keysD ds with
    | some k, some ks => some (k :: ks)
    | _, _ => none
def tupsD : List D → Option (List (List Key))
  | [] => some []
  | d :: ds => match d with
    | .p (.tuple xs) => match keysD (xs.map .p), tupsD ds with
      | some k, some ks => some (k :: ks)
      | _, _ => none
    | _ => none
def sortX (c : Bool) (ks : List Key) (M : Mem) : Option (D × Mem) := if sameK (dedupK ks) = true then al c ((sortK (dedupK ks)).map fun k => .p (kD k)) M else none
def walkKD (x : D) (M : Mem) : Option (List Key) := match x with
  | .p (.str z) => some (signs z)
  | x => match seqD M x with
    | some xs => keysD xs
    | none => none
def sstD (c : Bool) (x : D) (M : Mem) : Option (D × Mem) := match walkKD x M with
  | some ks => if ks.length + 1 < scanBound then sortX c ks M else none
  | none => none
def nstK (x : D) (M : Mem) : Option (D × Mem) := match walkKD x M with
  | some ks => if ks.length + 1 < scanBound then some (.p (.int (dedupK ks).length), M) else none
  | none => none
def nstT (x : D) (M : Mem) : Option (D × Mem) := match seqD M x with
  | some xs => match tupsD xs with
    | some ks => if ks.length < 63 then some (.p (.int (dedupT ks).length), M) else none
    | none => none
  | none => none
def nstD (x : D) (M : Mem) : Option (D × Mem) := if (walkKD x M).isSome = true then nstK x M else nstT x M
def keyE (r : R D) : R D := r.bind fun x M => if (keyD x).isSome = true then .ok x M else .stuck
def rngI : List D → Option (Int × Int)
  | [.p (.int j)] => some (0, j)
  | [.p (.int i), .p (.int j)] => some (i, j)
  | _ => none
def lrgD (c : Bool) (ds : List D) (M : Mem) : Option (D × Mem) := match rngI ds with
  | some z => if (big z.1 ∧ big z.2) ∧ (z.2 - z.1).toNat ≤ 2 ^ 24 then al c (rngD z.1 (z.2 - z.1).toNat) M else none
  | none => none
/-- the indices of a slice with a step -/
def pickI (n : Nat) (lo hi : Option Int) (st : Int) : List Nat := sliceRange (sliceBounds lo hi (some st) n).1 (sliceBounds lo hi (some st) n).2.1 (sliceBounds lo hi (some st) n).2.2
def pickL {α : Type} (xs : List α) (lo hi : Option Int) (st : Int) : List α := (pickI xs.length lo hi st).filterMap (xs[·]?)
def slsD (c : Bool) (x : D) (lo hi : Option Int) (st : Int) (M : Mem) : Option (D × Mem) := if st = 0 then none else match seqD M x with
  | some xs => al c (pickL xs lo hi st) M
  | none => none
/-- a step: an int -/
def stpD (r : R D) : R Int := r.bind fun d M => match d with
  | .p (.int i) => .ok i M
  | _ => .stuck
/-- {x} -/
def fmtD (x : D) : Option Str := match x with
  | .p (.str y) => if y.length ≤ sizeLine then some y else none
  | .p (.int i) => if i.natAbs.log2 < 1920 then some (toString i) else none
  | _ => none
def fmtR (r : R D) : R D := r.bind fun x M => match fmtD x with
  | some y => .ok (.p (.str y)) M
  | none => .stuck
/-- one text behind another -/
def jnD (acc : Str) (x : D) (M : Mem) : R Str := match x with
  | .p (.str y) => if (acc ++ y).length ≤ sizeLine then .ok (acc ++ y) M else .stuck
  | _ => .stuck
/-- the loop of a dict comprehension; the dict is the cell m -/
noncomputable def dcL (m : Nat) (w : Wk) (body : D → Mem → R (Option (D × D))) : List D → Mem → R D
  | [], M => if stays w M = true then .ok (.ref m) M else .stuck
  | d :: ds, M => if stays w M = true then (body d M).bind fun r M1 => match r with
    | none => dcL m w body ds M1
    | some kv => match keyD kv.1, M1[m]? with
      | some k, some (.dct kds) => if kds.length < sizeLine then dcL m w body ds (M1.set m (.dct (putKD kds k kv.2))) else .stuck
      | _, _ => .stuck
    else .stuck
def dcB (ft : Lo → Mem → R Bool) (fk fv : Lo → Mem → R D) (t : T) (own : List Nat) (l : Lo) (d : D) (M : Mem) : R (Option (D × D)) := match setT t d (wipeL l own) with
  | none => .stuck
  | some l2 => (ft l2 M).calm.bind fun b M3 => if b = true then (fk l2 M3).calm.bind fun x M4 => (fv l2 M4).calm.bind fun y M5 => .ok (some (x, y)) M5 else .ok none M3
/-- {x:>4} of a small number -/
def fm4D (x : D) (M : Mem) : Option (D × Mem) := match x with
  | .p (.int i) => if 0 ≤ i ∧ i < 2 ^ 62 then some (.p (.str ⟨(List.replicate (4 - (Nat.toDigits 10 i.natAbs).length) 32 ++ (Nat.toDigits 10 i.natAbs).map Char.toNat).toArray⟩), M) else none
  | _ => none
def X1.sem (Γ : Wd) (x : X1) (ds : List D) (M : Mem) : R D := match x with
  | .fm4 => ofO (one1 fm4D ds M)
  | .calk f ks pm => if ds.length = ks.length then Γ.call f (pm.filterMap (ds[·]?)) M else .stuck
mutual
noncomputable def evalE (Γ : Wd) : E → Lo → Mem → R D
  | .nop => fun _ _ => .stuck
  | .non _ => fun _ M => .ok (.p .none) M
  | .bl b _ => fun _ M => .ok (.p (.bool b)) M
  | .int i _ => fun _ M => .ok (.p (.int i)) M
  | .str s _ => fun _ M => .ok (.p (.str s)) M
  | .var i _ => fun l M => getL l i M
  | .glb x _ => fun _ M => match Γ.glb x with
    | some d => .ok (.p d) M
    | none => .stuck
  | .tup es _ _ => fun l M => (evalA Γ es l M).bind fun ds M1 => if ds.length ≤ sizeLine then .ok (mkT ds) M1 else .stuck
  | .lst c es _ => fun l M => (evalA Γ es l M).bind fun ds M1 => if ds.length ≤ sizeLine then ofO (al c ds M1) else .stuck
  | .bin c op a b _ => fun l M => (evalE Γ a l M).bind fun x M1 => (evalE Γ b l M1).bind fun y M2 => ofO (binD c op x y M2)
  | .neg a _ => fun l M => (evalE Γ a l M).bind fun x M1 => ofO (negD x M1)
  | .not a _ => fun l M => (evalE Γ a l M).bind fun x M1 => (tru x M1).bind fun k M2 => .ok (.p (.bool !k)) M2
  | .cmp op a b _ => fun l M => (evalE Γ a l M).bind fun x M1 => (evalE Γ b l M1).bind fun y M2 => ofO (cmpD op x y M2)
  | .chn op op' a b c _ => fun l M => (evalE Γ a l M).bind fun x M1 => (evalE Γ b l M1).bind fun y M2 => (ofO (cmpD op x y M2)).bind fun z M3 => match z with
    | .p (.bool true) => (evalE Γ c l M3).bind fun w M4 => ofO (cmpD op' y w M4)
    | .p (.bool false) => .ok (.p (.bool false)) M3
    | _ => .stuck
  | .and es _ => fun l M => evalAnd Γ es l M
  | .or es _ => fun l M => evalOr Γ es l M
  | .ife c a b _ => fun l M => (evalE Γ c l M).bind fun x M1 => (tru x M1).bind fun k M2 => if k = true then evalE Γ a l M2 else evalE Γ b l M2
  | .ix a b _ => fun l M => (evalE Γ a l M).bind fun x M1 => (evalE Γ b l M1).bind fun y M2 => ofO (ixD x y M2)
  | .sl c a lo hi _ _ => fun l M => (evalE Γ a l M).bind fun x M1 => (optI lo.isNop (evalE Γ lo l M1) M1).bind fun i M2 => (optI hi.isNop (evalE Γ hi l M2) M2).bind fun j M3 => ofO (slD c x i j M3)
  | .cal f es _ _ => fun l M => (evalA Γ es l M).bind fun ds M1 => Γ.call f ds M1
  | .blt c b es _ _ => fun l M => (evalA Γ es l M).bind fun ds M1 => ofO (bltD c b ds M1)
  | .isi a t _ _ _ => fun l M => (evalE Γ a l M).bind fun x M1 => match isaP t x M1 with
    | some k => .ok (.p (.bool k)) M1
    | none => .stuck
  | .isiT a ts _ _ _ _ => fun l M => (evalE Γ a l M).bind fun x M1 => match isaPs (ts.map (·.1)) x M1 with
    | some k => .ok (.p (.bool k)) M1
    | none => .stuck
  | .mth c o m es _ _ => fun l M => (evalE Γ o l M).bind fun x M1 => if rcv m x M1 = true then (evalA Γ es l M1).bind fun ds M2 => ofO (mthD c m x ds M2) else .stuck
  | .lc c k its t ifs elt _ own _ => fun l M => ((evalA Γ its l M).bind fun ds M1 => walkR k ds M1).bind fun r M2 => (lcL r.2 (lcB (evalTs Γ ifs) (evalE Γ elt) t (own.map (·.2)) l) r.1 M2).bind fun ys M3 => finL c ys M3
  | .frz a => fun l M => (evalE Γ a l M).bind fun x M1 => ofO (freeze x M1)
  | .dc0 _ => fun _ M => .ok (.ref M.length) (M ++ [.dct []])
  | .lrg c es _ _ _ _ => fun l M => (evalA Γ es l M).bind fun ds M1 => ofO (lrgD c ds M1)
  | .ssc c k its t ifs elt _ own _ _ _ => fun l M => ((evalA Γ its l M).bind fun ds M1 => walkR k ds M1).bind fun r M2 => if r.1.length + 1 < scanBound then (lcL r.2 (lcB (evalTs Γ ifs) (fun l M => keyE (evalE Γ elt l M)) t (own.map (·.2)) l) r.1 M2).bind fun ys M3 => match keysD ys with
      | some ks => ofO (sortX c ks M3)
      | none => .stuck
    else .stuck
  | .sst c a _ _ _ _ => fun l M => (evalE Γ a l M).bind fun x M1 => ofO (sstD c x M1)
  | .nst a _ _ _ _ => fun l M => (evalE Γ a l M).bind fun x M1 => ofO (nstD x M1)
  | .sls c a lo hi st _ _ => fun l M => (evalE Γ a l M).bind fun x M1 => (optI lo.isNop (evalE Γ lo l M1) M1).bind fun i M2 => (optI hi.isNop (evalE Γ hi l M2) M2).bind fun j M3 => (stpD (evalE Γ st l M3)).bind fun k M4 => ofO (slsD c x i j k M4)
  | .fmt a _ => fun l M => fmtR (evalE Γ a l M)
  | .fst a b es _ => fun l M => (evalE Γ a l M).bind fun x M1 => (jnD Str.empty x M1).bind fun s1 M2 => (evalE Γ b l M2).bind fun y M3 => (jnD s1 y M3).bind fun s2 M4 => evalJ Γ es s2 l M4
  | .dcp k its t ifs ke ve _ own _ => fun l M => ((evalA Γ its l M).bind fun ds M1 => walkR k ds M1).bind fun r M2 => dcL M2.length r.2 (dcB (evalTs Γ ifs) (evalE Γ ke) (evalE Γ ve) t (own.map (·.2)) l) r.1 (M2 ++ [.dct []])
  | .ext x es _ => fun l M => (evalA Γ es l M).bind fun ds M1 => x.sem Γ ds M1
noncomputable def evalA (Γ : Wd) : List E → Lo → Mem → R (List D)
  | [] => fun _ M => .ok [] M
  | e :: es => fun l M => (evalE Γ e l M).bind fun x M1 => (evalA Γ es l M1).bind fun xs M2 => .ok (x :: xs) M2
noncomputable def evalAnd (Γ : Wd) : List E → Lo → Mem → R D
  | [] => fun _ _ => .stuck
  | [e] => fun l M => evalE Γ e l M
  | e :: e' :: es => fun l M => (evalE Γ e l M).bind fun x M1 => (tru x M1).bind fun k M2 => if k = true then evalAnd Γ (e' :: es) l M2 else .ok x M2
noncomputable def evalOr (Γ : Wd) : List E → Lo → Mem → R D
  | [] => fun _ _ => .stuck
  | [e] => fun l M => evalE Γ e l M
  | e :: e' :: es => fun l M => (evalE Γ e l M).bind fun x M1 => (tru x M1).bind fun k M2 => if k = true then .ok x M2 else evalOr Γ (e' :: es) l M2
noncomputable def evalJ (Γ : Wd) : List E → Str → Lo → Mem → R D
  | [] => fun acc _ M => .ok (.p (.str acc)) M
  | e :: es => fun acc l M => (evalE Γ e l M).bind fun x M1 => (jnD acc x M1).bind fun s M2 => evalJ Γ es s l M2
noncomputable def evalTs (Γ : Wd) : List E → Lo → Mem → R Bool
  | [] => fun _ M => .ok true M
  | [e] => fun l M => (evalE Γ e l M).bind fun x M1 => tru x M1
  | _ :: _ :: _ => fun _ _ => .stuck
end
end Mini
namespace Mini
open PySem L2
example (Γ : Wd) (l : Lo) (M : Mem) : evalE Γ (.and [.non 0, .bl true 3] 0) l M = .ok (.p .none) M := rfl
example (Γ : Wd) (l : Lo) (M : Mem) (i : Int) : evalE Γ (.bin false .Add (.int i 0) (.int 4 0) 0) l M = .ok (.p (.int (i + 4))) M := rfl
end Mini

/-! Mini, part g: the terms hold in the text: expressions. -/
namespace Mini
open PySem PySem.Spec PyProof.Rows L2

section
variable {X : Cx} {xc : Nat → Addr} {W : WX}
/-! ### tests -/
theorem tru_ok {ρ : Rho} {M : Mem} {σ : L2.St} {H : Hp} {d : D} {x : V} {Q : Bool → Hp → Prop} (m : MemOk X.K ρ M H) (r : RelD X.K (hd ρ M H) ρ d x) (h : post RelB X.K xc W ρ M σ H Q (tru d M)) : ∃ k, TruV X.K x H k ∧ Q k H := by
  unfold tru at h
  cases e : truD d M with
  | none => rw [e] at h; exact h.elim
  | some k =>
    rw [e] at h
    have q : Q k H := h k ρ H m (Le.refl _ _) rfl
    refine ⟨k, ?_, q⟩
    unfold truD at e
    split at e
    · cases relP r; cases e; rfl
    · cases relP r; cases e; rfl
    · cases relP r; cases e; rfl
    · cases relP r
      split at e
      · rename_i hl
        cases e; exact ⟨hl, rfl⟩
      · cases e
    · split at e
      · rename_i xs h1
        cases e
        obtain ⟨a, vs, rfl, s, rr⟩ := seq_ok m r h1
        refine .inl ⟨vs, s, ?_⟩
        have := rr.length
        cases xs <;> cases vs <;> first | rfl | (simp at this)
      · split at e
        · rename_i xs h1
          cases e
          obtain ⟨a, vs, rfl, s, rr⟩ := tup_ok r h1
          refine .inr (.inl ⟨vs, s, ?_⟩)
          have := rr.length
          cases xs <;> cases vs <;> first | rfl | (simp at this)
        · cases e
/-- a test by its value's truth -/
theorem mt_truth {a : Expr} {fa : Lo → Mem → R D} (ha : PE X a (rdE X.K xc W fa)) (he : ∀ whole, isTrue a X.env whole = (do let v ← whole; standAt a.pos; holding [v] (truthy v))) :
    PT X a (rdT X.K xc W fun l M => (fa l M).bind tru) := by
  refine PT.imp (pt_truth ha he) ?_
  rintro σ H Q ⟨ρ, l, M, S, h⟩
  obtain ⟨ρ0, l0, M0, S0, h0⟩ := run1 (Rel := RelD X.K) S h
  refine ⟨ρ0, l0, M0, S0, h0.imp ?_⟩
  rintro x H1 ⟨ρ1, M1, d, S1, r1, k1, h1⟩
  exact tru_ok S1.mem r1 h1
theorem cmpD_bool {op : CmpOp} {x y d : D} {M M' : Mem} (h : cmpD op x y M = some (d, M')) : ∃ k, d = .p (.bool k) ∧ M' = M := by
  have two_b : ∀ {f : PyData → PyData → Option Bool}, two f x y M = some (d, M') → ∃ k, d = .p (.bool k) ∧ M' = M := fun {f} e => by
    unfold two at e
    split at e
    · rename_i a b _ _
      cases q : f a b with
      | none => rw [q] at e; cases e
      | some k => rw [q] at e; cases e; exact ⟨k, rfl, rfl⟩
    · cases e
  cases op with
  | Is =>
    simp only [cmpD] at h
    cases q : isP x y with
    | none => rw [q] at h; cases h
    | some k => rw [q] at h; cases h; exact ⟨k, rfl, rfl⟩
  | IsNot =>
    simp only [cmpD] at h
    cases q : isP x y with
    | none => rw [q] at h; cases h
    | some k => rw [q] at h; cases h; exact ⟨!k, rfl, rfl⟩
  | _ => exact two_b h
theorem tru_bool (k : Bool) (M : Mem) : tru (.p (.bool k)) M = .ok k M := rfl
theorem rel_bool {K : PySem.W.Frag} {G : Hp} {ρ : Rho} {k : Bool} {v : V} (r : RelD K G ρ (.p (.bool k)) v) : v = .bl k := by cases relP r; rfl
/-- a comparison as a test -/
theorem mt_cmp {op : CmpOp} {a b : Expr} {pos : Pos} {fa fb : Lo → Mem → R D} (hu : X.A.units + 150 < cLine) (hm : behindInMarks op b = false) (ha : PE X a (rdE X.K xc W fa)) (hb : PE X b (rdE X.K xc W fb)) :
    PT X (.Compare a [op] [b] pos) (rdT X.K xc W fun l M => ((fa l M).bind fun x M1 => (fb l M1).bind fun y M2 => ofO (cmpD op x y M2)).bind tru) := by
  refine PT.imp (pt_cmpR (op_cmpD hu op) ha hb hm) ?_
  rintro σ H Q ⟨ρ, l, M, S, h⟩
  have h' : post RelB X.K xc W ρ M σ H Q ((fa l M).bind fun x M1 => ((fb l M1).bind fun y M2 => ofO (cmpD op x y M2)).bind tru) := by
    rw [← R.bind_assoc]; exact h
  obtain ⟨ρ0, l0, M0, S0, h0⟩ := run1 (Rel := RelD X.K) S h'
  refine ⟨ρ0, l0, M0, S0, h0.imp ?_⟩
  rintro x H1 ⟨ρ1, M1, d, S1, r1, k1, h1⟩
  have h1' : post RelB X.K xc W ρ1 M1 σ H1 Q ((fb l M1).bind fun y M2 => (ofO (cmpD op d y M2)).bind tru) := by
    rw [← R.bind_assoc]; exact h1
  obtain ⟨ρ2, l2, M2, S2, h2⟩ := run1 (f := fb) (Rel := RelD X.K) S1 h1'
  refine ⟨ρ2, l2, M2, S2, h2.imp ?_⟩
  rintro y H2 ⟨ρ3, M3, e, S3, r3, k3, h3⟩
  refine ⟨ρ3, M3, d, e, S3.mem, r1.mono k3, r3, ?_⟩
  cases q : cmpD op d e M3 with
  | none => rw [q] at h3; exact h3.elim
  | some z =>
    obtain ⟨z1, z2⟩ := z
    obtain ⟨k, rfl, rfl⟩ := cmpD_bool q
    rw [q] at h3
    have h3 : post RelB X.K xc W ρ3 z2 σ H2 Q (.ok k z2) := h3
    exact fun v ρ' H' x' le rr => ⟨k, rel_bool rr, h3 k ρ' H' x' le rfl⟩
theorem mt_not {a : Expr} {pos : Pos} {ta : Lo → Mem → R Bool} (ha : PT X a (rdT X.K xc W ta)) : PT X (.UnaryOp .Not a pos) (rdT X.K xc W fun l M => (ta l M).bind fun k M1 => .ok (!k) M1) := by
  refine PT.imp (pt_not ha) ?_
  rintro σ H Q ⟨ρ, l, M, S, h⟩
  obtain ⟨ρ0, l0, M0, S0, h0⟩ := run1 (Rel := RelB) S h
  refine ⟨ρ0, l0, M0, S0, h0.imp ?_⟩
  rintro x H1 ⟨ρ1, M1, d, S1, r1, k1, h1⟩
  have r1 : d = x := r1
  subst r1
  exact h1 (!d) ρ1 H1 S1.mem (Le.refl _ _) rfl
theorem mw_and {a b : Expr} {rest : List Expr} {pos : Pos} {ta tb : Lo → Mem → R Bool} (ha : PT X a (rdT X.K xc W ta)) (hb : PW X (.BoolOp .And (b :: rest) pos) (rdT X.K xc W tb)) :
    PW X (.BoolOp .And (a :: b :: rest) pos) (rdT X.K xc W fun l M => (ta l M).bind fun k M1 => if k = true then tb l M1 else .ok false M1) := by
  refine PW.imp (pw_and ha hb) ?_
  rintro σ H Q ⟨ρ, l, M, S, h⟩
  obtain ⟨ρ0, l0, M0, S0, h0⟩ := run1 (Rel := RelB) S h
  refine ⟨ρ0, l0, M0, S0, h0.imp ?_⟩
  rintro x H1 ⟨ρ1, M1, d, S1, r1, k1, h1⟩
  have r1 : d = x := r1
  subst r1
  cases d with
  | true => exact ⟨ρ1, l, M1, S1, h1⟩
  | false => exact h1 false ρ1 H1 S1.mem (Le.refl _ _) rfl
theorem mw_or {a b : Expr} {rest : List Expr} {pos : Pos} {ta tb : Lo → Mem → R Bool} (ha : PT X a (rdT X.K xc W ta)) (hb : PW X (.BoolOp .Or (b :: rest) pos) (rdT X.K xc W tb)) :
    PW X (.BoolOp .Or (a :: b :: rest) pos) (rdT X.K xc W fun l M => (ta l M).bind fun k M1 => if k = true then .ok true M1 else tb l M1) := by
  refine PW.imp (pw_or ha hb) ?_
  rintro σ H Q ⟨ρ, l, M, S, h⟩
  obtain ⟨ρ0, l0, M0, S0, h0⟩ := run1 (Rel := RelB) S h
  refine ⟨ρ0, l0, M0, S0, h0.imp ?_⟩
  rintro x H1 ⟨ρ1, M1, d, S1, r1, k1, h1⟩
  have r1 : d = x := r1
  subst r1
  cases d with
  | true => exact h1 true ρ1 H1 S1.mem (Le.refl _ _) rfl
  | false => exact ⟨ρ1, l, M1, S1, h1⟩
theorem mt_ife {c a b : Expr} {pos : Pos} {tc ta tb : Lo → Mem → R Bool} (hc : PT X c (rdT X.K xc W tc)) (ha : PT X a (rdT X.K xc W ta)) (hb : PT X b (rdT X.K xc W tb)) :
    PT X (.IfExp c a b pos) (rdT X.K xc W fun l M => (tc l M).bind fun k M1 => if k = true then ta l M1 else tb l M1) := by
  refine ⟨fun pins s σ H Q I ⟨ρ, l, M, S, h⟩ => ?_⟩
  have e : isTrue (.IfExp c a b pos) X.env (eval (.IfExp c a b pos) X.env) = (do if ← isTrue c X.env (eval c X.env) then isTrue a X.env (eval a X.env) else isTrue b X.env (eval b X.env)) := rfl
  rw [e]
  refine wpAny_bind (thn (hc.run pins s σ H _ I (run1 (Rel := RelB) S h)) fun k s1 ⟨H1, I1, ρ1, M1, d, S1, r1, k1, h1⟩ => ?_)
  have r1 : d = k := r1
  subst r1
  cases d with
  | true => exact ha.run pins s1 σ H1 _ I1 ⟨ρ1, l, M1, S1, h1⟩
  | false => exact hb.run pins s1 σ H1 _ I1 ⟨ρ1, l, M1, S1, h1⟩
/-! ### values -/
theorem me_not {a : Expr} {pos : Pos} {fa : Lo → Mem → R D} (ha : PE X a (rdE X.K xc W fa)) : PE X (.UnaryOp .Not a pos) (rdE X.K xc W fun l M => (fa l M).bind fun x M1 => (tru x M1).bind fun k M2 => .ok (.p (.bool !k)) M2) := by
  refine PE.imp (pe_notT ha) ?_
  rintro σ H Q ⟨ρ, l, M, S, h⟩
  obtain ⟨ρ0, l0, M0, S0, h0⟩ := run1 (Rel := RelD X.K) S h
  refine ⟨ρ0, l0, M0, S0, h0.imp ?_⟩
  rintro x H1 ⟨ρ1, M1, d, S1, r1, k1, h1⟩
  have := run1 (Rel := RelB) (f := fun _ M => tru d M) S1 h1
  obtain ⟨ρ2, l2, M2, S2, h2⟩ := this
  have key : post RelB X.K xc W ρ1 M1 σ H1 (fun k H' => Q (.bl (!k)) H') (tru d M1) := by
    cases e : tru d M1 with
    | ok k m =>
      rw [e] at h1
      intro v ρ' H' x' le rr
      have rr : k = v := rr
      subst rr
      exact h1 (.bl (!k)) ρ' H' x' le (Pr (.bl _))
    | exc c m => rw [e] at h1; exact h1
    | stuck => rw [e] at h1; exact h1
  exact tru_ok S1.mem r1 key
theorem tru_inv {d : D} {M : Mem} : tru d M = .stuck ∨ ∃ k, tru d M = .ok k M := by
  unfold tru
  cases truD d M with
  | none => exact .inl rfl
  | some k => exact .inr ⟨k, rfl⟩
theorem me_and {a b : Expr} {rest : List Expr} {pos : Pos} {fa fb : Lo → Mem → R D} (ha : PE X a (rdE X.K xc W fa)) (hb : PE X (.BoolOp .And (b :: rest) pos) (rdE X.K xc W fb)) :
    PE X (.BoolOp .And (a :: b :: rest) pos) (rdE X.K xc W fun l M => (fa l M).bind fun x M1 => (tru x M1).bind fun k M2 => if k = true then fb l M2 else .ok x M2) := by
  refine PE.imp (pe_andT ha hb) ?_
  rintro σ H Q ⟨ρ, l, M, S, h⟩
  obtain ⟨ρ0, l0, M0, S0, h0⟩ := run1 (Rel := RelD X.K) S h
  refine ⟨ρ0, l0, M0, S0, h0.imp ?_⟩
  rintro x H1 ⟨ρ1, M1, d, S1, r1, k1, h1⟩
  rcases tru_inv (d := d) (M := M1) with e | ⟨k, e⟩
  · rw [e] at h1; exact h1.elim
  · rw [e] at h1
    have key : post RelB X.K xc W ρ1 M1 σ H1 (fun k H' => if k = true then rdE X.K xc W fb σ H' Q else Q x H') (tru d M1) := by
      rw [e]
      intro v ρ' H' x' le rr
      have rr : k = v := rr
      subst rr
      cases k with
      | true =>
        have h1 : post (RelD X.K) X.K xc W ρ1 M1 σ H1 Q (fb l M1) := h1
        exact ⟨ρ', l, M1, S1.le x' le, h1.le le⟩
      | false => exact h1 x ρ' H' x' le (r1.mono le)
    exact tru_ok S1.mem r1 key
theorem me_or {a b : Expr} {rest : List Expr} {pos : Pos} {fa fb : Lo → Mem → R D} (ha : PE X a (rdE X.K xc W fa)) (hb : PE X (.BoolOp .Or (b :: rest) pos) (rdE X.K xc W fb)) :
    PE X (.BoolOp .Or (a :: b :: rest) pos) (rdE X.K xc W fun l M => (fa l M).bind fun x M1 => (tru x M1).bind fun k M2 => if k = true then .ok x M2 else fb l M2) := by
  refine PE.imp (pe_orT ha hb) ?_
  rintro σ H Q ⟨ρ, l, M, S, h⟩
  obtain ⟨ρ0, l0, M0, S0, h0⟩ := run1 (Rel := RelD X.K) S h
  refine ⟨ρ0, l0, M0, S0, h0.imp ?_⟩
  rintro x H1 ⟨ρ1, M1, d, S1, r1, k1, h1⟩
  rcases tru_inv (d := d) (M := M1) with e | ⟨k, e⟩
  · rw [e] at h1; exact h1.elim
  · rw [e] at h1
    have key : post RelB X.K xc W ρ1 M1 σ H1 (fun k H' => if k = true then Q x H' else rdE X.K xc W fb σ H' Q) (tru d M1) := by
      rw [e]
      intro v ρ' H' x' le rr
      have rr : k = v := rr
      subst rr
      cases k with
      | true => exact h1 x ρ' H' x' le (r1.mono le)
      | false =>
        have h1 : post (RelD X.K) X.K xc W ρ1 M1 σ H1 Q (fb l M1) := h1
        exact ⟨ρ', l, M1, S1.le x' le, h1.le le⟩
    exact tru_ok S1.mem r1 key
theorem me_ife {c a b : Expr} {pos : Pos} {tc : Lo → Mem → R Bool} {fa fb : Lo → Mem → R D} (hc : PT X c (rdT X.K xc W tc)) (ha : PE X a (rdE X.K xc W fa)) (hb : PE X b (rdE X.K xc W fb)) :
    PE X (.IfExp c a b pos) (rdE X.K xc W fun l M => (tc l M).bind fun k M1 => if k = true then fa l M1 else fb l M1) := by
  refine PE.imp (pe_ifExp hc ha hb) ?_
  rintro σ H Q ⟨ρ, l, M, S, h⟩
  obtain ⟨ρ0, l0, M0, S0, h0⟩ := run1 (Rel := RelB) S h
  refine ⟨ρ0, l0, M0, S0, h0.imp ?_⟩
  rintro x H1 ⟨ρ1, M1, d, S1, r1, k1, h1⟩
  have r1 : d = x := r1
  subst r1
  cases d with
  | true => exact ⟨ρ1, l, M1, S1, h1⟩
  | false => exact ⟨ρ1, l, M1, S1, h1⟩
theorem me_chn {op op' : CmpOp} {a b c : Expr} {pos : Pos} {fa fb fc : Lo → Mem → R D} (hu : X.A.units + 150 < cLine) (ha : PE X a (rdE X.K xc W fa)) (hb : PE X b (rdE X.K xc W fb)) (hc : PE X c (rdE X.K xc W fc))
    (he : PE X (.Compare a [op, op'] [b, c] pos) (tChain (rop2 X.K (cmpD op)) (rop2 X.K (cmpD op')) (rdE X.K xc W fa) (rdE X.K xc W fb) (rdE X.K xc W fc))) :
    PE X (.Compare a [op, op'] [b, c] pos) (rdE X.K xc W fun l M => (fa l M).bind fun x M1 => (fb l M1).bind fun y M2 => (ofO (cmpD op x y M2)).bind fun z M3 => match z with
    | .p (.bool true) => (fc l M3).bind fun w M4 => ofO (cmpD op' y w M4)
    | .p (.bool false) => .ok (.p (.bool false)) M3
    | _ => .stuck) := by
  refine PE.imp he ?_
  rintro σ H Q ⟨ρ, l, M, S, h⟩
  obtain ⟨ρ0, l0, M0, S0, h0⟩ := run1 (Rel := RelD X.K) S h
  refine ⟨ρ0, l0, M0, S0, h0.imp ?_⟩
  rintro x H1 ⟨ρ1, M1, d, S1, r1, k1, h1⟩
  obtain ⟨ρ2, l2, M2, S2, h2⟩ := run1 (f := fb) (Rel := RelD X.K) S1 h1
  refine ⟨ρ2, l2, M2, S2, h2.imp ?_⟩
  rintro y H2 ⟨ρ3, M3, e, S3, r3, k3, h3⟩
  refine ⟨ρ3, M3, d, e, S3.mem, r1.mono k3, r3, ?_⟩
  cases q : cmpD op d e M3 with
  | none => rw [q] at h3; exact h3.elim
  | some z =>
    obtain ⟨z1, z2⟩ := z
    obtain ⟨k, rfl, rfl⟩ := cmpD_bool q
    rw [q] at h3
    intro v ρ' H' x' le rr
    refine ⟨k, rel_bool rr, ?_⟩
    cases k with
    | true =>
      have h3 : post (RelD X.K) X.K xc W ρ3 z2 σ H2 Q ((fc l z2).bind fun w M4 => ofO (cmpD op' e w M4)) := h3
      obtain ⟨ρ4, l4, M4, S4, h4⟩ := run1 (f := fc) (Rel := RelD X.K) (S3.le x' le) (h3.le le)
      refine ⟨ρ4, l4, M4, S4, h4.imp ?_⟩
      rintro w H4 ⟨ρ5, M5, g, S5, r5, k5, h5⟩
      exact ⟨ρ5, M5, e, g, S5.mem, (r3.mono le).mono k5, r5, postO_of h5⟩
    | false => exact h3 (.bl false) ρ' H' x' le (Pr (.bl _))
end
end Mini

/-! Mini, part h: displays, items, slices, built-in calls. -/
namespace Mini
open PySem PySem.Spec PyProof.Rows L2

section
variable {X : Cx} {xc : Nat → Addr} {W : WX}
theorem me_var {i : Nat} {x : Str} {pos : Pos} (hN : X.N[i]? = some x) (hv : Vis X.env.scope x) (hd : (x == ("__debug__" : Str)) = false) (hcd : (x == ("__classdict__" : Str)) = false) : PE X (.Name x pos) (rdE X.K xc W fun l M => getL l i M) := by
  refine PE.imp (pe_var hN hv hd hcd) ?_
  rintro σ H Q ⟨ρ, l, M, S, h⟩
  have h : post (RelD X.K) X.K xc W ρ M σ H Q (getL l i M) := h
  unfold getL at h
  cases e : l[i]? with
  | none => rw [e] at h; exact h.elim
  | some o =>
    cases o with
    | none => rw [e] at h; exact h.elim
    | some d =>
      rw [e] at h
      obtain ⟨v, h1, h2⟩ := S.loc i d e
      exact ⟨v, h1, h v ρ H S.mem (Le.refl _ _) h2⟩
theorem me_c {e : Expr} {v : V} {d : PyData} (he : PE X e (tC v)) (hd : ∀ K G, Dp K G v d) : PE X e (rdE X.K xc W fun _ M => .ok (.p d) M) := by
  refine PE.imp he ?_
  rintro σ H Q ⟨ρ, l, M, S, h⟩
  exact h v ρ H S.mem (Le.refl _ _) (Pr (hd _ _))
theorem ma_nil : PA X [] (rdA X.K xc W fun _ M => .ok [] M) := by
  refine PA.imp pa_nil ?_
  rintro σ H Q ⟨ρ, l, M, S, h⟩
  exact h [] ρ H S.mem (Le.refl _ _) RelDs.nil
theorem ma_cons {e : Expr} {es : List Expr} {fe : Lo → Mem → R D} {fs : Lo → Mem → R (List D)} (ha : PE X e (rdE X.K xc W fe)) (hr : PA X es (rdA X.K xc W fs)) (hs : starEach (e :: es) X.env = (false, eval e X.env) :: starEach es X.env) :
    PA X (e :: es) (rdA X.K xc W fun l M => (fe l M).bind fun x M1 => (fs l M1).bind fun xs M2 => .ok (x :: xs) M2) := by
  refine PA.imp (pa_cons ha hr hs) ?_
  rintro σ H Q ⟨ρ, l, M, S, h⟩
  obtain ⟨ρ0, l0, M0, S0, h0⟩ := run1 (Rel := RelD X.K) S h
  refine ⟨ρ0, l0, M0, S0, h0.imp ?_⟩
  rintro x H1 ⟨ρ1, M1, d, S1, r1, k1, h1⟩
  obtain ⟨ρ2, l2, M2, S2, h2⟩ := run1 (f := fs) (Rel := RelDs X.K) S1 h1
  refine ⟨ρ2, l2, M2, S2, h2.imp ?_⟩
  rintro xs H2 ⟨ρ3, M3, ds, S3, r3, k3, h3⟩
  exact h3 (x :: xs) ρ3 H2 S3.mem (Le.refl _ _) (RelDs.cons (r1.mono k3) r3)
theorem me_tup {es : List Expr} {k : Nat} {pos : Pos} {fs : Lo → Mem → R (List D)} (ha : PA X es (rdA X.K xc W fs)) : PE X (.Tuple es k pos) (rdE X.K xc W fun l M => (fs l M).bind fun ds M1 => if ds.length ≤ sizeLine then .ok (mkT ds) M1 else .stuck) := by
  refine PE.imp (pe_tup ha) ?_
  rintro σ H Q ⟨ρ, l, M, S, h⟩
  obtain ⟨ρ0, l0, M0, S0, h0⟩ := run1 (Rel := RelDs X.K) S h
  refine ⟨ρ0, l0, M0, S0, h0.imp ?_⟩
  rintro xs H1 ⟨ρ1, M1, ds, S1, r1, k1, h1⟩
  split at h1
  · rename_i hz
    rw [r1.length] at hz
    exact ⟨hz, fun p hp => mkT_ok S1.mem r1 (postO_of (xc := xc) (W := W) (r := some (mkT ds, M1)) h1) hp⟩
  · exact h1.elim
theorem me_lst {c : Bool} {es : List Expr} {pos : Pos} {fs : Lo → Mem → R (List D)} (ha : PA X es (rdA X.K xc W fs)) : PE X (.List es pos) (rdE X.K xc W fun l M => (fs l M).bind fun ds M1 => if ds.length ≤ sizeLine then ofO (al c ds M1) else .stuck) := by
  refine PE.imp (pe_lst ha) ?_
  rintro σ H Q ⟨ρ, l, M, S, h⟩
  obtain ⟨ρ0, l0, M0, S0, h0⟩ := run1 (Rel := RelDs X.K) S h
  refine ⟨ρ0, l0, M0, S0, h0.imp ?_⟩
  rintro xs H1 ⟨ρ1, M1, ds, S1, r1, k1, h1⟩
  split at h1
  · rename_i hz
    rw [r1.length] at hz
    exact ⟨hz, fun p hp => al_ok S1.mem r1 (postO_of h1) hp⟩
  · exact h1.elim
theorem un_negD : UnR X (unaryOp .USub) (rop1 X.K negD) := by
  intro pins s σ H x v Q I rx hq
  obtain ⟨ρ, M, d, m, r1, q⟩ := hq
  unfold negD at q
  split at q
  · cases relP r1
    exact un_neg pins s σ H _ v Q I rx ⟨_, rfl, q _ ρ H m (Le.refl _ _) (Pr (.int _))⟩
  · exact q.elim
/-! ### items -/
theorem atI_rel {K : PySem.W.Frag} {G : Hp} {ρ : Rho} {xs : List D} {vs : List V} {k : Int} {d : D} (r : RelDs K G ρ xs vs) (h : atI xs k = some d) : ∃ v, atI vs k = some v ∧ RelD K G ρ d v := by
  unfold atI at h ⊢
  rw [r.length] at h
  cases e : ixN vs.length k with
  | none => rw [e] at h; cases h
  | some j =>
    rw [e] at h
    exact r.get h
theorem ix_S : IxR X (rop2 X.K ixS) := by
  intro value slice pins s σ H x y v u Q I rx ry hq hs
  obtain ⟨ρ, M, d, e, m, r1, r2, q⟩ := hq
  unfold ixS at q
  split at q
  · rename_i k
    cases relP r2
    split at q
    · cases relP r1
      rename_i z
      split at q
      · rename_i hz
        cases e1 : atI z.cps.toList k with
        | none => rw [e1] at q; exact q.elim
        | some c =>
          rw [e1] at q
          exact ix_str value slice pins s σ H _ _ v u Q I rx ry ⟨_, _, c, rfl, rfl, hz, e1, q _ ρ H m (Le.refl _ _) (Pr (.str _))⟩ hs
      · exact q.elim
    · split at q
      · rename_i xs h1
        cases e1 : atI xs k with
        | none => rw [e1] at q; exact q.elim
        | some z =>
          rw [e1] at q
          obtain ⟨a, vs, rfl, sa, ra⟩ := seq_ok m r1 h1
          obtain ⟨w, e2, rw'⟩ := atI_rel ra e1
          exact ix_list value slice pins s σ H _ _ v u Q I rx ry ⟨_, _, _, w, rfl, rfl, sa, e2, q _ ρ H m (Le.refl _ _) rw'⟩ hs
      · split at q
        · rename_i xs h1
          cases e1 : atI xs k with
          | none => rw [e1] at q; exact q.elim
          | some z =>
            rw [e1] at q
            obtain ⟨a, vs, rfl, sa, ra⟩ := tup_ok r1 h1
            obtain ⟨w, e2, rw'⟩ := atI_rel ra e1
            exact ix_tup value slice pins s σ H _ _ v u Q I rx ry ⟨_, _, _, w, rfl, rfl, sa, e2, q _ ρ H m (Le.refl _ _) rw'⟩ hs
        · exact q.elim
  · exact q.elim
/-! ### dicts -/
theorem celD_inv {K : PySem.W.Frag} {ρ : Rho} {M : Mem} {H : Hp} {d : D} {x : V} {z : Nat × List (Key × D)} (m : MemOk K ρ M H) (r : RelD K (hd ρ M H) ρ d x) (h : celD d M = some z) :
    ∃ a vs, M[z.1]? = some (.dct z.2) ∧ ρ.c[z.1]? = some a ∧ x = .ref a ∧ H a = some (.dK ((z.2.map (·.1)).zip vs)) ∧ RelDs K (hd ρ M H) ρ (z.2.map (·.2)) vs := by
  unfold celD at h
  cases d with
  | p _ => cases h
  | tr _ => cases h
  | ref k =>
    simp only at h
    cases e : M[k]? with
    | none => rw [e] at h; cases h
    | some c =>
      rw [e] at h
      cases c with
      | dead => cases h
      | lst _ => cases h
      | dct kds =>
        cases h
        obtain ⟨a, vs, h1, h2, h3⟩ := m.atD e
        unfold RelD at r
        obtain ⟨a', h4, h5⟩ := r
        rw [h1] at h4
        cases h4
        exact ⟨a, vs, e, h1, h5, h2, h3⟩
theorem keyD_rel {K : PySem.W.Frag} {G : Hp} {ρ : Rho} {d : D} {v : V} {k : Key} (r : RelD K G ρ d v) (h : keyD d = some k) : v = kV k := by
  unfold keyD at h
  split at h
  · cases h; cases relP r; rfl
  · cases h; cases relP r; rfl
  · cases h
theorem getKD_rel {K : PySem.W.Frag} {G : Hp} {ρ : Rho} {k : Key} : ∀ {kds : List (Key × D)} {vs : List V} {d : D}, RelDs K G ρ (kds.map (·.2)) vs → getKD kds k = some d → ∃ v, valV ((kds.map (·.1)).zip vs) k = some v ∧ RelD K G ρ d v
  | [], vs, d, r, h => by cases h
  | (k0, d0) :: kds, vs, d, r, h => by
    rw [List.map_cons] at r
    obtain ⟨v, w, rfl, r1, r2⟩ := r.inv
    by_cases e : k0 = k
    · have : getKD ((k0, d0) :: kds) k = some d0 := by simp [getKD, e]
      rw [this] at h
      cases h
      exact ⟨v, valV_pos e, r1⟩
    · have : getKD ((k0, d0) :: kds) k = getKD kds k := by simp [getKD, List.find?_cons, e]
      rw [this] at h
      obtain ⟨u, h1, h2⟩ := getKD_rel r2 h
      exact ⟨u, (valV_neg (p := (k0, v)) e).trans h1, h2⟩
theorem putKD_rel {K : PySem.W.Frag} {G : Hp} {ρ : Rho} {k : Key} {d : D} {v : V} (rd : RelD K G ρ d v) {kds : List (Key × D)} {vs : List V} (r : RelDs K G ρ (kds.map (·.2)) vs) :
    ∃ ws, putK ((kds.map (·.1)).zip vs) k v = ((putKD kds k d).map (·.1)).zip ws ∧ RelDs K G ρ ((putKD kds k d).map (·.2)) ws := by
  have anyE : ∀ {kds : List (Key × D)} {vs : List V}, RelDs K G ρ (kds.map (·.2)) vs → (((kds.map (·.1)).zip vs).any fun z => decide (z.1 = k)) = kds.any fun z => decide (z.1 = k) := by
    intro kds
    induction kds with
    | nil => intro vs r; rfl
    | cons z kds ih =>
      intro vs r
      rw [List.map_cons] at r
      obtain ⟨v, w, rfl, r1, r2⟩ := r.inv
      rw [List.map_cons, List.zip_cons_cons, List.any_cons, List.any_cons, ih r2]
  unfold putK putKD
  rw [anyE r]
  by_cases h : (kds.any fun z => decide (z.1 = k)) = true
  · rw [if_pos h, if_pos h]
    clear h
    induction kds generalizing vs with
    | nil => exact ⟨[], by simp, by simp; exact RelDs.nil⟩
    | cons z kds ih =>
      rw [List.map_cons] at r
      obtain ⟨u, w, rfl, r1, r2⟩ := r.inv
      obtain ⟨ws, e, q⟩ := ih r2
      by_cases hz : z.1 = k
      · refine ⟨v :: ws, ?_, ?_⟩
        · simp only [List.map_cons, List.zip_cons_cons, hz, if_true, List.cons.injEq, true_and]
          exact e
        · rw [List.map_cons, List.map_cons, if_pos hz]
          exact RelDs.cons rd q
      · refine ⟨u :: ws, ?_, ?_⟩
        · simp only [List.map_cons, List.zip_cons_cons, if_neg hz, List.cons.injEq, true_and]
          exact e
        · rw [List.map_cons, List.map_cons, if_neg hz]
          exact RelDs.cons r1 q
  · rw [if_neg h, if_neg h]
    have hl := r.length
    rw [List.length_map] at hl
    refine ⟨vs ++ [v], ?_, ?_⟩
    · rw [List.map_append, List.zip_append (by rw [List.length_map]; exact hl)]
      rfl
    · rw [List.map_append]
      exact r.append (RelDs.cons rd RelDs.nil)
theorem ix_D (hu : X.A.units + 150 < cLine) : IxR X (rop2 X.K ixD) := by
  intro value slice pins s σ H x y v u Q I rx ry hq hs
  obtain ⟨ρ, M, d, e, m, r1, r2, q⟩ := hq
  unfold ixD at q
  cases hc : celD d M with
  | none => rw [hc] at q; exact ix_S value slice pins s σ H x y v u Q I rx ry ⟨ρ, M, d, e, m, r1, r2, q⟩ hs
  | some z =>
    rw [hc] at q
    simp only at q
    obtain ⟨a, vs, _, _, rfl, hH, rr⟩ := celD_inv m r1 hc
    cases hk : keyD e with
    | none => rw [hk] at q; exact q.elim
    | some k =>
      rw [hk] at q
      cases hg : getKD z.2 k with
      | none => simp only [Option.bind_some, hg] at q; exact q.elim
      | some g =>
        simp only [Option.bind_some, hg] at q
        have ey := keyD_rel r2 hk
        subst ey
        obtain ⟨w, h1, h2⟩ := getKD_rel rr hg
        cases rx
        have g' : DGet H a (kV k) (some w) := .inl ⟨_, k, .inl hH, rfl, h1.symm⟩
        have get : wpAny (model X.prog X.w) X.A (getItem (.ref a) u) (EP X pins σ Q) X.xe s := d_getItem (by omega) I g' ry fun w' s' I' rw' => ⟨w, H, I', rw', q w ρ H m (Le.refl _ _) h2⟩
        unfold subscriptTail
        refine wpAny_bind ?_
        rw [getitemInPython_of_ne (dict_typeIs I g').not_modules]
        refine wpAny_bind (wpAny_specialOf (dict_typeIs I g') PySem.F.slot_dict_getitem.lookup ?_)
        have fin : wpAny (model X.prog X.w) X.A (subscripted slice false (.ref a) u) (fun r s₃ => wpAny (model X.prog X.w) X.A (letTemporaryGo value (.ref a) r >>= fun _ => pure r) (EP X pins σ Q) X.xe s₃) X.xe s := by
          rw [hs]
          exact wpAny_operating (wpAny_mono get (fun r s₃ h₃ => wpAny_bind (wpAny_letTemporaryGo (wpAny_pure h₃))) fun _ _ x => x)
        first
          | exact wpAny_pure (wpAny_bind fin)
          | exact wpAny_bind (wpAny_pure (wpAny_bind fin))
          | exact wpAny_bind fin
theorem me_ix {a b : Expr} {pos : Pos} {fa fb : Lo → Mem → R D} (hu : X.A.units + 150 < cLine) (hs : PlainIx b) (ha : PE X a (rdE X.K xc W fa)) (hb : PE X b (rdE X.K xc W fb)) :
    PE X (.Subscript a b pos) (rdE X.K xc W fun l M => (fa l M).bind fun x M1 => (fb l M1).bind fun y M2 => ofO (ixD x y M2)) := by
  refine PE.imp (pe_ix (ix_D hu) ha hb hs) ?_
  rintro σ H Q ⟨ρ, l, M, S, h⟩
  obtain ⟨ρ0, l0, M0, S0, h0⟩ := run1 (Rel := RelD X.K) S h
  refine ⟨ρ0, l0, M0, S0, h0.imp ?_⟩
  rintro x H1 ⟨ρ1, M1, d, S1, r1, k1, h1⟩
  obtain ⟨ρ2, l2, M2, S2, h2⟩ := run1 (f := fb) (Rel := RelD X.K) S1 h1
  refine ⟨ρ2, l2, M2, S2, h2.imp ?_⟩
  rintro y H2 ⟨ρ3, M3, e, S3, r3, k3, h3⟩
  exact ⟨ρ3, M3, d, e, S3.mem, r1.mono k3, r3, postO_of h3⟩
/-! ### slices -/
abbrev RelI : Hp → Rho → Option Int → Option Int → Prop := fun _ _ a b => a = b
theorem PO.imp {e : Option Expr} {t t' : TO} (h : PO X e t) (k : ∀ σ H Q, t' σ H Q → t σ H Q) : PO X e t' := ⟨fun pins s σ H Q I q => h.run pins s σ H Q I (k _ _ _ q)⟩
theorem mo_opt {b : Bool} {e : Expr} {fe : Lo → Mem → R D} (he : b = false → PE X e (rdE X.K xc W fe)) : PO X (opt b e) (rd RelI X.K xc W fun l M => optI b (fe l M) M) := by
  cases b with
  | true =>
    refine PO.imp po_none ?_
    rintro σ H Q ⟨ρ, l, M, S, h⟩
    exact h none ρ H S.mem (Le.refl _ _) rfl
  | false =>
    refine PO.imp (po_some (he rfl)) ?_
    rintro σ H Q ⟨ρ, l, M, S, h⟩
    have h : post RelI X.K xc W ρ M σ H Q ((fe l M).bind fun d M1 => match asInt d with
      | some o => .ok o M1
      | none => .stuck) := h
    obtain ⟨ρ0, l0, M0, S0, h0⟩ := run1 (Rel := RelD X.K) S h
    refine ⟨ρ0, l0, M0, S0, h0.imp ?_⟩
    rintro x H1 ⟨ρ1, M1, d, S1, r1, k1, h1⟩
    unfold asInt at h1
    split at h1
    · rename_i o e
      split at e
      · cases e
        cases relP r1
        exact ⟨_, rfl, h1 _ ρ1 H1 S1.mem (Le.refl _ _) rfl⟩
      · cases e
    · exact h1.elim
def rSlD (K : PySem.W.Frag) (g : D → Option Int → Option Int → Mem → Option (D × Mem)) : V → Option Int → Option Int → Hp → VK → Prop := fun x lo hi H Q => ∃ ρ M d, MemOk K ρ M H ∧ RelD K (hd ρ M H) ρ d x ∧ postO K ρ M H Q (g d lo hi M)
theorem cut_rel {K : PySem.W.Frag} {G : Hp} {ρ : Rho} {xs : List D} {vs : List V} (r : RelDs K G ρ xs vs) (lo hi : Option Int) : RelDs K G ρ (cutL xs lo hi) (cutV vs lo hi) := by
  unfold cutL cutV
  rw [r.length]
  exact (r.drop _).take _
theorem sl_D {c : Bool} : SlR X (rSlD X.K (slD c)) := by
  intro pins s σ H x v vl vu lo hi sl Q I rx hs pl pu hq
  obtain ⟨ρ, M, d, m, r1, q⟩ := hq
  unfold slD at q
  split at q
  · cases relP r1
    split at q
    · rename_i hz
      exact sl_str pins s σ H _ v vl vu lo hi sl Q I rx hs pl pu ⟨_, rfl, hz, q _ ρ H m (Le.refl _ _) (Pr (.str _))⟩
    · exact q.elim
  · split at q
    · rename_i xs h1
      obtain ⟨a, vs, rfl, sa, ra⟩ := seq_ok m r1 h1
      exact sl_list pins s σ H _ v vl vu lo hi sl Q I rx hs pl pu ⟨_, _, rfl, sa, fun p hp => al_ok m (cut_rel ra lo hi) q hp⟩
    · exact q.elim
theorem me_sl {c : Bool} {e : Expr} {lo hi : Option Expr} {p2 pos : Pos} {fe : Lo → Mem → R D} {fl fh : Lo → Mem → R (Option Int)} (he : PE X e (rdE X.K xc W fe)) (hl : PO X lo (rd RelI X.K xc W fl)) (hu : PO X hi (rd RelI X.K xc W fh)) :
    PE X (.Subscript e (.Slice lo hi none p2) pos) (rdE X.K xc W fun l M => (fe l M).bind fun x M1 => (fl l M1).bind fun i M2 => (fh l M2).bind fun j M3 => ofO (slD c x i j M3)) := by
  refine PE.imp (pe_slice (sl_D (c := c)) he hl hu) ?_
  rintro σ H Q ⟨ρ, l, M, S, h⟩
  obtain ⟨ρ0, l0, M0, S0, h0⟩ := run1 (Rel := RelD X.K) S h
  refine ⟨ρ0, l0, M0, S0, h0.imp ?_⟩
  rintro x H1 ⟨ρ1, M1, d, S1, r1, k1, h1⟩
  obtain ⟨ρ2, l2, M2, S2, h2⟩ := run1 (f := fl) (Rel := RelI) S1 h1
  refine ⟨ρ2, l2, M2, S2, h2.imp ?_⟩
  rintro y H2 ⟨ρ3, M3, e, S3, r3, k3, h3⟩
  have r3 : e = y := r3
  subst r3
  obtain ⟨ρ4, l4, M4, S4, h4⟩ := run1 (f := fh) (Rel := RelI) S3 h3
  refine ⟨ρ4, l4, M4, S4, h4.imp ?_⟩
  rintro z H4 ⟨ρ5, M5, g, S5, r5, k5, h5⟩
  have r5 : g = z := r5
  subst r5
  exact ⟨ρ5, M5, d, S5.mem, (r1.mono k3).mono k5, postO_of h5⟩
/-! ### built-in calls -/
theorem ints_rel {K : PySem.W.Frag} {G : Hp} {ρ : Rho} : ∀ {xs : List D} {vs : List V} {is : List Int}, RelDs K G ρ xs vs → intsOf xs = some is → vs = is.map V.int
  | [], vs, is, r, h => by unfold RelDs at r; simp only [intsOf, Option.some.injEq] at h; subst h; exact r
  | d :: ds, vs, is, r, h => by
    obtain ⟨v, w, e, r1, r2⟩ := r.inv
    cases d with
    | p x =>
      cases x with
      | int i =>
        simp only [intsOf] at h
        cases q : intsOf ds with
        | none => rw [q] at h; cases h
        | some js =>
          rw [q] at h
          simp only [Option.map_some, Option.some.injEq] at h
          subst h; cases relP r1
          rw [e, ints_rel r2 q]
          rfl
      | _ => cases h
    | _ => cases h
theorem bools_rel {K : PySem.W.Frag} {G : Hp} {ρ : Rho} : ∀ {xs : List D} {vs : List V} {is : List Bool}, RelDs K G ρ xs vs → boolsOf xs = some is → vs = is.map V.bl
  | [], vs, is, r, h => by unfold RelDs at r; simp only [boolsOf, Option.some.injEq] at h; subst h; exact r
  | d :: ds, vs, is, r, h => by
    obtain ⟨v, w, e, r1, r2⟩ := r.inv
    cases d with
    | p x =>
      cases x with
      | bool i =>
        simp only [boolsOf] at h
        cases q : boolsOf ds with
        | none => rw [q] at h; cases h
        | some js =>
          rw [q] at h
          simp only [Option.map_some, Option.some.injEq] at h
          subst h; cases relP r1
          rw [e, bools_rel r2 q]
          rfl
      | _ => cases h
    | _ => cases h
theorem one_rel {K : PySem.W.Frag} {G : Hp} {ρ : Rho} {d : D} {vs : List V} (r : RelDs K G ρ [d] vs) : ∃ v, vs = [v] ∧ RelD K G ρ d v := by
  obtain ⟨v, w, e, r1, r2⟩ := r.inv
  unfold RelDs at r2
  subst r2
  exact ⟨v, e, r1⟩
theorem two_rel {K : PySem.W.Frag} {G : Hp} {ρ : Rho} {d e : D} {vs : List V} (r : RelDs K G ρ [d, e] vs) : ∃ v w, vs = [v, w] ∧ RelD K G ρ d v ∧ RelD K G ρ e w := by
  obtain ⟨v, w, q, r1, r2⟩ := r.inv
  obtain ⟨u, rfl, r3⟩ := one_rel r2
  exact ⟨v, u, q, r1, r3⟩
end
end Mini

/-! Mini, part i: built-in calls, isinstance. -/
namespace Mini
open PySem PySem.Spec PyProof.Rows L2

section
variable {X : Cx} {xc : Nat → Addr} {W : WX}
def Tk.n : Tk → String
  | .none => "NoneType" | .bool => "bool" | .int => "int" | .str => "str" | .list => "list" | .tuple => "tuple"
def Ty.n : Ty → String
  | .int => "int" | .bool => "bool" | .str => "str" | .list => "list" | .tuple => "tuple"
theorem kit_rel {pins : List (Addr × Obj)} {σ : L2.St} {H : Hp} {s : Shared} {ρ : Rho} {M : Mem} {d : D} {x : V} {v : Value} {k : Tk} (I : Inv X pins σ H s) (m : MemOk X.K ρ M H) (r : RelD X.K (hd ρ M H) ρ d x) (rv : RelV x v) (h : tyD d M = some k) :
    ∃ P : Heap → Prop, PySem.W.KitX X.K v (.type k.n) P ∧ P s.heap ∧ v ≠ .builtin "__main__.__loader__#opaque" := by
  unfold tyD at h
  split at h
  · cases h; cases relP r; cases rv; exact ⟨_, PySem.W.kitx_none, True.intro, fun z => nomatch z⟩
  · cases h; cases relP r; cases rv; exact ⟨_, PySem.W.kitx_bool, True.intro, fun z => nomatch z⟩
  · cases h; cases relP r; obtain ⟨t, rfl⟩ := rv; exact ⟨_, PySem.W.kitx_int, True.intro, fun z => nomatch z⟩
  · cases h; cases relP r; obtain ⟨t, rfl⟩ := rv; exact ⟨_, PySem.W.kitx_str, True.intro, fun z => nomatch z⟩
  · cases h
    obtain ⟨a, vs, rfl, sa, _⟩ := seq_ok m r rfl
    cases rv
    obtain ⟨its, _, ⟨o, n, h1, h2, _⟩, _⟩ := I.list sa
    exact ⟨_, PySem.W.kitx_list, ⟨o, h1, h2⟩, fun z => nomatch z⟩
  · cases h
    obtain ⟨a, vs, rfl, sa, _⟩ := tup_ok r rfl
    cases rv
    obtain ⟨its, _, ⟨o, h1, h2, _⟩, _⟩ := I.tuple sa
    exact ⟨_, PySem.W.kitx_tuple, ⟨o, h1, h2⟩, fun z => nomatch z⟩
  · cases h
  · cases h
    obtain ⟨a, vs, rfl, sa, _⟩ := tup_ok r rfl
    cases rv
    obtain ⟨its, _, ⟨o, h1, h2, _⟩, _⟩ := I.tuple sa
    exact ⟨_, PySem.W.kitx_tuple, ⟨o, h1, h2⟩, fun z => nomatch z⟩
  · split at h
    · rename_i ys e
      cases h
      obtain ⟨a, vs, rfl, sa, _⟩ := seq_ok (xs := ys) m r (by simp only [seqD, e])
      cases rv
      obtain ⟨its, _, ⟨o, n, h1, h2, _⟩, _⟩ := I.list sa
      exact ⟨_, PySem.W.kitx_list, ⟨o, h1, h2⟩, fun z => nomatch z⟩
    · cases h
theorem isT_ok {K : PySem.W.Frag} (k : Tk) (t : Ty) : PySem.W.kitOne K (.type k.n) (.type t.n) = some (isT k t) := by
  cases k <;> cases t <;> exact kit_ty (by decide +kernel)
theorem isTs_ok {K : PySem.W.Frag} (k : Tk) : ∀ ts : List Ty, PySem.W.kitAny K (.type k.n) (ts.map fun t => .type t.n) = some (ts.any (isT k))
  | [] => rfl
  | t :: ts => by
    rw [List.map_cons, List.any_cons]
    refine kitAny_cons (isT_ok k t) (fun e => ?_) (fun e => ?_)
    · rw [isTs_ok k ts, e, Bool.false_or]
    · rw [e, Bool.true_or]
theorem ty_boot (t : Ty) : bootBuiltins t.name = some (.type t.n) := by cases t <;> decide +kernel
theorem me_ty {t : Ty} {pos : Pos} (hg : Gl X t.name) (hm : X.mg t.name = none) : PE X (.Name t.name pos) (tC (.ty t.n)) :=
  pe_bltn hg hm (ty_boot t) (rfl : Value.type t.n = Value.type t.n) (by cases t <;> decide +kernel) (by cases t <;> decide +kernel)
theorem me_isi {a : Expr} {t : Ty} {pt pn pos : Pos} {fa : Lo → Mem → R D} (hgi : Gl X "isinstance") (hmi : X.mg "isinstance" = none) (hg : Gl X t.name) (hm : X.mg t.name = none) (ha : PE X a (rdE X.K xc W fa)) (hs : starEach [a, .Name t.name pt] X.env = (false, eval a X.env) :: starEach [.Name t.name pt] X.env) :
    PE X (.Call (.Name "isinstance" pn) [a, .Name t.name pt] [] pos) (rdE X.K xc W fun l M => (fa l M).bind fun x M1 => match isaP t x M1 with
    | some k => .ok (.p (.bool k)) M1
    | none => .stuck) := by
  have cr : CallR X (.builtin "isinstance") (fun xs H Q => ∃ ρ M d v k, xs = [v, .ty t.n] ∧ MemOk X.K ρ M H ∧ RelD X.K (hd ρ M H) ρ d v ∧ isaP t d M = some k ∧ Q (.bl k) H) := by
    intro pins s σ H xs us Q I rs hq
    obtain ⟨ρ, M, d, v, k, rfl, m, r, hk, q⟩ := hq
    obtain ⟨u1, u2, rfl, r1, r2⟩ := vals2 rs
    cases (show u2 = Value.type t.n from r2)
    unfold isaP at hk
    cases e : tyD d M with
    | none => rw [e] at hk; cases hk
    | some tk =>
      rw [e] at hk
      cases hk
      obtain ⟨P, Z, p, hx⟩ := kit_rel I m r r1 e
      exact PySem.W.kia_one Z I.kIn p (isT_ok tk t) hx fun tk' => ⟨.bl _, H, I.tok tk', rfl, q⟩
  refine PE.imp (pe_callB cr hgi hmi (by decide +kernel) (pa_cons ha (pa_cons (me_ty hg hm) pa_nil) hs) (by decide) (by decide) hs rfl) ?_
  rintro σ H Q ⟨ρ, l, M, S, h⟩
  obtain ⟨ρ0, l0, M0, S0, h0⟩ := run1 (Rel := RelD X.K) S h
  refine ⟨ρ0, l0, M0, S0, h0.imp ?_⟩
  rintro x H1 ⟨ρ1, M1, d, S1, r1, k1, h1⟩
  cases e : isaP t d M1 with
  | none => rw [e] at h1; exact h1.elim
  | some k =>
    rw [e] at h1
    exact ⟨ρ1, M1, d, x, k, rfl, S1.mem, r1, e, h1 _ ρ1 H1 S1.mem (Le.refl _ _) (Pr (.bl _))⟩
/-- the names of a tuple of classes -/
theorem pa_tys : ∀ {ts : List (Ty × Nat)}, (∀ z ∈ ts, Gl X z.1.name ∧ X.mg z.1.name = none) → PA X (ts.map fun z => .Name z.1.name (pos z.2)) (fun _ H Q => Q (ts.map fun z => V.ty z.1.n) H)
  | [], _ => pa_nil
  | z :: ts, h => by
    have h1 := h z List.mem_cons_self
    refine PA.imp (pa_cons (me_ty h1.1 h1.2) (pa_tys fun y hy => h y (List.mem_cons_of_mem _ hy)) rfl) fun σ H Q q => q
theorem me_isiT {a : Expr} {ts : List (Ty × Nat)} {k : Nat} {pt pn po : Pos} {fa : Lo → Mem → R D} (hgi : Gl X "isinstance") (hmi : X.mg "isinstance" = none) (hg : ∀ z ∈ ts, Gl X z.1.name ∧ X.mg z.1.name = none) (hl : ts.length ≤ sizeLine) (ha : PE X a (rdE X.K xc W fa))
    (hs : ∀ es, starEach [a, .Tuple es k pt] X.env = (false, eval a X.env) :: starEach [.Tuple es k pt] X.env) :
    PE X (.Call (.Name "isinstance" pn) [a, .Tuple (ts.map fun z => .Name z.1.name (pos z.2)) k pt] [] po) (rdE X.K xc W fun l M => (fa l M).bind fun x M1 => match isaPs (ts.map (·.1)) x M1 with
    | some k => .ok (.p (.bool k)) M1
    | none => .stuck) := by
  have cr : CallR X (.builtin "isinstance") (fun xs H Q => ∃ ρ M d v k tp H0, xs = [v, .ref tp] ∧ MemOk X.K ρ M H0 ∧ RelD X.K (hd ρ M H0) ρ d v ∧ H0 tp = none ∧ H = upd H0 tp (.tup (ts.map fun z => V.ty z.1.n)) ∧ isaPs (ts.map (·.1)) d M = some k ∧ Q (.bl k) H) := by
    intro pins s σ H xs us Q I rs hq
    obtain ⟨ρ, M, d, v, k, tp, H0, rfl, m, r, hn, rfl, hk, q⟩ := hq
    obtain ⟨u1, u2, rfl, r1, r2⟩ := vals2 rs
    cases (show u2 = Value.ref tp from r2)
    obtain ⟨m', le, _⟩ := m.frozen (o := .tup (ts.map fun z => V.ty z.1.n)) hn
    unfold isaPs at hk
    cases e : tyD d M with
    | none => rw [e] at hk; cases hk
    | some tk =>
      rw [e] at hk
      cases hk
      obtain ⟨P, Z, p, hx⟩ := kit_rel I m' (r.mono le) r1 e
      obtain ⟨_, its, rv, ⟨cls, dd, data, sl⟩, h1, h2, n, h3⟩ := (show ObjOk X.prog X.w _ s.heap tp (.tup (ts.map fun z => V.ty z.1.n)) from I.hok tp _ upd_same)
      simp only at h2 h3
      subst h2 h3
      have ei : its = ts.map fun z => Value.type z.1.n := by
        have : ∀ (ts : List (Ty × Nat)) (its : List Value), Vals (ts.map fun z => V.ty z.1.n) its → its = ts.map fun z => Value.type z.1.n := by
          intro ts
          induction ts with
          | nil => intro its rv; cases rv; rfl
          | cons z ts ih =>
            intro its rv
            cases rv with
            | cons a b =>
              rw [ih _ b]
              cases (show _ = Value.type z.1.n from a)
              rfl
        exact this ts its rv
      subst ei
      refine PySem.W.kia_tup (its := ts.map fun z => Value.type z.1.n) Z I.kIn p h1 ?_ hx fun tk' => ⟨.bl _, _, I.tok tk', rfl, q⟩
      have := isTs_ok (K := X.K) tk (ts.map (·.1))
      rw [List.map_map] at this
      exact this
  refine PE.imp (pe_callB cr hgi hmi (by decide +kernel) (pa_cons ha (pa_cons (pe_tup (pa_tys hg)) pa_nil) (hs _)) (by decide) (by decide) (hs _) rfl) ?_
  rintro σ H Q ⟨ρ, l, M, S, h⟩
  obtain ⟨ρ0, l0, M0, S0, h0⟩ := run1 (Rel := RelD X.K) S h
  refine ⟨ρ0, l0, M0, S0, h0.imp ?_⟩
  rintro x H1 ⟨ρ1, M1, d, S1, r1, k1, h1⟩
  cases e : isaPs (ts.map (·.1)) d M1 with
  | none => rw [e] at h1; exact h1.elim
  | some k =>
    rw [e] at h1
    refine ⟨by rw [List.length_map]; exact hl, fun p hp => ?_⟩
    obtain ⟨m', le, _⟩ := S1.mem.frozen (o := .tup (ts.map fun z => V.ty z.1.n)) hp
    exact ⟨ρ1, M1, d, x, k, p, H1, rfl, S1.mem, r1, hp, rfl, e, h1 _ ρ1 _ m' le (Pr (.bl _))⟩
end
end Mini

/-! Mini, part j: more built-in calls; methods. -/
namespace Mini
open PySem PySem.Spec PyProof.Rows L2

section
variable {X : Cx} {xc : Nat → Addr} {W : WX} {c : Bool}
theorem one1_ok {f : Value} {g : D → Mem → Option (D × Mem)}
    (h : ∀ (pins : List (Addr × Obj)) (s : Shared) (σ : L2.St) (H : Hp) (x : V) (us : List Value) (Q : VK) (ρ : Rho) (M : Mem) (d : D), Inv X pins σ H s → Vals [x] us → MemOk X.K ρ M H → RelD X.K (hd ρ M H) ρ d x → postO X.K ρ M H Q (g d M) → wpAny (model X.prog X.w) X.A (call f us) (EP X pins σ Q) X.xe s) :
    CallR X f (ropN X.K (one1 g)) := by
  intro pins s σ H xs us Q I rs hq
  obtain ⟨ρ, M, ds, m, r, q⟩ := hq
  cases ds with
  | nil => exact q.elim
  | cons d ds =>
    cases ds with
    | cons _ _ => exact q.elim
    | nil =>
      obtain ⟨v, rfl, r1⟩ := one_rel r
      exact h pins s σ H v us Q ρ M d I rs m r1 q
theorem len_D : CallR X (.builtin "len") (ropN X.K (one1 bLen)) := one1_ok fun pins s σ H v us Q ρ M d I rs m r1 q => by
  unfold bLen lenD at q
  cases hc : celD d M with
  | some z =>
    rw [hc] at q
    obtain ⟨a, vs, _, _, rfl, hH, rr⟩ := celD_inv m r1 hc
    obtain ⟨u, rfl, rv⟩ := vals1 rs
    cases rv
    refine d_len I (.inl hH) fun t s' I' => ⟨.int z.2.length, H, I', ⟨t, ?_⟩, q (.int z.2.length) ρ H m (Le.refl _ _) (Pr (.int _))⟩
    have hl := rr.length
    rw [List.length_map] at hl
    rw [List.length_zip, List.length_map, ← hl, Nat.min_self]
  | none =>
  rw [hc] at q
  simp only at q
  cases e : lenS d M with
  | none => rw [e] at q; exact q.elim
  | some n =>
    rw [e] at q
    refine call_len pins s σ H _ us Q I rs ⟨v, n, rfl, ?_, q (.int n) ρ H m (Le.refl _ _) (Pr (.int _))⟩
    unfold lenS at e
    split at e
    · cases relP r1
      split at e
      · cases e; exact ⟨by assumption, rfl⟩
      · cases e
    · split at e
      · rename_i h1
        cases e
        obtain ⟨a, vs, rfl, sa, ra⟩ := seq_ok m r1 h1
        exact .inl ⟨vs, sa, ra.length⟩
      · split at e
        · rename_i h1
          cases e
          obtain ⟨a, vs, rfl, sa, ra⟩ := tup_ok r1 h1
          exact .inr ⟨vs, sa, ra.length⟩
        · cases e
theorem max_D (hc : X.calm = true) : CallR X (.builtin "max") (ropN X.K bMax) := by
  intro pins s σ H xs us Q I rs hq
  obtain ⟨ρ, M, ds, m, r, q⟩ := hq
  unfold bMax at q
  split at q
  · obtain ⟨v, w, rfl, r1, r2⟩ := two_rel r
    cases relP r1; cases relP r2
    exact call_max2 hc pins s σ H _ us Q I rs ⟨_, _, rfl, q _ ρ H m (Le.refl _ _) (Pr (.int _))⟩
  · exact q.elim
theorem min_D (hc : X.calm = true) : CallR X (.builtin "min") (ropN X.K bMin) := by
  intro pins s σ H xs us Q I rs hq
  obtain ⟨ρ, M, ds, m, r, q⟩ := hq
  unfold bMin at q
  split at q
  · obtain ⟨v, w, rfl, r1, r2⟩ := two_rel r
    cases relP r1; cases relP r2
    exact call_min2 hc pins s σ H _ us Q I rs ⟨_, _, rfl, q _ ρ H m (Le.refl _ _) (Pr (.int _))⟩
  · exact q.elim
theorem int_D : CallR X (.type "int") (ropN X.K (one1 bInt)) := one1_ok fun pins s σ H v us Q ρ M d I rs m r1 q => by
  unfold bInt at q
  split at q
  · cases relP r1
    exact call_int1 pins s σ H _ us Q I rs (.inl ⟨_, rfl, q _ ρ H m (Le.refl _ _) (Pr (.int _))⟩)
  · cases relP r1
    exact call_int1 pins s σ H _ us Q I rs (.inr ⟨_, rfl, q _ ρ H m (Le.refl _ _) (Pr (.int _))⟩)
  · cases relP r1
    split at q
    · rename_i h1
      split at q
      · rename_i h2
        exact call_int_str pins s σ H _ us Q I rs ⟨_, _, rfl, h1, h2, q _ ρ H m (Le.refl _ _) (Pr (.int _))⟩
      · exact q.elim
    · exact q.elim
  · exact q.elim
theorem bool_D : CallR X (.type "bool") (ropN X.K (one1 bBool)) := one1_ok fun pins s σ H v us Q ρ M d I rs m r1 q => by
  unfold bBool at q
  split at q
  · cases relP r1
    exact call_bool1 pins s σ H _ us Q I rs (.inr ⟨_, rfl, q _ ρ H m (Le.refl _ _) (Pr (.bl _))⟩)
  · exact q.elim
theorem str_D : CallR X (.type "str") (ropN X.K (one1 bStr)) := one1_ok fun pins s σ H v us Q ρ M d I rs m r1 q => by
  unfold bStr at q
  split at q
  · cases relP r1
    split at q
    · rename_i h1
      exact call_str_int pins s σ H _ us Q I rs ⟨_, rfl, h1, q _ ρ H m (Le.refl _ _) (Pr (.str _))⟩
    · exact q.elim
  · exact q.elim
theorem abs_D : CallR X (.builtin "abs") (ropN X.K (one1 bAbs)) := one1_ok fun pins s σ H v us Q ρ M d I rs m r1 q => by
  unfold bAbs at q
  split at q
  · cases relP r1
    exact call_abs pins s σ H _ us Q I rs ⟨_, rfl, q _ ρ H m (Le.refl _ _) (Pr (.int _))⟩
  · exact q.elim
theorem signs_rel {K : PySem.W.Frag} {G : Hp} {ρ : Rho} (z : Str) : RelDs K G ρ (signsD z) (z.cps.toList.map fun c => V.str ⟨#[c]⟩) := by
  unfold signsD
  generalize z.cps.toList = l
  induction l with
  | nil => exact RelDs.nil
  | cons c l ih => rw [List.map_cons, List.map_cons]; exact RelDs.cons (Pr (.str _)) ih
theorem vals_signs {z : Str} {acc : Array Value} (h : ItemsOf (SignAt z) acc z.cps.size) : Vals (z.cps.toList.map fun c => V.str ⟨#[c]⟩) acc.toList := by
  obtain ⟨hn, hi⟩ := h
  have key : ∀ (l : List Nat) (vs : List Value), vs.length = l.length → (∀ (i : Nat) (c : Nat) (v : Value), l[i]? = some c → vs[i]? = some v → ∃ u, v = Value.str ⟨#[c]⟩ u) → Vals (l.map fun c => V.str ⟨#[c]⟩) vs := by
    intro l
    induction l with
    | nil => intro vs hv _; cases vs with
      | nil => exact .nil
      | cons _ _ => cases hv
    | cons c l ih => intro vs hv hc; cases vs with
      | nil => cases hv
      | cons v vs =>
        obtain ⟨u, e⟩ := hc 0 c v rfl rfl
        exact .cons ⟨u, e⟩ (ih vs (by simpa using hv) fun i c' v' h1 h2 => hc (i + 1) c' v' h1 h2)
  refine key _ _ (by rw [Array.length_toList, Array.length_toList]; exact hn) fun i c v h1 h2 => ?_
  obtain ⟨c', u, h3, h4⟩ := hi i v (by simpa using h2)
  rw [Array.getElem?_toList] at h1
  rw [h1] at h3
  cases h3
  exact ⟨u, h4⟩
theorem list_D (hcm : X.calm = true) : CallR X (.type "list") (ropN X.K (one1 (bList c))) := one1_ok fun pins s σ H v us Q ρ M d I rs m r1 q => by
  unfold bList at q
  split at q
  · cases relP r1
    split at q
    · rename_i z hz
      obtain ⟨u, rfl, rv⟩ := vals1 rs
      obtain ⟨t, rfl⟩ := rv
      refine call_list_str (hn := hz) (I.ok.hd hcm) z t fun h' tk acc c' up hS hit => ?_
      have nS : H s.heap.objs.size = none := I.hok.fresh (Nat.le_refl _)
      have len : (z.cps.toList.map fun c => V.str ⟨#[c]⟩).length ≤ sizeLine := by rw [List.length_map, Array.length_toList]; exact hz
      refine ⟨.ref s.heap.objs.size, upd H s.heap.objs.size (.lst (z.cps.toList.map fun c => V.str ⟨#[c]⟩)), I.laid (t' := tk) up (Nat.le_refl _) ⟨len, acc.toList, c', vals_signs hit, by simpa using hS⟩, rfl, al_ok m (signs_rel z) q nS⟩
    · exact q.elim
  unfold bListS at q
  split at q
  · rename_i h1
    obtain ⟨a, vs, rfl, sa, ra⟩ := seq_ok m r1 h1
    exact call_list_of pins s σ H _ us Q I rs ⟨_, _, rfl, .inl sa, fun p hp => al_ok m ra q hp⟩
  · split at q
    · rename_i h1
      obtain ⟨a, vs, rfl, sa, ra⟩ := tup_ok r1 h1
      exact call_list_of pins s σ H _ us Q I rs ⟨_, _, rfl, .inr sa, fun p hp => al_ok m ra q hp⟩
    · exact q.elim
theorem tuple_D : CallR X (.type "tuple") (ropN X.K (one1 bTuple)) := one1_ok fun pins s σ H v us Q ρ M d I rs m r1 q => by
  unfold bTuple at q
  split at q
  · rename_i h1
    obtain ⟨a, vs, rfl, sa, ra⟩ := seq_ok m r1 h1
    exact call_tuple_of pins s σ H _ us Q I rs ⟨_, _, rfl, .inl ⟨sa, fun p hp => mkT_ok m ra q hp⟩⟩
  · split at q
    · rename_i h1
      obtain ⟨a, vs, rfl, sa, ra⟩ := tup_ok r1 h1
      exact call_tuple_of pins s σ H _ us Q I rs ⟨_, _, rfl, .inr ⟨sa, q _ ρ H m (Le.refl _ _) r1⟩⟩
    · exact q.elim
theorem sum_D (hc : X.calm = true) : CallR X (.builtin "sum") (ropN X.K (one1 bSum)) := one1_ok fun pins s σ H v us Q ρ M d I rs m r1 q => by
  unfold bSum at q
  cases e : seqD M d with
  | none => rw [e] at q; exact q.elim
  | some xs =>
    rw [e] at q
    cases e2 : intsOf xs with
    | none => simp only [Option.bind_some, e2] at q; exact q.elim
    | some is =>
      simp only [Option.bind_some, e2] at q
      obtain ⟨a, vs, rfl, sa, ra⟩ := seq_ok m r1 e
      rw [ints_rel ra e2] at sa
      exact cr_sum hc pins s σ H _ us Q I rs ⟨_, _, rfl, sa, q _ ρ H m (Le.refl _ _) (Pr (.int _))⟩
theorem any_D (hc : X.calm = true) : CallR X (.builtin "any") (ropN X.K (one1 bAny)) := one1_ok fun pins s σ H v us Q ρ M d I rs m r1 q => by
  unfold bAny at q
  cases e : seqD M d with
  | none => rw [e] at q; exact q.elim
  | some xs =>
    rw [e] at q
    cases e2 : boolsOf xs with
    | none => simp only [Option.bind_some, e2] at q; exact q.elim
    | some is =>
      simp only [Option.bind_some, e2] at q
      obtain ⟨a, vs, rfl, sa, ra⟩ := seq_ok m r1 e
      rw [bools_rel ra e2] at sa
      exact cr_any hc pins s σ H _ us Q I rs ⟨_, _, rfl, sa, q _ ρ H m (Le.refl _ _) (Pr (.bl _))⟩
theorem all_D (hc : X.calm = true) : CallR X (.builtin "all") (ropN X.K (one1 bAll)) := one1_ok fun pins s σ H v us Q ρ M d I rs m r1 q => by
  unfold bAll at q
  cases e : seqD M d with
  | none => rw [e] at q; exact q.elim
  | some xs =>
    rw [e] at q
    cases e2 : boolsOf xs with
    | none => simp only [Option.bind_some, e2] at q; exact q.elim
    | some is =>
      simp only [Option.bind_some, e2] at q
      obtain ⟨a, vs, rfl, sa, ra⟩ := seq_ok m r1 e
      rw [bools_rel ra e2] at sa
      exact cr_all hc pins s σ H _ us Q I rs ⟨_, _, rfl, sa, q _ ρ H m (Le.refl _ _) (Pr (.bl _))⟩
theorem repr_D (hu : X.A.units + 150 < cLine) (hg : X.A.guards = some []) : CallR X (.builtin "repr") (ropN X.K (one1 bRepr)) := one1_ok fun pins s σ H v us Q ρ M d I rs m r1 q => by
  unfold bRepr at q
  cases e : res 6 M d with
  | none => rw [e] at q; exact q.elim
  | some x =>
    simp only [e] at q
    split at q
    · rename_i h
      obtain ⟨h1, h2, h3, h4⟩ := h
      obtain ⟨u, rfl, rv⟩ := vals1 rs
      have dp := res_ok m 6 r1 e
      have pl := dp_plain dp
      obtain ⟨as, rd⟩ := Dp.reads I x v u dp rv
      unfold okd at h3
      simp only [decide_eq_true_eq] at h3
      have nd : x.hasDict = true → sysModules ∉ as := fun z => by
        have : ∀ d : PyData, d.plain = true → d.hasDict = false := by
          intro d
          exact (PyData.rec (motive_1 := fun d => d.plain = true → d.hasDict = false) (motive_2 := fun ds => PyData.plainAll ds = true → PyData.hasDictAll ds = false) (motive_3 := fun _ => True) (motive_4 := fun _ => True)
            (fun _ => rfl) (fun _ _ => rfl) (fun _ _ => rfl) (fun _ _ => rfl) (fun xs ih h => by simp only [PyData.plain] at h; simp only [PyData.hasDict]; exact ih h) (fun xs ih h => by simp only [PyData.plain] at h; simp only [PyData.hasDict]; exact ih h)
            (fun kvs _ h => by simp only [PyData.plain] at h; cases h) (fun _ => rfl)
            (fun d ds h1 h2 h => by simp only [PyData.plainAll, Bool.and_eq_true] at h; simp only [PyData.hasDictAll, h1 h.1, h2 h.2, Bool.or_self]) trivial (fun _ _ _ _ => trivial) (fun _ _ _ _ => trivial) d)
        rw [this x pl] at z; cases z
      have go : ∀ a, u = .ref a → wpAny (model X.prog X.w) X.A (call (.builtin "repr") [u]) (EP X pins σ Q) X.xe s := fun a ea => by
        subst ea
        refine repr_of_reads' rd h2 nd hg (by omega) (fun _ _ e => e) (fun h' t tk hk => ?_) h4
        exact ⟨.str _, H, I.kept (t' := tk) hk, ⟨_, rfl⟩, q _ ρ H m (Le.refl _ _) (Pr (.str _))⟩
      cases dp with
      | lst _ _ => cases rv; exact go _ rfl
      | tup _ _ => cases rv; exact go _ rfl
      | _ => cases h1
    · exact q.elim
end
end Mini

/-! Mini, part k: sorted, methods. -/
namespace Mini
open PySem PySem.Spec PyProof.Rows L2

section
variable {X : Cx} {xc : Nat → Addr} {W : WX} {c : Bool}
theorem dpAll_vals {K : PySem.W.Frag} {H : Hp} : ∀ {vs : List V} {ds : List PyData}, DpAll K H vs ds → DpAll K H vs ds := fun h => h
/-- pairs of a value of the layer and what it reads as -/
theorem each_of {G : Hp} {K : PySem.W.Frag} : ∀ {vs : List V} {ds : List PyData} {us : List Value}, DpAll K G vs ds → Vals vs us →
    PySem.W.EachIs (fun (u : Value) (b : PyData × V) => RelV b.2 u ∧ Dp K G b.2 b.1) us (ds.zip vs) ∧ (ds.zip vs).map (·.1) = ds
  | _, _, _, .nil, .nil => ⟨.nil, rfl⟩
  | _, _, _, .cons a b, .cons r t => by
    obtain ⟨h1, h2⟩ := each_of b t
    exact ⟨.cons ⟨r, a⟩ h1, by rw [List.zip_cons_cons, List.map_cons, h2]⟩
theorem each_to {G : Hp} {K : PySem.W.Frag} : ∀ {us : List Value} {bs : List (PyData × V)}, PySem.W.EachIs (fun (u : Value) (b : PyData × V) => RelV b.2 u ∧ Dp K G b.2 b.1) us bs → Vals (bs.map (·.2)) us ∧ DpAll K G (bs.map (·.2)) (bs.map (·.1))
  | _, _, .nil => ⟨.nil, .nil⟩
  | _, _, .cons h t => by
    obtain ⟨h1, h2⟩ := each_to t
    exact ⟨.cons h.1 h1, .cons h.2 h2⟩
theorem each_imp {α β : Type} {R S : α → β → Prop} : ∀ {as : List α} {bs : List β}, PySem.W.EachIs R as bs → (∀ a b, R a b → S a b) → PySem.W.EachIs S as bs
  | _, _, .nil, _ => .nil
  | _, _, .cons h t, f => .cons (f _ _ h) (each_imp t f)
theorem sorted_D (hu : X.A.units + 150 < cLine) : CallR X (.builtin "sorted") (ropN X.K (one1 (bSorted c))) := one1_ok fun pins s σ H v us Q ρ M d I rs m r1 q => by
  unfold bSorted at q
  cases e : seqD M d with
  | none => rw [e] at q; exact q.elim
  | some xs =>
    rw [e] at q
    cases e2 : pAll xs with
    | none => simp only [Option.bind_some, e2] at q; exact q.elim
    | some ds =>
      simp only [Option.bind_some, e2] at q
      split at q
      · rename_i hq
        obtain ⟨ho, hz⟩ := hq
        obtain ⟨a, vs, rfl, sa, ra⟩ := seq_ok m r1 e
        rw [pAll_eq e2] at ra
        have dp := relDs_p.mp ra
        obtain ⟨u, rfl, rv⟩ := vals1 rs
        cases rv
        obtain ⟨its, rvs, pl, _⟩ := I.list sa
        obtain ⟨z1, z2⟩ := each_of dp rvs
        unfold sortOk at ho
        simp only [Bool.and_eq_true, List.all_eq_true, Bool.or_eq_true] at ho
        obtain ⟨⟨o1, o2⟩, o3⟩ := ho
        have reads : PySem.W.EachIs (fun (u : Value) (b : PyData × V) => ∃ as, Reads s.heap u b.1 as) its (ds.zip vs) := each_imp z1 fun u b h => Dp.reads I b.1 b.2 u (dp_mono hdH h.2) h.1
        have hlen : (ds.zip vs).length = ds.length := by rw [← List.length_map (f := (·.1)), z2]
        refine PySem.W.sorted_data (enc := (·.1)) pl.isList z1 reads (by rw [z2]; exact fun x hx y hy => o1 x hx y hy) (by
          rw [z2]
          rcases o2 with o2 | o2
          · refine .inl fun x hx => ?_
            have := o2 x hx
            split at this
            · exact ⟨_, _, rfl⟩
            · cases this
          · refine .inr fun x hx => ?_
            have := o2 x hx
            split at this
            · cases this
            · cases this
            · rename_i h1 h2
              exact ⟨h1, h2⟩) (by rw [hlen]; exact hz) (fun b hb => ?_) (fun out ho1 ho2 => ?_)
        · have : okd b.1 = true := o3 b.1 (by rw [← z2]; exact List.mem_map_of_mem hb)
          unfold okd at this
          simp only [decide_eq_true_eq] at this
          omega
        · obtain ⟨y1, y2⟩ := each_to ho2
          have em : ((ds.zip vs).mergeSort (PySem.W.dataLe false (·.1))).map (·.1) = ds.mergeSort (PySem.W.dataLe false id) := by
            have := PySem.W.sort_maps (r := PySem.W.dataLe false (fun b : PyData × V => b.1)) (s := PySem.W.dataLe false (id : PyData → PyData)) (fun b : PyData × V => b.1) (l := ds.zip vs) (fun _ _ _ _ => rfl)
            rw [this, z2]
          obtain ⟨ep, he'⟩ := PyProof.Rows.sortedAll_at s.heap its out.toArray
          have hl2 : (((ds.zip vs).mergeSort (PySem.W.dataLe false (·.1))).map (·.2)).length ≤ sizeLine := by rw [List.length_map, List.length_mergeSort, hlen]; exact hz
          have rr : RelDs X.K (hd ρ M H) ρ ((ds.mergeSort (PySem.W.dataLe false id)).map .p) (((ds.zip vs).mergeSort (PySem.W.dataLe false (·.1))).map (·.2)) := by
            rw [← em]; exact relDs_p.mpr y2
          exact ⟨.ref _, upd H (s.heap.objs.size + 1) (.lst (((ds.zip vs).mergeSort (PySem.W.dataLe false (·.1))).map (·.2))), I.laid (t' := s.toks) (fun _ _ => PyProof.Rows.sortedAll_old) (Nat.le_succ _) ⟨hl2, out, ep, y1, he'⟩, rfl, al_ok m rr q (I.hok.fresh (Nat.le_succ _))⟩
      · exact q.elim

/-! ### methods -/
def ropM (K : PySem.W.Frag) (g : D → List D → Mem → Option (D × Mem)) : V → List V → Hp → VK → Prop := fun x vs H Q => ∃ ρ M d ds, MemOk K ρ M H ∧ RelD K (hd ρ M H) ρ d x ∧ RelDs K (hd ρ M H) ρ ds vs ∧ postO K ρ M H Q (g d ds M)
theorem cel_inv {K : PySem.W.Frag} {ρ : Rho} {M : Mem} {H : Hp} {Q : VK} {f : Nat → List D → Option (D × Mem)} {d : D} {x : V} (m : MemOk K ρ M H) (r : RelD K (hd ρ M H) ρ d x) (q : postO K ρ M H Q (cel f d M)) :
    ∃ k xs a vs, M[k]? = some (.lst xs) ∧ ρ.c[k]? = some a ∧ x = .ref a ∧ H a = some (.lst vs) ∧ RelDs K (hd ρ M H) ρ xs vs ∧ postO K ρ M H Q (f k xs) := by
  unfold cel celL at q
  cases d with
  | p _ => exact q.elim
  | tr _ => exact q.elim
  | ref k =>
    simp only at q
    cases e : M[k]? with
    | none => rw [e] at q; exact q.elim
    | some c =>
      rw [e] at q
      cases c with
      | dead => exact q.elim
      | dct _ => exact q.elim
      | lst xs =>
        obtain ⟨a, vs, h1, h2, h3⟩ := m.at e
        unfold RelD at r
        obtain ⟨a', h4, h5⟩ := r
        rw [h1] at h4
        cases h4
        exact ⟨k, xs, a, vs, e, h1, h5, h2, h3, q⟩
/-- the cell is written, a value is handed back -/
theorem set_out {K : PySem.W.Frag} {ρ : Rho} {M : Mem} {H : Hp} {Q : VK} {k : Nat} {ys xs : List D} {a : Addr} {vs : List V} {d : D} {v : V} (m : MemOk K ρ M H) (e : M[k]? = some (.lst ys)) (ha : ρ.c[k]? = some a) (r : RelDs K (hd ρ M H) ρ xs vs)
    (rd : RelD K (hd ρ M H) ρ d v) (q : postO K ρ M H Q (some (d, M.set k (.lst xs)))) : Q v (upd H a (.lst vs)) := by
  obtain ⟨m', le⟩ := m.setLst e ha r
  exact q v ρ _ m' le (rd.mono le)
theorem append_D : MtR X "list.append" (ropM X.K mAppend) := by
  intro pins s σ H x vs v us Q I rx rs hq
  obtain ⟨ρ, M, d, ds, m, r, rd, q⟩ := hq
  unfold mAppend at q
  split at q
  · obtain ⟨y, rfl, r1⟩ := one_rel rd
    obtain ⟨k, xs, a, vs, e, ha, rfl, hH, rr, q⟩ := cel_inv m r q
    split at q
    · rename_i hz
      rw [rr.length] at hz
      exact mt_append pins s σ H _ _ v us Q I rx rs ⟨a, vs, y, rfl, rfl, hH, hz, set_out m e ha (rr.append (RelDs.cons r1 RelDs.nil)) (Pr .non) q⟩
    · exact q.elim
  · exact q.elim
theorem pop_D : MtR X "list.pop" (ropM X.K mPop) := by
  intro pins s σ H x vs v us Q I rx rs hq
  obtain ⟨ρ, M, d, ds, m, r, rd, q⟩ := hq
  unfold mPop at q
  split at q
  · have e0 : vs = [] := by unfold RelDs at rd; exact rd
    subst e0
    obtain ⟨k, xs, a, vs, e, ha, rfl, hH, rr, q⟩ := cel_inv m r q
    cases e1 : xs[xs.length - 1]? with
    | none => rw [e1] at q; exact q.elim
    | some y =>
      rw [e1] at q
      obtain ⟨w, h1, h2⟩ := rr.get e1
      rw [rr.length] at h1
      refine mt_pop pins s σ H _ _ v us Q I rx rs ⟨a, vs, w, rfl, rfl, hH, h1, set_out m e ha ?_ h2 q⟩
      rw [List.dropLast_eq_take, List.dropLast_eq_take, rr.length]
      exact rr.take _
  · obtain ⟨y, rfl, r1⟩ := one_rel rd
    cases relP r1
    obtain ⟨k, xs, a, vs, e, ha, rfl, hH, rr, q⟩ := cel_inv m r q
    split at q
    · rename_i hi
      split at q
      · rename_i j hj
        cases e1 : xs[j]? with
        | none => rw [e1] at q; exact q.elim
        | some y =>
          rw [e1] at q
          obtain ⟨w, h1, h2⟩ := rr.get e1
          rw [rr.length] at hj
          refine mt_popAt pins s σ H _ _ v us Q I rx rs ⟨a, vs, _, j, w, rfl, rfl, hH, hi.1, hi.2, hj, h1, set_out m e ha ?_ h2 q⟩
          rw [List.eraseIdx_eq_take_drop_succ, List.eraseIdx_eq_take_drop_succ]
          exact (rr.take _).append (rr.drop _)
      · exact q.elim
    · exact q.elim
  · exact q.elim
theorem reverse_D : MtR X "list.reverse" (ropM X.K mReverse) := by
  intro pins s σ H x vs v us Q I rx rs hq
  obtain ⟨ρ, M, d, ds, m, r, rd, q⟩ := hq
  unfold mReverse at q
  split at q
  · have e0 : vs = [] := by unfold RelDs at rd; exact rd
    subst e0
    obtain ⟨k, xs, a, vs, e, ha, rfl, hH, rr, q⟩ := cel_inv m r q
    exact mt_reverse pins s σ H _ _ v us Q I rx rs ⟨a, vs, rfl, rfl, hH, set_out m e ha rr.reverse (Pr .non) q⟩
  · exact q.elim
theorem clear_D : MtR X "list.clear" (ropM X.K mClear) := by
  intro pins s σ H x vs v us Q I rx rs hq
  obtain ⟨ρ, M, d, ds, m, r, rd, q⟩ := hq
  unfold mClear at q
  split at q
  · have e0 : vs = [] := by unfold RelDs at rd; exact rd
    subst e0
    obtain ⟨k, xs, a, vs, e, ha, rfl, hH, rr, q⟩ := cel_inv m r q
    exact mt_clear pins s σ H _ _ v us Q I rx rs ⟨a, vs, rfl, rfl, hH, set_out m e ha RelDs.nil (Pr .non) q⟩
  · exact q.elim
theorem extend_D : MtR X "list.extend" (ropM X.K mExtend) := by
  intro pins s σ H x vs v us Q I rx rs hq
  obtain ⟨ρ, M, d, ds, m, r, rd, q⟩ := hq
  unfold mExtend at q
  split at q
  · obtain ⟨y, rfl, r1⟩ := one_rel rd
    obtain ⟨k, xs, a, vs, e, ha, rfl, hH, rr, q⟩ := cel_inv m r q
    obtain ⟨k2, ys, b, ws, e2, hb, rfl, hB, rr2, q⟩ := cel_inv m r1 q
    split at q
    · rename_i hz
      rw [rr.length, rr2.length] at hz
      exact mt_extend pins s σ H _ _ v us Q I rx rs ⟨a, b, vs, ws, rfl, rfl, hH, hB, hz, set_out m e ha (rr.append rr2) (Pr .non) q⟩
    · exact q.elim
  · exact q.elim
theorem insert_D : MtR X "list.insert" (ropM X.K mInsert) := by
  intro pins s σ H x vs v us Q I rx rs hq
  obtain ⟨ρ, M, d, ds, m, r, rd, q⟩ := hq
  unfold mInsert at q
  split at q
  · obtain ⟨y0, y, rfl, r0, r1⟩ := two_rel rd
    cases relP r0
    obtain ⟨k, xs, a, vs, e, ha, rfl, hH, rr, q⟩ := cel_inv m r q
    split at q
    · rename_i hz
      rw [rr.length] at hz
      refine mt_insert pins s σ H _ _ v us Q I rx rs ⟨a, vs, _, y, rfl, rfl, hH, hz.1, hz.2.1, hz.2.2, set_out m e ha ?_ (Pr .non) q⟩
      rw [List.append_assoc]
      exact (rr.take _).append (RelDs.cons r1 (rr.drop _))
    · exact q.elim
  · exact q.elim
theorem index_D (hu : X.A.units + 150 < cLine) : MtR X "list.index" (ropM X.K mIndex) := by
  intro pins s σ H x vs v us Q I rx rs hq
  obtain ⟨ρ, M, d, ds, m, r, rd, q⟩ := hq
  unfold mIndex at q
  split at q
  · obtain ⟨y, rfl, r1⟩ := one_rel rd
    split at q
    · rename_i xs z e1 e2
      split at q
      · rename_i hk
        have e1' : res 6 M d = some (.list xs) := by
          unfold listP at e1
          split at e1
          · rename_i e; cases e1; exact e
          · cases e1
        cases ep : SeqAt.dataPlace xs z with
        | none => rw [ep] at q; exact q.elim
        | some j =>
          rw [ep] at q
          have d1 := res_ok m 6 r e1'
          have d2 := res_ok m 6 r1 e2
          cases d1 with
          | lst sa da =>
            cases rx
            obtain ⟨uy, rfl, ry⟩ := vals1 rs
            obtain ⟨its, rv, ⟨⟨cls, dd, data, sls⟩, n, ho, hc, hdn, hdt⟩, hlen⟩ := I.list sa
            simp only at hc hdt
            subst hc hdt
            obtain ⟨as, h4⟩ := Dp.readsAll I xs _ its da rv
            obtain ⟨bs, q2⟩ := Dp.reads I z y uy d2 ry
            have p1 := dpAll_plain da
            have p2 := dp_plain d2
            have h4' : ReadsAll s.heap its.toArray.toList xs as := by rw [List.toList_toArray]; exact h4
            obtain ⟨hj, hit, hno⟩ := SeqAt.hit_at h4' p1 ep
            have hsl := sizeLine_eq
            have rl := rv.length
            have hj' : j < its.length := by simpa using hj
            have hjj : (j : Int) < 2 ^ 63 - 1 := by omega
            refine call_meets PySem.F.slot_list_index ⟨_, ho, rfl⟩ PySem.F.entry_list_index (PySem.F.args_list_index_2 _ _)
              (SeqAt.list_indexAt _ its.toArray n dd sls uy (fun u => PyData.eqv (SeqAt.readOf s.heap u) z) j hj hjj hit hno) ⟨ho, SeqAt.items_plain h4' q2 p1 p2 (in_min hu hk), ?_⟩
            exact ⟨.int (j : Nat), H, I.tok _, ⟨_, rfl⟩, q _ ρ H m (Le.refl _ _) (Pr (.int _))⟩
      · exact q.elim
    · exact q.elim
  · exact q.elim
theorem count_D (hu : X.A.units + 150 < cLine) : MtR X "list.count" (ropM X.K mCount) := by
  intro pins s σ H x vs v us Q I rx rs hq
  obtain ⟨ρ, M, d, ds, m, r, rd, q⟩ := hq
  unfold mCount at q
  split at q
  · obtain ⟨y, rfl, r1⟩ := one_rel rd
    split at q
    · rename_i xs z e1 e2
      split at q
      · rename_i hk
        have e1' : res 6 M d = some (.list xs) := by
          unfold listP at e1
          split at e1
          · rename_i e; cases e1; exact e
          · cases e1
        have d1 := res_ok m 6 r e1'
        have d2 := res_ok m 6 r1 e2
        cases d1 with
        | lst sa da =>
          cases rx
          obtain ⟨uy, rfl, ry⟩ := vals1 rs
          obtain ⟨its, rv, pl, hlen⟩ := I.list sa
          obtain ⟨as, h4⟩ := Dp.readsAll I xs _ its da rv
          obtain ⟨bs, q2⟩ := Dp.reads I z y uy d2 ry
          have h4' : ReadsAll s.heap its.toArray.toList xs as := by rw [List.toList_toArray]; exact h4
          exact SeqAt.count_list_data pl.isList h4' q2 (dpAll_plain da) (dp_plain d2) (in_min hu hk) ⟨.int _, H, I.tok _, ⟨_, rfl⟩, q _ ρ H m (Le.refl _ _) (Pr (.int _))⟩
      · exact q.elim
    · exact q.elim
  · exact q.elim
theorem str1_inv {K : PySem.W.Frag} {G : Hp} {ρ : Rho} {d : D} {ds : List D} {x : V} {vs : List V} {a b : Str} (h : str1 d ds = some (a, b)) (r : RelD K G ρ d x) (rd : RelDs K G ρ ds vs) : x = .str a ∧ vs = [.str b] := by
  unfold str1 at h
  split at h
  · cases h
    obtain ⟨y, rfl, r1⟩ := one_rel rd
    cases relP r; cases relP r1
    exact ⟨rfl, rfl⟩
  · cases h
theorem find_D : MtR X "str.find" (ropM X.K mFind) := by
  intro pins s σ H x vs v us Q I rx rs hq
  obtain ⟨ρ, M, d, ds, m, r, rd, q⟩ := hq
  unfold mFind at q
  cases e : str1 d ds with
  | none => rw [e] at q; exact q.elim
  | some z =>
    obtain ⟨a, b⟩ := z
    rw [e] at q
    obtain ⟨rfl, rfl⟩ := str1_inv e r rd
    exact mt_find pins s σ H _ _ v us Q I rx rs ⟨a, b, rfl, rfl, q _ ρ H m (Le.refl _ _) (Pr (.int _))⟩
theorem scount_D : MtR X "str.count" (ropM X.K mSCount) := by
  intro pins s σ H x vs v us Q I rx rs hq
  obtain ⟨ρ, M, d, ds, m, r, rd, q⟩ := hq
  unfold mSCount at q
  cases e : str1 d ds with
  | none => rw [e] at q; exact q.elim
  | some z =>
    obtain ⟨a, b⟩ := z
    rw [e] at q
    obtain ⟨rfl, rfl⟩ := str1_inv e r rd
    exact mt_count pins s σ H _ _ v us Q I rx rs ⟨a, b, rfl, rfl, q _ ρ H m (Le.refl _ _) (Pr (.int _))⟩
theorem upper_D : MtR X "str.upper" (ropM X.K mUpper) := by
  intro pins s σ H x vs v us Q I rx rs hq
  obtain ⟨ρ, M, d, ds, m, r, rd, q⟩ := hq
  unfold mUpper at q
  split at q
  · have e0 : vs = [] := by unfold RelDs at rd; exact rd
    subst e0
    cases relP r
    split at q
    · rename_i hz
      exact mt_upper pins s σ H _ _ v us Q I rx rs ⟨_, rfl, rfl, hz, q _ ρ H m (Le.refl _ _) (Pr (.str _))⟩
    · exact q.elim
  · exact q.elim
theorem relDs_strs {K : PySem.W.Frag} {G : Hp} {ρ : Rho} : ∀ ys : List Str, RelDs K G ρ (ys.map fun z => .p (.str z)) (ys.map V.str)
  | [] => RelDs.nil
  | y :: ys => RelDs.cons (Pr (.str y)) (relDs_strs ys)
theorem split_D : MtR X "str.split" (ropM X.K (mSplit c)) := by
  intro pins s σ H x vs v us Q I rx rs hq
  obtain ⟨ρ, M, d, ds, m, r, rd, q⟩ := hq
  unfold mSplit at q
  cases e : str1 d ds with
  | none => rw [e] at q; exact q.elim
  | some z =>
    obtain ⟨a, b⟩ := z
    simp only [e] at q
    obtain ⟨rfl, rfl⟩ := str1_inv e r rd
    split at q
    · rename_i hz
      exact mt_split pins s σ H _ _ v us Q I rx rs ⟨a, b, rfl, rfl, hz.1, hz.2, fun p hp => al_ok m (relDs_strs _) q hp⟩
    · exact q.elim
theorem part_D : MtR X "str.partition" (ropM X.K mPart) := by
  intro pins s σ H x vs v us Q I rx rs hq
  obtain ⟨ρ, M, d, ds, m, r, rd, q⟩ := hq
  unfold mPart at q
  cases e : str1 d ds with
  | none => rw [e] at q; exact q.elim
  | some z =>
    obtain ⟨a, b⟩ := z
    simp only [e] at q
    obtain ⟨rfl, rfl⟩ := str1_inv e r rd
    split at q
    · rename_i hz
      refine mt_partition pins s σ H _ _ v us Q I rx rs ⟨a, b, rfl, rfl, hz.1, hz.2, fun p hp => ?_⟩
      exact mkT_ok m (xs := [.p (.str (Txt.partition a b).1), .p (.str (Txt.partition a b).2.1), .p (.str (Txt.partition a b).2.2)]) (relDs_strs [_, _, _]) q hp
    · exact q.elim
theorem strs_rel {K : PySem.W.Frag} {G : Hp} {ρ : Rho} : ∀ {xs : List D} {vs : List V} {is : List Str}, RelDs K G ρ xs vs → strsOf xs = some is → vs = is.map V.str
  | [], vs, is, r, h => by unfold RelDs at r; simp only [strsOf, Option.some.injEq] at h; subst h; exact r
  | d :: ds, vs, is, r, h => by
    obtain ⟨v, w, e, r1, r2⟩ := r.inv
    cases d with
    | p x =>
      cases x with
      | str i =>
        simp only [strsOf] at h
        cases q : strsOf ds with
        | none => rw [q] at h; cases h
        | some js =>
          rw [q] at h
          simp only [Option.map_some, Option.some.injEq] at h
          subst h; cases relP r1
          rw [e, strs_rel r2 q]
          rfl
      | _ => cases h
    | _ => cases h
theorem join_D : MtR X "str.join" (ropM X.K mJoin) := by
  intro pins s σ H x vs v us Q I rx rs hq
  obtain ⟨ρ, M, d, ds, m, r, rd, q⟩ := hq
  unfold mJoin at q
  split at q
  · rename_i a z
    obtain ⟨y, rfl, r1⟩ := one_rel rd
    cases relP r
    cases e : seqD M z with
    | none => rw [e] at q; exact q.elim
    | some xs =>
      rw [e] at q
      cases e2 : strsOf xs with
      | none => simp only [Option.bind_some, e2] at q; exact q.elim
      | some is =>
        simp only [Option.bind_some, e2] at q
        split at q
        · rename_i hz
          obtain ⟨p, ws, rfl, sa, ra⟩ := seq_ok m r1 e
          rw [strs_rel ra e2] at sa
          exact mt_join pins s σ H _ _ v us Q I rx rs ⟨_, p, is, rfl, rfl, .inl sa, hz, q _ ρ H m (Le.refl _ _) (Pr (.str _))⟩
        · exact q.elim
  · exact q.elim
end
end Mini

set_option maxHeartbeats 1000000
/-! Mini, part lb: zip of two texts. -/
namespace Mini.ZS
open PySem PySem.Spec PyProof.Rows L2
open PySem.Sem (wp)
section
variable {prog : Program} {w : World} {A : Around} {E : Value → Shared → Prop} {s : Shared}
/-- a walk over the text x stands at it, before sign i -/
abbrev At (h : Heap) (it : Addr) (x : Str) (t : Tok) (i : Nat) : Prop := h.IsStrIter it (strIterType x) x t i
theorem nx_item {it : Addr} {x : Str} {t : Tok} {i c : Nat} {Q : Value → Shared → Prop} (hit : At s.heap it x t i) (hx : x.cps[i]? = some c)
    (hQ : ∀ h' k, At h' it x t (i + 1) → Heap.SameBut it s.heap h' → Q (.str ⟨#[c]⟩ k) { s with heap := h', toks := s.toks + 1 }) :
    wpAny (model prog w) A (Builtin.SmallTypes.nextOf (.ref it)) Q E s := by
  unfold At strIterType at hit hQ
  cases ha : x.cps.all (· < 128)
  · rw [ha] at hit hQ
    exact wpAny_nextOf_wide_item hit hx fun h' a b => hQ h' _ a b
  · rw [ha] at hit hQ
    exact wpAny_nextOf_ascii_item hit hx fun h' a b => hQ h' _ a b
theorem nx_end {it : Addr} {x : Str} {t : Tok} {i : Nat} {Q : Value → Shared → Prop} (hh : A.handled = none) (hit : At s.heap it x t i) (hx : x.cps[i]? = none)
    (hE : ∀ h' e, Heap.ExtBut it s.heap h' → (∃ o, h'.get? e = some o ∧ o.cls = .type "StopIteration") → E (.ref e) { s with heap := h' }) :
    wpAny (model prog w) A (Builtin.SmallTypes.nextOf (.ref it)) Q E s := by
  unfold At strIterType at hit
  cases ha : x.cps.all (· < 128)
  · rw [ha] at hit
    exact wpAny_nextOf_wide_end hh hit hx hE
  · rw [ha] at hit
    exact wpAny_nextOf_ascii_end hh hit hx hE
/-- the five things of a zip are apart -/
structure Ap (z TI TO i1 i2 : Addr) : Prop where
  a : TI ≠ z
  b : TO ≠ z
  c : i1 ≠ z
  d : i2 ≠ z
  e : TI ≠ TO
  f : TI ≠ i1
  g : TI ≠ i2
  h : TO ≠ i1
  i : TO ≠ i2
  j : i1 ≠ i2
theorem step {z TI TO i1 i2 : Addr} {k1 k2 c1 c2 : Nat} {X Y : Str} {t1 t2 : Tok} {a b : Value} {Q : Value → Shared → Prop} (D : Ap z TI TO i1 i2)
    (hz : IsZip s.heap z TI TO .none) (hTI : IsPair s.heap TI (.ref i1) (.ref i2)) (hTO : IsPair s.heap TO a b)
    (h1 : At s.heap i1 X t1 k1) (h2 : At s.heap i2 Y t2 k2) (hx : X.cps[k1]? = some c1) (hy : Y.cps[k2]? = some c2)
    (hQ : ∀ h' u1 u2, IsZip h' z TI TO (rawInt s.heap.objs.size) → IsPair h' TO (.str ⟨#[c1]⟩ u1) (.str ⟨#[c2]⟩ u2) → At h' i1 X t1 (k1 + 1) → At h' i2 Y t2 (k2 + 1) → IsPair h' s.heap.objs.size (.str ⟨#[c1]⟩ u1) (.str ⟨#[c2]⟩ u2) → h'.objs.size = s.heap.objs.size + 1 →
      (∀ q o, q ≠ z → q ≠ TO → q ≠ i1 → q ≠ i2 → s.heap.get? q = some o → h'.get? q = some o) → Q (.ref s.heap.objs.size) { s with heap := h', toks := s.toks + 1 + 1 }) :
    wpAny (model prog w) A (Builtin.«zip.__next__» ⟨[.ref z], []⟩) (fun fin s' => ∃ v, fin = .done (.ret v) ∧ Q v s') E s := by
  show wpAny _ _ (field (.ref z) 2 >>= _) _ _ _
  refine wpAny_bind (wpAny_field hz rfl (x := .bool false) rfl ?_)
  show wpAny _ _ (field (.ref z) 3 >>= _) _ _ _
  refine wpAny_bind (wpAny_field hz rfl (x := .ref TI) rfl ?_)
  refine wpAny_bind (wpAny_seqItems hTI rfl ?_)
  show wpAny _ _ (Builtin.SmallTypes.ownedTupleIsFree (.ref z) >>= _) _ _ _
  refine wpAny_bind ?_
  unfold Builtin.SmallTypes.ownedTupleIsFree
  refine wpAny_bind (wpAny_field hz rfl (x := .none) rfl (wpAny_pure ?_))
  simp only [if_true]
  refine wpAny_bind (wpAny_rule ?_)
  refine wpAny_bind (wpAny_field hz rfl (x := .ref TO) rfl ?_)
  refine wpAny_bind (wpAny_setField_rec hz (by simp) fun g1 z1 s1 => ?_)
  replace z1 : IsZip g1 z TI TO .ellipsis := z1
  refine wpAny_bind ?_
  simp only [List.zipIdx_cons, List.zipIdx_nil, List.forIn_cons, List.forIn_nil]
  -- the first text's sign
  refine wpAny_bind (wpAny_bind (wpAny_onRaise ?_))
  show wpAny _ _ (Builtin.SmallTypes.nextOf (.ref i1) >>= _) _ _ _
  refine wpAny_bind (nx_item (h1.extBut s1.extBut D.c) hx fun g2 u1 p2 s2 => wpAny_pure ?_)
  replace s2 : Heap.SameBut i1 g1 g2 := s2
  have o2 : IsPair g2 TO a b := s2.extBut _ _ D.h (s1.extBut _ _ D.b hTO)
  refine wpAny_bind (wpAny_seqItems o2 rfl ?_)
  refine wpAny_bind (wpAny_updateSeq_pair o2 fun g3 o3 s3 => ?_)
  replace o3 : IsPair g3 TO (.str ⟨#[c1]⟩ u1) b := o3
  replace s3 : Heap.SameBut TO g2 g3 := s3
  refine wpAny_bind (wpAny_letGo (wpAny_pure ?_))
  -- the second text's sign
  refine wpAny_bind (wpAny_bind (wpAny_onRaise ?_))
  show wpAny _ _ (Builtin.SmallTypes.nextOf (.ref i2) >>= _) _ _ _
  refine wpAny_bind (nx_item (((h2.extBut s1.extBut D.d).extBut s2.extBut D.j.symm).extBut s3.extBut D.i.symm) hy fun g4 u2 p4 s4 => wpAny_pure ?_)
  replace s4 : Heap.SameBut i2 g3 g4 := s4
  have o4 : IsPair g4 TO (.str ⟨#[c1]⟩ u1) b := s4.extBut _ _ D.i o3
  refine wpAny_bind (wpAny_seqItems o4 rfl ?_)
  refine wpAny_bind (wpAny_updateSeq_pair o4 fun g5 o5 s5 => ?_)
  replace o5 : IsPair g5 TO (.str ⟨#[c1]⟩ u1) (.str ⟨#[c2]⟩ u2) := o5
  replace s5 : Heap.SameBut TO g4 g5 := s5
  refine wpAny_bind (wpAny_letGo (wpAny_pure (wpAny_pure ?_)))
  refine wpAny_bind (wpAny_seqItems o5 rfl ?_)
  refine wpAny_bind (wpAny_newTuple ?_)
  have sz : g5.objs.size = s.heap.objs.size := by rw [s5.1, s4.1, s3.1, s2.1, s1.1]
  have z5 : IsZip g5 z TI TO .ellipsis := s5.extBut _ _ D.b.symm (s4.extBut _ _ D.d.symm (s3.extBut _ _ D.b.symm (s2.extBut _ _ D.c.symm z1)))
  have k5 : ∀ q o, q ≠ z → q ≠ TO → q ≠ i1 → q ≠ i2 → s.heap.get? q = some o → g5.get? q = some o := fun q o n1 n2 n3 n4 e =>
    s5.extBut _ _ n2 (s4.extBut _ _ n4 (s3.extBut _ _ n2 (s2.extBut _ _ n3 (s1.extBut _ _ n1 e))))
  have p1 : At g5 i1 X t1 (k1 + 1) := ((p2.extBut s3.extBut D.h.symm).extBut s4.extBut D.j).extBut s5.extBut D.h.symm
  have p2' : At g5 i2 Y t2 (k2 + 1) := p4.extBut s5.extBut D.i.symm
  have lz : z < g5.objs.size := Heap.lt_size z5
  show wpAny _ _ (Builtin.SmallTypes.ownedTupleHandOut (.ref z) (.ref g5.objs.size) >>= _) _ _ _
  refine wpAny_bind ?_
  unfold Builtin.SmallTypes.ownedTupleHandOut
  have z6 : IsZip (g5.push { cls := .type "tuple", data := .seq #[.str ⟨#[c1]⟩ u1, .str ⟨#[c2]⟩ u2] }) z TI TO .ellipsis := Heap.get?_push_of_some _ z5
  refine wpAny_bind (wpAny_setField_rec z6 (by simp) fun g7 z7 s7 => ?_)
  replace z7 : IsZip g7 z TI TO (rawInt g5.objs.size) := z7
  refine wpAny_setField_rec z7 (by simp) fun g8 z8 s8 => ?_
  replace z8 : IsZip g8 z TI TO (rawInt g5.objs.size) := z8
  have up : ∀ q o, q ≠ z → g5.get? q = some o → g8.get? q = some o := fun q o n e => s8.extBut _ _ n (s7.extBut _ _ n (Heap.get?_push_of_some _ e))
  have tT : IsPair g8 g5.objs.size (.str ⟨#[c1]⟩ u1) (.str ⟨#[c2]⟩ u2) := s8.extBut _ _ (Nat.ne_of_gt lz) (s7.extBut _ _ (Nat.ne_of_gt lz) (Heap.get?_push_size _ rfl))
  have sz8 : g8.objs.size = g5.objs.size + 1 := by rw [s8.1, s7.1, Heap.size_push]
  rw [sz] at z8 tT sz8
  refine wpAny_pure ⟨_, rfl, ?_⟩
  show Q (.ref g5.objs.size) _
  rw [sz]
  obtain ⟨w1, e1, r1⟩ := p1
  obtain ⟨w2, e2, r2⟩ := p2'
  exact hQ g8 u1 u2 z8 (up _ _ D.b o5) ⟨w1, up _ _ D.c e1, r1⟩ ⟨w2, up _ _ D.d e2, r2⟩ tT sz8 fun q o n1 n2 n3 n4 e => up q o n1 (k5 q o n1 n2 n3 n4 e)
theorem stop {z TI TO i1 i2 : Addr} {k1 k2 : Nat} {X Y : Str} {t1 t2 : Tok} {a b : Value} {Q : Fin → Shared → Prop} (hh : A.handled = none) (D : Ap z TI TO i1 i2)
    (hz : IsZip s.heap z TI TO .none) (hTI : IsPair s.heap TI (.ref i1) (.ref i2)) (hTO : IsPair s.heap TO a b)
    (h1 : At s.heap i1 X t1 k1) (h2 : At s.heap i2 Y t2 k2) (hend : X.cps[k1]? = none ∨ Y.cps[k2]? = none)
    (hE : ∀ h' e tk, (∀ q o, q ≠ z → q ≠ TO → q ≠ i1 → q ≠ i2 → s.heap.get? q = some o → h'.get? q = some o) → (∃ o, h'.get? e = some o ∧ o.cls = .type "StopIteration") → E (.ref e) { s with heap := h', toks := tk }) :
    wpAny (model prog w) A (Builtin.«zip.__next__» ⟨[.ref z], []⟩) Q E s := by
  show wpAny _ _ (field (.ref z) 2 >>= _) _ _ _
  refine wpAny_bind (wpAny_field hz rfl (x := .bool false) rfl ?_)
  show wpAny _ _ (field (.ref z) 3 >>= _) _ _ _
  refine wpAny_bind (wpAny_field hz rfl (x := .ref TI) rfl ?_)
  refine wpAny_bind (wpAny_seqItems hTI rfl ?_)
  show wpAny _ _ (Builtin.SmallTypes.ownedTupleIsFree (.ref z) >>= _) _ _ _
  refine wpAny_bind ?_
  unfold Builtin.SmallTypes.ownedTupleIsFree
  refine wpAny_bind (wpAny_field hz rfl (x := .none) rfl (wpAny_pure ?_))
  simp only [if_true]
  refine wpAny_bind (wpAny_rule ?_)
  refine wpAny_bind (wpAny_field hz rfl (x := .ref TO) rfl ?_)
  refine wpAny_bind (wpAny_setField_rec hz (by simp) fun g1 z1 s1 => ?_)
  replace z1 : IsZip g1 z TI TO .ellipsis := z1
  refine wpAny_bind ?_
  simp only [List.zipIdx_cons, List.zipIdx_nil, List.forIn_cons, List.forIn_nil]
  refine wpAny_bind (wpAny_bind (wpAny_onRaise ?_))
  show wpAny _ _ (Builtin.SmallTypes.nextOf (.ref i1) >>= _) _ _ _
  cases hx : X.cps[k1]? with
  | none =>
    refine wpAny_bind (nx_end hh (h1.extBut s1.extBut D.c) hx fun g2 e s2 he => ?_)
    replace s2 : Heap.ExtBut i1 g1 g2 := s2
    obtain ⟨oe, hoe, hce⟩ := he
    have z2 : IsZip g2 z TI TO .ellipsis := s2 _ _ D.c.symm z1
    have ne : e ≠ z := fun x => by subst x; rw [z2] at hoe; cases hoe; simp at hce
    exact wpAny_setField_rec z2 (by simp) fun g3 _ s3 => hE g3 e s.toks (fun q o n1 _ n3 _ x => s3.extBut _ _ n1 (s2 _ _ n3 (s1.extBut _ _ n1 x))) ⟨oe, s3.extBut _ _ ne hoe, hce⟩
  | some c =>
    have hy : Y.cps[k2]? = none := by rcases hend with h | h; rw [hx] at h; cases h; exact h
    refine wpAny_bind (nx_item (h1.extBut s1.extBut D.c) hx fun g2 u1 p2 s2 => wpAny_pure ?_)
    replace s2 : Heap.SameBut i1 g1 g2 := s2
    have o2 : IsPair g2 TO a b := s2.extBut _ _ D.h (s1.extBut _ _ D.b hTO)
    refine wpAny_bind (wpAny_seqItems o2 rfl ?_)
    refine wpAny_bind (wpAny_updateSeq_pair o2 fun g3 o3 s3 => ?_)
    replace s3 : Heap.SameBut TO g2 g3 := s3
    refine wpAny_bind (wpAny_letGo (wpAny_pure ?_))
    refine wpAny_bind (wpAny_bind (wpAny_onRaise ?_))
    show wpAny _ _ (Builtin.SmallTypes.nextOf (.ref i2) >>= _) _ _ _
    refine wpAny_bind (nx_end hh (((h2.extBut s1.extBut D.d).extBut s2.extBut D.j.symm).extBut s3.extBut D.i.symm) hy fun g4 e s4 he => ?_)
    replace s4 : Heap.ExtBut i2 g3 g4 := s4
    obtain ⟨oe, hoe, hce⟩ := he
    have z4 : IsZip g4 z TI TO .ellipsis := s4 _ _ D.d.symm (s3.extBut _ _ D.b.symm (s2.extBut _ _ D.c.symm z1))
    have ne : e ≠ z := fun x => by subst x; rw [z4] at hoe; cases hoe; simp at hce
    exact wpAny_setField_rec z4 (by simp) fun g5 _ s5 => hE g5 e _ (fun q o n1 n2 n3 n4 x => s5.extBut _ _ n1 (s4 _ _ n4 (s3.extBut _ _ n2 (s2.extBut _ _ n3 (s1.extBut _ _ n1 x))))) ⟨oe, s5.extBut _ _ ne hoe, hce⟩
theorem next_item {z TI TO i1 i2 : Addr} {k1 k2 c1 c2 : Nat} {X Y : Str} {t1 t2 : Tok} {a b : Value} {Q : Option Value → Shared → Prop} (D : Ap z TI TO i1 i2)
    (hz : IsZip s.heap z TI TO .none) (hTI : IsPair s.heap TI (.ref i1) (.ref i2)) (hTO : IsPair s.heap TO a b)
    (h1 : At s.heap i1 X t1 k1) (h2 : At s.heap i2 Y t2 k2) (hx : X.cps[k1]? = some c1) (hy : Y.cps[k2]? = some c2)
    (hQ : ∀ h' u1 u2, IsZip h' z TI TO (rawInt s.heap.objs.size) → IsPair h' TO (.str ⟨#[c1]⟩ u1) (.str ⟨#[c2]⟩ u2) → At h' i1 X t1 (k1 + 1) → At h' i2 Y t2 (k2 + 1) → IsPair h' s.heap.objs.size (.str ⟨#[c1]⟩ u1) (.str ⟨#[c2]⟩ u2) → h'.objs.size = s.heap.objs.size + 1 →
      (∀ q o, q ≠ z → q ≠ TO → q ≠ i1 → q ≠ i2 → s.heap.get? q = some o → h'.get? q = some o) → Q (some (.ref s.heap.objs.size)) { s with heap := h', toks := s.toks + 1 + 1 }) :
    wpAny (model prog w) A (pyNext (.ref z)) Q E s := by
  have hT : s.TypeIs (.ref z) "zip" := ⟨_, hz, rfl⟩
  unfold pyNext
  exact wpAny_bind (wpAny_attempt (wpAny_callSpecial?_slot (name := Str.ofString "__next__") hT F.slot_zip_next
    (wpAny_call_entry F.slot_zip_next hT F.entry_zip_next
      (step D hz hTI hTO h1 h2 hx hy fun h' u1 u2 a1 a2 a3 a4 a5 a6 a7 => wpAny_pure (hQ h' u1 u2 a1 a2 a3 a4 a5 a6 a7)) (F.args_zip_next_1 _))))
theorem next_stop {z TI TO i1 i2 : Addr} {k1 k2 : Nat} {X Y : Str} {t1 t2 : Tok} {a b : Value} {Q : Option Value → Shared → Prop} (hh : A.handled = none) (D : Ap z TI TO i1 i2)
    (hz : IsZip s.heap z TI TO .none) (hTI : IsPair s.heap TI (.ref i1) (.ref i2)) (hTO : IsPair s.heap TO a b)
    (h1 : At s.heap i1 X t1 k1) (h2 : At s.heap i2 Y t2 k2) (hend : X.cps[k1]? = none ∨ Y.cps[k2]? = none)
    (hQ : ∀ h' tk, (∀ q o, q ≠ z → q ≠ TO → q ≠ i1 → q ≠ i2 → s.heap.get? q = some o → h'.get? q = some o) → Q none { s with heap := h', toks := tk }) : wpAny (model prog w) A (pyNext (.ref z)) Q E s := by
  have hT : s.TypeIs (.ref z) "zip" := ⟨_, hz, rfl⟩
  unfold pyNext
  refine wpAny_bind (wpAny_attempt (wpAny_callSpecial?_slot (name := Str.ofString "__next__") hT F.slot_zip_next
    (wpAny_call_entry F.slot_zip_next hT F.entry_zip_next (stop hh D hz hTI hTO h1 h2 hend fun h' e tk hk he => ?_) (F.args_zip_next_1 _))))
  obtain ⟨o, ho, hc⟩ := he
  refine wpAny_bind (wpAny_isInstance (T := "StopIteration") (b := true) ⟨o, ho, hc⟩ isSubtype_stop ?_)
  exact wpAny_pure (hQ _ _ hk)
end
/-! ### making it -/
abbrev g1 (h : Heap) (x : Str) (t : Tok) : Heap := h.push { cls := .type (strIterType x), data := .fields #[.str x t, .int 0 0] }
abbrev g2 (h : Heap) (x : Str) (t : Tok) (y : Str) (u : Tok) : Heap := (g1 h x t).push { cls := .type (strIterType y), data := .fields #[.str y u, .int 0 0] }
abbrev g3 (h : Heap) (x : Str) (t : Tok) (y : Str) (u : Tok) : Heap := (g2 h x t y u).push { cls := .type "tuple", data := .seq #[.ref h.objs.size, .ref (g1 h x t).objs.size] }
abbrev g4 (h : Heap) (x : Str) (t : Tok) (y : Str) (u : Tok) : Heap := (g3 h x t y u).push { cls := .type "tuple", data := .seq #[.none, .none] }
abbrev g5 (h : Heap) (x : Str) (t : Tok) (y : Str) (u : Tok) : Heap := (g4 h x t y u).push { cls := .type "zip", data := .fields #[.none, .bool false, .bool false, .ref (g2 h x t y u).objs.size, .ref (g3 h x t y u).objs.size] }
theorem made (x : Str) (t : Tok) (y : Str) (u : Tok) :
    Meets (Builtin.«zip.__new__» ⟨[.type "zip", .str x t, .str y u], []⟩) (fun _ R s => R (.ok (.ret (.ref (g4 s.heap x t y u).objs.size))) { s with heap := g5 s.heap x t y u }) :=
  .of_wp fun prog w A R s h => by
    obtain ⟨hp, g, d, tk, os⟩ := s
    have hsub := sub_zip
    wp_walk using wpAny_pyIter_strU
    exact ⟨_, rfl, h⟩
section
variable {prog : Program} {w : World} {A : Around} {E : Value → Shared → Prop} {s : Shared}
theorem make {x y : Str} {t u : Tok} {Q : Value → Shared → Prop}
    (h : ∀ h', IsZip h' (s.heap.objs.size + 4) (s.heap.objs.size + 2) (s.heap.objs.size + 3) .none → IsPair h' (s.heap.objs.size + 2) (.ref s.heap.objs.size) (.ref (s.heap.objs.size + 1)) →
      IsPair h' (s.heap.objs.size + 3) .none .none → At h' s.heap.objs.size x t 0 → At h' (s.heap.objs.size + 1) y u 0 → h'.objs.size = s.heap.objs.size + 5 →
      (∀ q o, s.heap.get? q = some o → h'.get? q = some o) → Q (.ref (s.heap.objs.size + 4)) { s with heap := h' }) :
    wpAny (model prog w) A (call (.type "zip") [.str x t, .str y u]) Q E s := by
  refine callType_new F.called_zip (by decide) (F.typeCall_zip_2 _ _) (F.newCall_zip_2 _ _) (fun obj => F.args_object_init_3 obj _ _) F.entry_zip_new (made x t y u) ?_
  have n1 : (g1 s.heap x t).objs.size = s.heap.objs.size + 1 := Heap.size_push ..
  have n2 : (g2 s.heap x t y u).objs.size = s.heap.objs.size + 2 := by rw [Heap.size_push, n1]
  have n3 : (g3 s.heap x t y u).objs.size = s.heap.objs.size + 3 := by rw [Heap.size_push, n2]
  have n4 : (g4 s.heap x t y u).objs.size = s.heap.objs.size + 4 := by rw [Heap.size_push, n3]
  have n5 : (g5 s.heap x t y u).objs.size = s.heap.objs.size + 5 := by rw [Heap.size_push, n4]
  have q5 : (g5 s.heap x t y u).get? (g4 s.heap x t y u).objs.size = some _ := Heap.get?_push_size _ rfl
  have q4 : (g5 s.heap x t y u).get? (g3 s.heap x t y u).objs.size = some _ := Heap.get?_push_of_some _ (Heap.get?_push_size _ rfl)
  have q3 : (g5 s.heap x t y u).get? (g2 s.heap x t y u).objs.size = some _ := Heap.get?_push_of_some _ (Heap.get?_push_of_some _ (Heap.get?_push_size _ rfl))
  have q2 : (g5 s.heap x t y u).get? (g1 s.heap x t).objs.size = some _ := Heap.get?_push_of_some _ (Heap.get?_push_of_some _ (Heap.get?_push_of_some _ (Heap.get?_push_size _ rfl)))
  have q1 : (g5 s.heap x t y u).get? s.heap.objs.size = some _ := Heap.get?_push_of_some _ (Heap.get?_push_of_some _ (Heap.get?_push_of_some _ (Heap.get?_push_of_some _ (Heap.get?_push_size _ rfl))))
  show _ ∧ _
  rw [n2, n3, n4] at q5
  rw [n1, n2] at q3
  rw [n3] at q4
  rw [n1] at q2
  rw [n4]
  exact ⟨⟨_, q5, rfl⟩, h _ q5 q3 q4 ⟨_, q1, rfl, rfl⟩ ⟨_, q2, rfl, rfl⟩ n5 fun q o x =>
    Heap.get?_push_of_some _ (Heap.get?_push_of_some _ (Heap.get?_push_of_some _ (Heap.get?_push_of_some _ (Heap.get?_push_of_some _ x))))⟩
end
/-! ### the walk -/
/-- two texts, sign by sign, in new pairs -/
def Ist (X Y : Str) : It :=
  ⟨fun i _ => i < X.cps.size ∧ i < Y.cps.size,
    fun i H v H' => ∃ T c d, v = .ref T ∧ H T = none ∧ H' = upd H T (.tup [.str ⟨#[c]⟩, .str ⟨#[d]⟩]) ∧ X.cps[i]? = some c ∧ Y.cps[i]? = some d,
    fun i _ => X.cps.size ≤ i ∨ Y.cps.size ≤ i⟩
theorem turn {P : Program} {w : World} {K : PySem.W.Frag} {elts : List Expr} {kk : Nat} {tpos : Pos} {z TI TO i1 i2 : Addr} {X Y : Str} {t u : Tok} (D : Ap z TI TO i1 i2) :
    Turn P w K (.Tuple elts kk tpos) (Ist X Y) [z, TI, TO, i1, i2] z (fun i h => IsZip h z TI TO .none ∧ IsPair h TI (.ref i1) (.ref i2) ∧ (∃ x y, IsPair h TO x y) ∧ At h i1 X t i ∧ At h i2 Y u i) where
  mem := by simp
  obj := fun i h st c hc => by
    obtain ⟨hz, hTI, ⟨x, y, hTO⟩, ⟨o1, e1, _, d1⟩, ⟨o2, e2, _, d2⟩⟩ := st
    have e' : c = z ∨ c = TI ∨ c = TO ∨ c = i1 ∨ c = i2 := by simpa using hc
    rcases e' with q | q | q | q | q
    · rw [q]; exact ⟨_, hz, fun v q => nomatch q⟩
    · rw [q]; exact ⟨_, hTI, fun v q => nomatch q⟩
    · rw [q]; exact ⟨_, hTO, fun v q => nomatch q⟩
    · rw [q]; exact ⟨o1, e1, fun v q => by rw [d1] at q; cases q⟩
    · rw [q]; exact ⟨o2, e2, fun v q => by rw [d2] at q; cases q⟩
  keep := fun i h h' st k => by
    obtain ⟨hz, hTI, ⟨x, y, hTO⟩, ⟨o1, e1, r1⟩, ⟨o2, e2, r2⟩⟩ := st
    exact ⟨k z (by simp) _ hz, k TI (by simp) _ hTI, ⟨x, y, k TO (by simp) _ hTO⟩, ⟨o1, k i1 (by simp) _ e1, r1⟩, ⟨o2, k i2 (by simp) _ e2, r2⟩⟩
  item := by
    intro X' hP hw hK hc i pins s σ H E I hf st hg
    subst hP hw hK
    obtain ⟨hz, hTI, ⟨x0, y0, hTO⟩, h1, h2⟩ := st
    obtain ⟨l1, l2⟩ := hg
    have hzl : z < s.heap.objs.size := Heap.lt_size hz
    refine next_item D hz hTI hTO h1 h2 (Array.getElem?_eq_getElem l1) (Array.getElem?_eq_getElem l2) fun h' u1 u2 z' TO' h1' h2' hT hsz hk => ?_
    refine ⟨_, rfl, wpAny_letOwnedTupleGo_zip (s := { s with heap := h', toks := s.toks + 1 + 1 }) z' fun h'' z'' sb => ?_⟩
    replace sb : Heap.SameBut z h' h'' := sb
    have hT2 : IsPair h'' s.heap.objs.size (.str ⟨#[X.cps[i]]⟩ u1) (.str ⟨#[Y.cps[i]]⟩ u2) := (sb.2 _ (Nat.ne_of_gt hzl)).trans hT
    have new : ObjOk X'.prog X'.w (upd H s.heap.objs.size (.tup [.str ⟨#[X.cps[i]]⟩, .str ⟨#[Y.cps[i]]⟩])) h'' s.heap.objs.size (.tup [.str ⟨#[X.cps[i]]⟩, .str ⟨#[Y.cps[i]]⟩]) :=
      ⟨by show 2 ≤ sizeLine; decide, [_, _], .cons ⟨_, rfl⟩ (.cons ⟨_, rfl⟩ .nil), ⟨_, hT2, rfl, _, rfl⟩⟩
    have I1 : Inv X' pins σ (upd H s.heap.objs.size (.tup [.str ⟨#[X.cps[i]]⟩, .str ⟨#[Y.cps[i]]⟩])) { s with heap := h'', toks := s.toks + 1 + 1 } :=
      I.turnedNew (t' := s.toks + 1 + 1) (ch := [z, TI, TO, i1, i2]) (fun c o hb q => (sb.2 c (fun q' => hb (by simp [q']))).trans (hk c o (fun q' => hb (by simp [q'])) (fun q' => hb (by simp [q'])) (fun q' => hb (by simp [q'])) (fun q' => hb (by simp [q'])) q)) hf (Nat.le_refl _) new
    obtain ⟨w1, e1, r1⟩ := h1'
    obtain ⟨w2, e2, r2⟩ := h2'
    refine ⟨.ref s.heap.objs.size, _, I1, rfl, ⟨_, _, _, rfl, I.hok.fresh (Nat.le_refl _), rfl, Array.getElem?_eq_getElem l1, Array.getElem?_eq_getElem l2⟩, ⟨z'', ?_, ⟨.str ⟨#[X.cps[i]]⟩ u1, .str ⟨#[Y.cps[i]]⟩ u2, ?_⟩, ?_, ?_⟩, fun c hcm => ?_⟩
    · exact (sb.2 _ D.a).trans (hk _ _ D.a D.e D.f D.g hTI)
    · exact (sb.2 _ D.b).trans TO'
    · exact ⟨w1, (sb.2 _ D.c).trans e1, r1⟩
    · exact ⟨w2, (sb.2 _ D.d).trans e2, r2⟩
    · have hlt : c < s.heap.objs.size := by
        have e' : c = z ∨ c = TI ∨ c = TO ∨ c = i1 ∨ c = i2 := by simpa using hcm
        rcases e' with q | q | q | q | q
        · rw [q]; exact hzl
        · rw [q]; exact Heap.lt_size hTI
        · rw [q]; exact Heap.lt_size hTO
        · rw [q]; obtain ⟨_, e1, _⟩ := h1; exact Heap.lt_size e1
        · rw [q]; obtain ⟨_, e2, _⟩ := h2; exact Heap.lt_size e2
      rw [upd_ne (Nat.ne_of_lt hlt)]
      exact (hf c hcm).1
  done := by
    intro X' hP hw hK hc i pins s σ H E I hf st hg
    subst hP hw hK
    obtain ⟨hz, hTI, ⟨x0, y0, hTO⟩, h1, h2⟩ := st
    have he : X.cps[i]? = none ∨ Y.cps[i]? = none := by
      rcases hg with q | q
      · exact .inl (Array.getElem?_eq_none q)
      · exact .inr (Array.getElem?_eq_none q)
    exact next_stop (I.ok.hd hc) D hz hTI hTO h1 h2 he fun h' tk hk => ⟨rfl, I.turnedL (t' := tk) (ch := [z, TI, TO, i1, i2]) (fun c o hb q =>
      hk c o (fun q' => hb (by simp [q'])) (fun q' => hb (by simp [q'])) (fun q' => hb (by simp [q'])) (fun q' => hb (by simp [q'])) q) hf⟩
  self := fun A i s Q E st h => wpAny_pyIter_zip st.1 h
/-- zip of two lists, two tuples or two texts -/
def iZipB (K : PySem.W.Frag) (ta : TA) : TI := fun σ H R => ta σ H fun vs H1 =>
  (∃ a b xs ys, vs = [.ref a, .ref b] ∧ ((SqL K H1 a xs ∧ SqL K H1 b ys ∧ R (Itz K a b) H1) ∨ (SqT K H1 a xs ∧ SqT K H1 b ys ∧ R (RZ.ItzT K a b) H1))) ∨
  (∃ x y, vs = [.str x, .str y] ∧ R (Ist x y) H1)
theorem pi_zipB {X : Cx} {e e2 : Expr} {ta : TA} {p pos tpos : Pos} {elts : List Expr} {kk : Nat} (hg : Gl X "zip") (hm : X.mg "zip" = none) (ha : PA X [e, e2] ta)
    (hs : starEach [e, e2] X.env = (false, eval e X.env) :: starEach [e2] X.env := by rfl) (hpl : (backTo pos (starEach [e2] X.env)).any (·.1) = false := by rfl) :
    PI X (.Tuple elts kk tpos) (.Call (.Name "zip" p) [e, e2] [] pos) (iZipB X.K ta) := by
  refine ⟨fun pins s σ H R I h => ?_⟩
  refine Call_ (ld_blt I hg hm PyProof.Rows.boot_zip (PyProof.Rows.callWith_type1 (thn (ha.run pos pins s σ H _ I h) fun us s1 ⟨vs, H1, I1, r1, q1⟩ => ?_) hs hpl))
  have fresh5 : ∀ c, c ∈ [s1.heap.objs.size + 4, s1.heap.objs.size + 2, s1.heap.objs.size + 3, s1.heap.objs.size, s1.heap.objs.size + 1] → FpOk X pins H1 c := fun c hcm => by
    have e' : c = s1.heap.objs.size + 4 ∨ c = s1.heap.objs.size + 2 ∨ c = s1.heap.objs.size + 3 ∨ c = s1.heap.objs.size ∨ c = s1.heap.objs.size + 1 := by simpa using hcm
    have hle : s1.heap.objs.size ≤ c := by
      rcases e' with z | z | z | z | z
      · rw [z]; exact Nat.le_add_right _ _
      · rw [z]; exact Nat.le_add_right _ _
      · rw [z]; exact Nat.le_add_right _ _
      · rw [z]; exact Nat.le_refl _
      · rw [z]; exact Nat.le_add_right _ _
    exact I1.fpOk hle (I1.hok.fresh hle)
  rcases q1 with ⟨a, b, xs, ys, ex, q1⟩ | ⟨x, y, ex, q1⟩
  · subst ex
    cases r1 with
    | cons r rr =>
      cases rr with
      | cons r' rr =>
        cases rr
        cases r
        cases r'
        rcases q1 with ⟨hqx, hqy, q⟩ | ⟨hqx, hqy, q⟩
        · obtain ⟨its, rv, p1, _⟩ := I1.list hqx
          obtain ⟨its2, rv2, p2, _⟩ := I1.list hqy
          refine call_zip_2 p1.isList p2.isList fun h' hz hTI hTO h1 h2 hsz hk => wpAny_pyIter_zip hz ?_
          have I2 : Inv X pins σ H1 { s1 with heap := h' } := I1.kept (t' := s1.toks) hk
          exact ⟨s1.heap.objs.size + 4, [s1.heap.objs.size + 4, s1.heap.objs.size + 2, s1.heap.objs.size + 3, s1.heap.objs.size, s1.heap.objs.size + 1], _, _, H1, rfl, I2, turn_zip (PySem.W.ktu_apart s1.heap.objs.size a b p1.lt p2.lt), ⟨hz, hTI, ⟨_, _, hTO⟩, h1, h2⟩, fresh5, q⟩
        · obtain ⟨its, rv, p1, _⟩ := I1.tuple hqx
          obtain ⟨its2, rv2, p2, _⟩ := I1.tuple hqy
          obtain ⟨o1, ho1, _⟩ := id p1
          obtain ⟨o2, ho2, _⟩ := id p2
          refine RZ.call_zipT (show s1.heap.IsTuple a its.toArray from p1) (show s1.heap.IsTuple b its2.toArray from p2) fun h' hz hTI hTO h1 h2 hsz hk => wpAny_pyIter_zip hz ?_
          have I2 : Inv X pins σ H1 { s1 with heap := h' } := I1.kept (t' := s1.toks) hk
          exact ⟨s1.heap.objs.size + 4, [s1.heap.objs.size + 4, s1.heap.objs.size + 2, s1.heap.objs.size + 3, s1.heap.objs.size, s1.heap.objs.size + 1], _, _, H1, rfl, I2, RZ.turn_zipT (PySem.W.ktu_apart s1.heap.objs.size a b (Heap.lt_size ho1) (Heap.lt_size ho2)), ⟨hz, hTI, ⟨_, _, hTO⟩, h1, h2⟩, fresh5, q⟩
  · subst ex
    cases r1 with
    | cons r rr =>
      cases rr with
      | cons r' rr =>
        cases rr
        obtain ⟨k, rfl⟩ := r
        obtain ⟨l, rfl⟩ := r'
        refine make fun h' hz hTI hTO h1 h2 hsz hk => wpAny_pyIter_zip hz ?_
        have I2 : Inv X pins σ H1 { s1 with heap := h' } := I1.kept (t' := s1.toks) hk
        refine ⟨s1.heap.objs.size + 4, [s1.heap.objs.size + 4, s1.heap.objs.size + 2, s1.heap.objs.size + 3, s1.heap.objs.size, s1.heap.objs.size + 1], _, _, H1, rfl, I2, turn (t := k) (u := l) ?_, ⟨hz, hTI, ⟨_, _, hTO⟩, h1, h2⟩, fresh5, q1⟩
        constructor <;> exact fun e => by have e' : @Eq Nat _ _ := e; omega
end Mini.ZS

set_option maxHeartbeats 1000000
/-! Mini, part ld: a small whole number formatted with ">4". -/
namespace Mini.FS
open PySem Builtin Float PyProof.Rows
def spec4 : FormatSpec := { fill := 32, align := 62, width := some 4 }
theorem parse4 : parseFormatSpec (">4" : Str).cps.toList "int" 62 = .ok spec4 := by rfl
section
variable {prog : Program} {w : World} {A : Around} {E : Value → Shared → Prop} {s : Shared}
theorem fmt4 {a : Int} {t : Tok} {Q : Value → Shared → Prop} (hd : a.natAbs.log2 < 1920) (hlen : (intSpecText spec4 a).length ≤ sizeLine)
    (h : Q (.str (intSpecText spec4 a) (s.toks + 1)) { s with toks := s.toks + 1 + 1 }) :
    wpAny (model prog w) A (formatField (.int a t) ">4") Q E s := by
  have hne : (Str.length ">4" == 0) = false := by decide
  have hasc : (((">4" : Str).cps.toList.drop 1).any (· ≥ 128) || ((">4" : Str).cps.getD 0 0 ≥ 128 && !([60, 62, 61, 94] : List Nat).contains ((">4" : Str).cps.getD 1 0))) = false := by decide
  have hp := parse4
  have hty : spec4.type.getD (if (">4" : Str).cps.back? == some 0 then 0 else 100) = 100 := by decide
  have hpr : spec4.precision = none := rfl
  have hz : spec4.noNeg0 = false := rfl
  have hal : spec4.alt = false := rfl
  have hgr : spec4.grouping = none := rfl
  have hsg : spec4.sign = none := rfl
  have hw : spec4.width.getD 0 ≤ 100000 := by decide
  obtain ⟨f, hf⟩ : ∃ f, f = spec4 := ⟨_, rfl⟩
  rw [← hf] at hp hty hpr hz hal hgr hsg hw hlen h
  clear hf
  obtain ⟨spec, hs⟩ : ∃ x : Str, x = ">4" := ⟨_, rfl⟩
  have hsz : spec.length ≤ sizeLine := by rw [hs]; decide
  rw [← hs] at hp hty hne hasc ⊢
  clear hs
  show wpAny _ _ (holding [.int a t] (pyFormat (.int a t) spec)) Q E s
  refine wpAny_holding ?_
  unfold pyFormat
  refine wpAny_bind (wpAny_mkStr ?_ hsz)
  refine wpAny_bind (m := callSpecial? (.int a t) (Str.ofString "__format__") [.str spec s.toks]) (wpAny_callSpecial?_slot (name := Str.ofString "__format__") (typeIs_int _ a t) F.slot_int_format ?_)
  refine wpAny_call (codeAny_call_builtin F.slot_int_format.plain F.entry_int_format (F.slot_int_format.check _ _ _ _ _ _ _ _ (typeIs_int _ a t) (F.args_int_format_2 _ _) ?_))
  unfold Builtin.«int.__format__»
  simp only [selfAndOne, noKeywords, Int.intOfSelf, asInt?, asStr?, List.isEmpty_nil, if_true, pure_bind, bind_pure, bind_assoc, hne, hasc, Bool.false_eq_true, if_false,
    show (Value.str spec s.toks == Value.none) = false from rfl]
  refine wpAny_bind (wpAny_typeNameOf (T := "str") (typeIs_str _ _ _) (by decide) fun _ => ?_)
  first | refine wpAny_bind (wpAny_typeNameOfCut_int ?_) | refine wpAny_bind (wpAny_typeNameOf_int ?_)
  simp only [hp, hty]
  rw [if_pos (by decide)]
  show wpAny _ _ (if _ then _ else _) _ _ _
  rw [if_neg (by simp [hpr])]
  show wpAny _ _ (if _ then _ else _) _ _ _
  rw [if_neg (by simp [hz])]
  show wpAny _ _ (if _ then _ else _) _ _ _
  rw [if_neg (by decide)]
  show wpAny _ _ (do let r ← Builtin.overDigitLimit? a; _) _ _ _
  rw [PyProof.Rows.overDigitLimit_small hd]
  refine wpAny_bind (wpAny_pure ?_)
  show wpAny _ _ (if _ then _ else _) _ _ _
  have hw' : ¬ (f.width.getD 0 > 100000) := by omega
  rw [if_neg (by simpa using hw')]
  show wpAny _ _ (retStr _) _ _ _
  unfold retStr
  refine wpAny_bind (wpAny_mkStr (wpAny_pure ?_) ?hs2)
  case hs2 =>
    simp only [hal, Bool.false_eq_true, if_false, show ((10 : Nat) == 10) = true by decide, if_true]
    conv => lhs; arg 1; whnf
    unfold intSpecText at hlen
    simp only [intField', hgr, hsg, hal, Bool.false_eq_true, if_false, show ((10 : Nat) == 10) = true by decide, if_true] at hlen ⊢
    exact hlen
  dsimp only
  refine wpAny_bind (wpAny_isInstance (typeIs_str _ _ _) isSubtype_str_str (wpAny_pure ?_))
  simp only [hal, Bool.false_eq_true, if_false, show ((10 : Nat) == 10) = true by decide, if_true]
  conv => arg 1; arg 1; whnf
  unfold intSpecText at h
  simp only [intField', hgr, hsg, hal, Bool.false_eq_true, if_false, show ((10 : Nat) == 10) = true by decide, if_true] at h ⊢
  exact h
end
/-- what it reads -/
def pad4 (ds : List Nat) : List Nat := List.replicate (4 - ds.length) 32 ++ ds
theorem text4 {a : Int} (h : 0 ≤ a) : intSpecText spec4 a = ⟨(pad4 ((Nat.toDigits 10 a.natAbs).map Char.toNat)).toArray⟩ := by
  unfold intSpecText
  have hneg : decide (a < 0) = false := decide_eq_false (by omega)
  rw [hneg]
  have e : ((Nat.toDigits 10 a.natAbs).map fun c => (if (100 : Nat) == 88 then c.toUpper else c).toNat) = (Nat.toDigits 10 a.natAbs).map Char.toNat := by
    apply List.map_congr_left
    intro c _
    rfl
  rw [e]
  generalize (Nat.toDigits 10 a.natAbs).map Char.toNat = ds
  have hr : intField' spec4 false [] ds [] 3 = ⟨(List.replicate ((4 : Int) - 0 - ((if ds.isEmpty then [] else List.replicate (0 - ds.length) 48 ++ ds).length : Nat)).toNat 32 ++ [] ++ [] ++ List.replicate 0 32 ++ (if ds.isEmpty then [] else List.replicate (0 - ds.length) 48 ++ ds) ++ [] ++ List.replicate 0 32).toArray⟩ := rfl
  rw [hr]
  have e2 : (if ds.isEmpty then [] else List.replicate (0 - ds.length) 48 ++ ds) = ds := by
    cases ds with
    | nil => rfl
    | cons d ds => simp
  rw [e2]
  unfold pad4
  have e3 : ((4 : Int) - 0 - (ds.length : Nat)).toNat = 4 - ds.length := by omega
  rw [e3]
  simp
end Mini.FS

/-! Mini, part l: what is walked; targets; comprehensions. -/
namespace Mini
open PySem PySem.Spec PyProof.Rows L2

/-- the layer's walk J yields the values xs, while what w tells stays -/
structure Wlk (K : PySem.W.Frag) (J : It) (xs : List D) (w : Wk) (ρ0 : Rho) (M0 : Mem) (H0 : Hp) : Prop where
  go : ∀ (i : Nat) (ρ : Rho) (M : Mem) (H : Hp) (d : D), MemOk K ρ M H → Lw (hd ρ0 M0 H0) (hd ρ M H) ρ0 ρ → stays w M = true → xs[i]? = some d →
    J.go i H ∧ ∀ x H', J.yld i H x H' → MemOk K ρ M H' ∧ Le (hd ρ M H) (hd ρ M H') ρ ρ ∧ RelD K (hd ρ M H') ρ d x
  stop : ∀ (i : Nat) (ρ : Rho) (M : Mem) (H : Hp), MemOk K ρ M H → Lw (hd ρ0 M0 H0) (hd ρ M H) ρ0 ρ → stays w M = true → xs.length ≤ i → J.stop i H
section
variable {K : PySem.W.Frag} {ρ0 ρ : Rho} {M0 M : Mem} {H0 H : Hp}
theorem stays_at {w : Wk} {z : D × List D} (h : stays w M = true) (hz : z ∈ w) : seqD M z.1 = some z.2 ∨ (seqD M z.1 = none ∧ tupD z.1 = some z.2) := by
  unfold stays at h
  simp only [decide_eq_true_eq] at h
  exact h z hz
theorem seq_tup {d : D} {xs ys : List D} (h : seqD M d = some xs) (h2 : tupD d = some ys) : False := by
  cases d with
  | p x => cases x <;> first | (cases h; done) | (cases h2; done)
  | ref _ => cases h2
  | tr _ => cases h
theorem rel_ref {G : Hp} {d : D} {v w : V} (m : RelD K G ρ d v) (n : RelD K G ρ d w) : True := trivial
theorem wlk_list {x : D} {xs : List D} {a : Addr} (r : RelD K (hd ρ0 M0 H0) ρ0 x (.ref a)) (h : seqD M0 x = some xs) {w : Wk} (hw : (x, xs) ∈ w) : Wlk K (Itl K a) xs w ρ0 M0 H0 := by
  have here : ∀ (ρ : Rho) (M : Mem) (H : Hp), MemOk K ρ M H → Lw (hd ρ0 M0 H0) (hd ρ M H) ρ0 ρ → stays w M = true → ∃ vs, SqL K H a vs ∧ RelDs K (hd ρ M H) ρ xs vs := fun ρ M H m le st => by
    rcases stays_at st hw with e | ⟨_, e⟩
    · obtain ⟨b, vs, q, s, rr⟩ := seq_ok m (r.monoW le) e
      cases q
      exact ⟨vs, s, rr⟩
    · exact (seq_tup h e).elim
  refine ⟨fun i ρ M H d m le st hi => ?_, fun i ρ M H m le st hi => ?_⟩
  · obtain ⟨vs, s, rr⟩ := here ρ M H m le st
    obtain ⟨v, h1, h2⟩ := rr.get hi
    refine ⟨⟨vs, v, s, h1⟩, fun x' H' ⟨e, hy⟩ => ?_⟩
    subst e
    have := hy vs s
    rw [h1] at this
    cases this
    exact ⟨m, Le.refl _ _, h2⟩
  · obtain ⟨vs, s, rr⟩ := here ρ M H m le st
    exact ⟨vs, s, by rw [← rr.length]; exact hi⟩
theorem wlk_tup {x : D} {xs : List D} {a : Addr} (r : RelD K (hd ρ0 M0 H0) ρ0 x (.ref a)) (h : tupD x = some xs) {w : Wk} : Wlk K (Itt K a) xs w ρ0 M0 H0 := by
  have here : ∀ (ρ : Rho) (M : Mem) (H : Hp), MemOk K ρ M H → Lw (hd ρ0 M0 H0) (hd ρ M H) ρ0 ρ → ∃ vs, SqT K H a vs ∧ RelDs K (hd ρ M H) ρ xs vs := fun ρ M H m le => by
    obtain ⟨b, vs, q, s, rr⟩ := tup_ok (r.monoW le) h
    cases q
    exact ⟨vs, s, rr⟩
  refine ⟨fun i ρ M H d m le st hi => ?_, fun i ρ M H m le st hi => ?_⟩
  · obtain ⟨vs, s, rr⟩ := here ρ M H m le
    obtain ⟨v, h1, h2⟩ := rr.get hi
    refine ⟨⟨vs, v, s, h1⟩, fun x' H' ⟨e, hy⟩ => ?_⟩
    subst e
    have := hy vs s
    rw [h1] at this
    cases this
    exact ⟨m, Le.refl _ _, h2⟩
  · obtain ⟨vs, s, rr⟩ := here ρ M H m le
    exact ⟨vs, s, by rw [← rr.length]; exact hi⟩
theorem wlk_str {z : Str} {w : Wk} : Wlk K (Its z) (z.cps.toList.map fun c => .p (.str ⟨#[c]⟩)) w ρ0 M0 H0 := by
  refine ⟨fun i ρ M H d m le st hi => ?_, fun i ρ M H m le st hi => ?_⟩
  · rw [List.getElem?_map] at hi
    cases e : z.cps.toList[i]? with
    | none => rw [e] at hi; cases hi
    | some c =>
      rw [e] at hi
      cases hi
      have h1 : i < z.cps.toList.length := (List.getElem?_eq_some_iff.mp e).1
      refine ⟨(by simpa using h1 : i < z.cps.size), fun x' H' ⟨e1, c', h2, h3⟩ => ?_⟩
      subst e1
      have h4 : z.cps[i]? = some c := by rw [← Array.getElem?_toList]; exact e
      rw [h4] at h2
      cases h2
      rw [h3]
      exact ⟨m, Le.refl _ _, Pr (.str _)⟩
  · show z.cps.size ≤ i
    simpa using hi
theorem wlk_rng {lo : Int} {n : Nat} {w : Wk} : Wlk K (Itr lo n) (rngD lo n) w ρ0 M0 H0 := by
  refine ⟨fun i ρ M H d m le st hi => ?_, fun i ρ M H m le st hi => ?_⟩
  · unfold rngD at hi
    rw [List.getElem?_map] at hi
    cases e : (List.range n)[i]? with
    | none => rw [e] at hi; cases hi
    | some c =>
      rw [e] at hi
      cases hi
      have h1 : i < n := by
        have := (List.getElem?_eq_some_iff.mp e).1
        simpa using this
      rw [List.getElem?_range h1] at e
      cases e
      refine ⟨h1, fun x' H' ⟨e1, h2⟩ => ?_⟩
      subst e1
      rw [h2]
      exact ⟨m, Le.refl _ _, Pr (.int _)⟩
  · unfold rngD at hi
    show n ≤ i
    simpa using hi
theorem enu_get : ∀ {xs : List D} {n i : Nat} {d : D}, (enuD n xs)[i]? = some d → ∃ x, xs[i]? = some x ∧ d = mkT [.p (.int ((n + i : Nat) : Int)), x]
  | [], n, i, d, h => by simp [enuD] at h
  | x :: xs, n, 0, d, h => by
    have e : mkT [.p (.int n), x] = d := by simpa [enuD] using h
    exact ⟨x, rfl, e.symm⟩
  | x :: xs, n, i + 1, d, h => by
    obtain ⟨y, h1, h2⟩ := enu_get (xs := xs) (n := n + 1) (i := i) (d := d) (by simpa [enuD] using h)
    exact ⟨y, by simpa using h1, by rw [h2]; congr 4; omega⟩
theorem enu_len : ∀ (xs : List D) (n : Nat), (enuD n xs).length = xs.length
  | [], _ => rfl
  | _ :: xs, n => by simp [enuD, enu_len xs (n + 1)]
theorem zip_get : ∀ {xs ys : List D} {i : Nat} {d : D}, (zipD xs ys)[i]? = some d → ∃ x y, xs[i]? = some x ∧ ys[i]? = some y ∧ d = mkT [x, y]
  | x :: xs, y :: ys, 0, d, h => by
    have e : mkT [x, y] = d := by simpa [zipD] using h
    exact ⟨x, y, rfl, rfl, e.symm⟩
  | x :: xs, y :: ys, i + 1, d, h => by
    obtain ⟨a, b, h1, h2, h3⟩ := zip_get (xs := xs) (ys := ys) (i := i) (d := d) (by simpa [zipD] using h)
    exact ⟨a, b, by simpa using h1, by simpa using h2, h3⟩
  | [], ys, i, d, h => by cases ys <;> simp [zipD] at h
  | _ :: _, [], i, d, h => by simp [zipD] at h
theorem zip_len : ∀ (xs ys : List D), (zipD xs ys).length = min xs.length ys.length
  | [], ys => by cases ys <;> simp [zipD]
  | _ :: _, [] => by simp [zipD]
  | _ :: xs, _ :: ys => by simp only [zipD, List.length_cons, zip_len xs ys]; omega
/-- a fresh tuple at T -/
theorem tup_new (m : MemOk K ρ M H) {xs : List D} {vs : List V} (r : RelDs K (hd ρ M H) ρ xs vs) {p : Addr} (hp : H p = none) :
    MemOk K ρ M (upd H p (.tup vs)) ∧ Le (hd ρ M H) (hd ρ M (upd H p (.tup vs))) ρ ρ ∧ RelD K (hd ρ M (upd H p (.tup vs))) ρ (mkT xs) (.ref p) := by
  obtain ⟨x, le, q⟩ := m.frozen (o := .tup vs) hp
  refine ⟨x, le, ?_⟩
  exact mkT_ok (Q := fun v H' => v = .ref p → H' = upd H p (.tup vs) → RelD K (hd ρ M (upd H p (.tup vs))) ρ (mkT xs) (.ref p)) m r
    (fun v ρ' H' x' le' rr e1 e2 => by
      subst e1 e2
      unfold mkT at rr ⊢
      cases e : pAll xs with
      | none => unfold RelD; exact ⟨p, vs, rfl, .inl (.inl q), r.mono le⟩
      | some ds =>
        rw [pAll_eq e] at r
        exact Pr (.tup (.inl (.inl q)) (relDs_p.mp (r.mono le)))) hp rfl rfl
theorem wlk_enu {x : D} {xs : List D} {a : Addr} (r : RelD K (hd ρ0 M0 H0) ρ0 x (.ref a)) (h : seqD M0 x = some xs) : Wlk K (Ite K a) (enuD 0 xs) [(x, xs)] ρ0 M0 H0 := by
  have here : ∀ (ρ : Rho) (M : Mem) (H : Hp), MemOk K ρ M H → Lw (hd ρ0 M0 H0) (hd ρ M H) ρ0 ρ → stays [(x, xs)] M = true → ∃ vs, SqL K H a vs ∧ RelDs K (hd ρ M H) ρ xs vs := fun ρ M H m le st => by
    rcases stays_at st List.mem_cons_self with e | ⟨_, e⟩
    · obtain ⟨b, vs, q, s, rr⟩ := seq_ok m (r.monoW le) e
      cases q
      exact ⟨vs, s, rr⟩
    · exact (seq_tup h e).elim
  refine ⟨fun i ρ M H d m le st hi => ?_, fun i ρ M H m le st hi => ?_⟩
  · obtain ⟨vs, s, rr⟩ := here ρ M H m le st
    obtain ⟨y, hy, rfl⟩ := enu_get hi
    obtain ⟨v, h1, h2⟩ := rr.get hy
    refine ⟨⟨vs, v, s, h1⟩, fun x' H' ⟨T, z, e1, e2, e3, hz⟩ => ?_⟩
    have := hz vs s
    rw [h1] at this
    cases this
    subst e1 e3
    rw [Nat.zero_add]
    exact tup_new m (RelDs.cons (Pr (.int _)) (RelDs.cons h2 RelDs.nil)) e2
  · obtain ⟨vs, s, rr⟩ := here ρ M H m le st
    rw [enu_len] at hi
    exact ⟨vs, s, by rw [← rr.length]; exact hi⟩
theorem wlk_zip {x y : D} {xs ys : List D} {a b : Addr} (r : RelD K (hd ρ0 M0 H0) ρ0 x (.ref a)) (h : seqD M0 x = some xs) (r2 : RelD K (hd ρ0 M0 H0) ρ0 y (.ref b)) (h2 : seqD M0 y = some ys) : Wlk K (Itz K a b) (zipD xs ys) [(x, xs), (y, ys)] ρ0 M0 H0 := by
  have here : ∀ (ρ : Rho) (M : Mem) (H : Hp) (z : D) (zs : List D) (c : Addr), RelD K (hd ρ0 M0 H0) ρ0 z (.ref c) → seqD M0 z = some zs → (z, zs) ∈ [(x, xs), (y, ys)] → MemOk K ρ M H → Lw (hd ρ0 M0 H0) (hd ρ M H) ρ0 ρ → stays [(x, xs), (y, ys)] M = true → ∃ vs, SqL K H c vs ∧ RelDs K (hd ρ M H) ρ zs vs := fun ρ M H z zs c rz hz hm m le st => by
    rcases stays_at st hm with e | ⟨_, e⟩
    · obtain ⟨b, vs, q, s, rr⟩ := seq_ok m (rz.monoW le) e
      cases q
      exact ⟨vs, s, rr⟩
    · exact (seq_tup hz e).elim
  refine ⟨fun i ρ M H d m le st hi => ?_, fun i ρ M H m le st hi => ?_⟩
  · obtain ⟨vs, s, rr⟩ := here ρ M H x xs a r h (by simp) m le st
    obtain ⟨ws, s2, rr2⟩ := here ρ M H y ys b r2 h2 (by simp) m le st
    obtain ⟨u, t, hu, ht, rfl⟩ := zip_get hi
    obtain ⟨v, h3, h4⟩ := rr.get hu
    obtain ⟨v2, h5, h6⟩ := rr2.get ht
    refine ⟨⟨vs, ws, v, v2, s, s2, h3, h5⟩, fun x' H' ⟨T, z1, z2, e1, e2, e3, hz, hz2⟩ => ?_⟩
    have q1 := hz vs s
    have q2 := hz2 ws s2
    rw [h3] at q1
    rw [h5] at q2
    cases q1; cases q2
    subst e1 e3
    exact tup_new m (RelDs.cons h4 (RelDs.cons h6 RelDs.nil)) e2
  · obtain ⟨vs, s, rr⟩ := here ρ M H x xs a r h (by simp) m le st
    obtain ⟨ws, s2, rr2⟩ := here ρ M H y ys b r2 h2 (by simp) m le st
    rw [zip_len] at hi
    refine ⟨vs, ws, s, s2, ?_⟩
    rw [← rr.length, ← rr2.length]
    omega
theorem wlk_zipT {x y : D} {xs ys : List D} {a b : Addr} (r : RelD K (hd ρ0 M0 H0) ρ0 x (.ref a)) (h : tupD x = some xs) (r2 : RelD K (hd ρ0 M0 H0) ρ0 y (.ref b)) (h2 : tupD y = some ys) {w : Wk} : Wlk K (RZ.ItzT K a b) (zipD xs ys) w ρ0 M0 H0 := by
  have here : ∀ (ρ : Rho) (M : Mem) (H : Hp) (z : D) (zs : List D) (c : Addr), RelD K (hd ρ0 M0 H0) ρ0 z (.ref c) → tupD z = some zs → MemOk K ρ M H → Lw (hd ρ0 M0 H0) (hd ρ M H) ρ0 ρ → ∃ vs, SqT K H c vs ∧ RelDs K (hd ρ M H) ρ zs vs := fun ρ M H z zs c rz hz m le => by
    obtain ⟨b, vs, q, s, rr⟩ := tup_ok (rz.monoW le) hz
    cases q
    exact ⟨vs, s, rr⟩
  refine ⟨fun i ρ M H d m le st hi => ?_, fun i ρ M H m le st hi => ?_⟩
  · obtain ⟨vs, s, rr⟩ := here ρ M H x xs a r h m le
    obtain ⟨ws, s2, rr2⟩ := here ρ M H y ys b r2 h2 m le
    obtain ⟨u, t, hu, ht, rfl⟩ := zip_get hi
    obtain ⟨v, h3, h4⟩ := rr.get hu
    obtain ⟨v2, h5, h6⟩ := rr2.get ht
    refine ⟨⟨vs, ws, v, v2, s, s2, h3, h5⟩, fun x' H' ⟨T, z1, z2, e1, e2, e3, hz, hz2⟩ => ?_⟩
    have q1 := hz vs s
    have q2 := hz2 ws s2
    rw [h3] at q1
    rw [h5] at q2
    cases q1; cases q2
    subst e1 e3
    exact tup_new m (RelDs.cons h4 (RelDs.cons h6 RelDs.nil)) e2
  · obtain ⟨vs, s, rr⟩ := here ρ M H x xs a r h m le
    obtain ⟨ws, s2, rr2⟩ := here ρ M H y ys b r2 h2 m le
    rw [zip_len] at hi
    refine ⟨vs, ws, s, s2, ?_⟩
    rw [← rr.length, ← rr2.length]
    omega
theorem wlk_zipS {x y : Str} {w : Wk} : Wlk K (ZS.Ist x y) (zipD (x.cps.toList.map fun c => .p (.str ⟨#[c]⟩)) (y.cps.toList.map fun c => .p (.str ⟨#[c]⟩))) w ρ0 M0 H0 := by
  refine ⟨fun i ρ M H d m le st hi => ?_, fun i ρ M H m le st hi => ?_⟩
  · obtain ⟨u, t, hu, ht, rfl⟩ := zip_get hi
    rw [List.getElem?_map, Option.map_eq_some_iff] at hu ht
    obtain ⟨c, hc, rfl⟩ := hu
    obtain ⟨e, he, rfl⟩ := ht
    rw [Array.getElem?_toList] at hc he
    have l1 : i < x.cps.size := by
      rcases Nat.lt_or_ge i x.cps.size with h | h
      · exact h
      · rw [Array.getElem?_eq_none h] at hc; cases hc
    have l2 : i < y.cps.size := by
      rcases Nat.lt_or_ge i y.cps.size with h | h
      · exact h
      · rw [Array.getElem?_eq_none h] at he; cases he
    refine ⟨⟨l1, l2⟩, fun x' H' ⟨T, p, q, e1, e2, e3, hz, hz2⟩ => ?_⟩
    rw [hc] at hz
    rw [he] at hz2
    cases hz; cases hz2
    subst e1 e3
    exact tup_new m (RelDs.cons (Pr (.str _)) (RelDs.cons (Pr (.str _)) RelDs.nil)) e2
  · rw [zip_len] at hi
    simp only [List.length_map, Array.length_toList] at hi
    show x.cps.size ≤ i ∨ y.cps.size ≤ i
    omega
end
/-! ### for .. in -/
def postI (K : PySem.W.Frag) (xc : Nat → Addr) (W : WX) (ρ : Rho) (M : Mem) (σ : L2.St) (H : Hp) (Rr : It → Hp → Prop) : R (List D × Wk) → Prop
  | .ok (xs, w) M' => ∀ J ρ' H', MemOk K ρ' M' H' → Le (hd ρ M H) (hd ρ' M' H') ρ ρ' → Wlk K J xs w ρ' M' H' → Rr J H'
  | .exc c M' => ∀ ρ' H', MemOk K ρ' M' H' → Le (hd ρ M H) (hd ρ' M' H') ρ ρ' → W (.ref (xc c)) none σ H'
  | .stuck => False
def rdI (K : PySem.W.Frag) (xc : Nat → Addr) (W : WX) (f : Lo → Mem → R (List D × Wk)) : TI := fun σ H Rr => ∃ ρ l M, Sim K ρ l M σ H ∧ postI K xc W ρ M σ H Rr (f l M)
theorem postI.le {K : PySem.W.Frag} {xc : Nat → Addr} {W : WX} {ρ ρ1 : Rho} {M M1 : Mem} {σ : L2.St} {H H1 : Hp} {Rr : It → Hp → Prop} {r : R (List D × Wk)} (h : postI K xc W ρ M σ H Rr r) (le : Le (hd ρ M H) (hd ρ1 M1 H1) ρ ρ1) : postI K xc W ρ1 M1 σ H1 Rr r := by
  cases r with
  | ok a m => exact fun J ρ' H' x k r => h J ρ' H' x (le.trans k) r
  | exc c m => exact fun ρ' H' x k => h ρ' H' x (le.trans k)
  | stuck => exact h
theorem runI {K : PySem.W.Frag} {xc : Nat → Addr} {W : WX} {ρ : Rho} {l : Lo} {M : Mem} {σ : L2.St} {H : Hp} {α β : Type} {Rel : Hp → Rho → α → β → Prop} {Rr : It → Hp → Prop} {f : Lo → Mem → R α} {g : α → Mem → R (List D × Wk)} (S : Sim K ρ l M σ H)
    (h : postI K xc W ρ M σ H Rr ((f l M).bind g)) :
    rd Rel K xc W f σ H fun x H1 => ∃ ρ1 M1 a, Sim K ρ1 l M1 σ H1 ∧ Rel (hd ρ1 M1 H1) ρ1 a x ∧ Le (hd ρ M H) (hd ρ1 M1 H1) ρ ρ1 ∧ postI K xc W ρ1 M1 σ H1 Rr (g a M1) := by
  refine ⟨ρ, l, M, S, ?_⟩
  cases e : f l M with
  | ok a m =>
    rw [e] at h
    exact fun v ρ' H' x k r => ⟨ρ', m, a, S.le x k, r, k, postI.le h k⟩
  | exc c m =>
    rw [e] at h
    exact h
  | stuck =>
    rw [e] at h
    exact h
section
variable {X : Cx} {xc : Nat → Addr} {W : WX}
theorem mi_ov {tg e : Expr} {fe : Lo → Mem → R D} (he : PE X e (rdE X.K xc W fe)) : PI X tg e (rdI X.K xc W fun l M => (fe l M).bind fun x M1 => walkR .ov [x] M1) := by
  refine ⟨fun pins s σ H Rr I ⟨ρ, l, M, S, h⟩ => ?_⟩
  have key := runI (Rel := RelD X.K) S h
  obtain ⟨ρ0, l0, M0, S0, h0⟩ := key
  cases e1 : fe l M with
  | stuck => simp only [e1] at h; exact h.elim
  | exc c m =>
    simp only [e1] at h
    have h : postI X.K xc W ρ M σ H Rr (.exc c m) := h
    exact (pi_list (tg := tg) he).run pins s σ H Rr I ⟨ρ, l, M, S, by rw [e1]; exact h⟩
  | ok d m =>
    simp only [e1] at h
    have h : postI X.K xc W ρ M σ H Rr (walkR .ov [d] m) := h
    unfold walkR walkD at h
    cases d with
    | ref k =>
      simp only [seqOrTup] at h
      cases e2 : seqD m (.ref k) with
      | none => simp only [e2, tupD, Option.map_none] at h; exact h.elim
      | some xs =>
        simp only [e2, Option.map_some] at h
        refine (pi_list (tg := tg) he).run pins s σ H Rr I ⟨ρ, l, M, S, ?_⟩
        rw [e1]
        intro v ρ' H' x' le r
        obtain ⟨a, vs, rfl, sa, _⟩ := seq_ok x' r e2
        exact ⟨a, rfl, ⟨vs, sa⟩, h _ ρ' H' x' le (wlk_list r e2 (by simp))⟩
    | tr ts =>
      simp only [seqOrTup, seqD, tupD, Option.map_some] at h
      refine (pi_tup (tg := tg) he).run pins s σ H Rr I ⟨ρ, l, M, S, ?_⟩
      rw [e1]
      intro v ρ' H' x' le r
      obtain ⟨a, vs, rfl, sa, _⟩ := tup_ok (xs := ts) r rfl
      exact ⟨a, rfl, ⟨vs, sa⟩, h _ ρ' H' x' le (wlk_tup (x := .tr ts) r rfl)⟩
    | p y =>
      cases y with
      | str z =>
        simp only at h
        split at h
        · rename_i r hz
          split at hz
          · cases hz
            refine (pi_str (tg := tg) he).run pins s σ H Rr I ⟨ρ, l, M, S, ?_⟩
            rw [e1]
            intro v ρ' H' x' le r
            cases relP r
            exact ⟨z, rfl, h _ ρ' H' x' le wlk_str⟩
          · cases hz
        · exact h.elim
      | list ds =>
        simp only [seqOrTup, seqD, Option.map_some] at h
        refine (pi_list (tg := tg) he).run pins s σ H Rr I ⟨ρ, l, M, S, ?_⟩
        rw [e1]
        intro v ρ' H' x' le r
        obtain ⟨a, vs, rfl, sa, _⟩ := seq_ok (xs := ds.map .p) x' r rfl
        exact ⟨a, rfl, ⟨vs, sa⟩, h _ ρ' H' x' le (wlk_list (x := .p (.list ds)) r rfl (by simp))⟩
      | tuple ds =>
        simp only [seqOrTup, seqD, tupD, Option.map_some] at h
        refine (pi_tup (tg := tg) he).run pins s σ H Rr I ⟨ρ, l, M, S, ?_⟩
        rw [e1]
        intro v ρ' H' x' le r
        obtain ⟨a, vs, rfl, sa, _⟩ := tup_ok (xs := ds.map .p) r rfl
        exact ⟨a, rfl, ⟨vs, sa⟩, h _ ρ' H' x' le (wlk_tup (x := .p (.tuple ds)) r rfl)⟩
      | none => simp only [seqOrTup, seqD, tupD, Option.map_none] at h; exact h.elim
      | bool _ => simp only [seqOrTup, seqD, tupD, Option.map_none] at h; exact h.elim
      | int _ => simp only [seqOrTup, seqD, tupD, Option.map_none] at h; exact h.elim
      | dict _ => simp only [seqOrTup, seqD, tupD, Option.map_none] at h; exact h.elim
end
end Mini

/-! Mini, part m: range, enumerate, zip; targets; comprehensions. -/
namespace Mini
open PySem PySem.Spec PyProof.Rows L2

section
variable {X : Cx} {xc : Nat → Addr} {W : WX}
theorem mi_rng1 {tg a : Expr} {p po : Pos} {pn pp : Nat} {fs : Lo → Mem → R (List D)} (hg : Gl X "range") (hm : X.mg "range" = none) (ha : PA X [a] (rdA X.K xc W fs)) (hs : starEach [a] X.env = [(false, eval a X.env)]) :
    PI X tg (.Call (.Name "range" p) [a] [] po) (rdI X.K xc W fun l M => (fs l M).bind fun ds M1 => if ds.length = 1 then walkR (.rng pn pp) ds M1 else .stuck) := by
  refine ⟨fun pins s σ H Rr I ⟨ρ, l, M, S, h⟩ => ?_⟩
  refine (pi_range1 (tg := tg) hg hm ha hs).run pins s σ H Rr I ?_
  obtain ⟨ρ0, l0, M0, S0, h0⟩ := runI (Rel := RelDs X.K) S h
  refine ⟨ρ0, l0, M0, S0, h0.imp ?_⟩
  rintro vs H1 ⟨ρ1, M1, ds, S1, r1, k1, h1⟩
  split at h1
  · rename_i hl
    match ds, hl with
    | [d], _ =>
      obtain ⟨v, rfl, rv⟩ := one_rel r1
      unfold walkR walkD at h1
      cases d with
      | p y =>
        cases y with
        | int j =>
          cases relP rv
          simp only at h1
          by_cases hj : big j
          · rw [if_pos hj] at h1
            exact ⟨j, rfl, hj.1, hj.2, h1 _ ρ1 H1 S1.mem (Le.refl _ _) wlk_rng⟩
          · rw [if_neg hj] at h1
            exact h1.elim
        | _ => exact h1.elim
      | _ => exact h1.elim
  · exact h1.elim
theorem mi_rng2 {tg a b : Expr} {p po : Pos} {pn pp : Nat} {fs : Lo → Mem → R (List D)} (hg : Gl X "range") (hm : X.mg "range" = none) (ha : PA X [a, b] (rdA X.K xc W fs)) (hs : starEach [a, b] X.env = [(false, eval a X.env), (false, eval b X.env)]) (hs2 : starEach [b] X.env = [(false, eval b X.env)]) :
    PI X tg (.Call (.Name "range" p) [a, b] [] po) (rdI X.K xc W fun l M => (fs l M).bind fun ds M1 => if ds.length = 2 then walkR (.rng pn pp) ds M1 else .stuck) := by
  refine ⟨fun pins s σ H Rr I ⟨ρ, l, M, S, h⟩ => ?_⟩
  refine (pi_range2 (tg := tg) hg hm ha hs hs2).run pins s σ H Rr I ?_
  obtain ⟨ρ0, l0, M0, S0, h0⟩ := runI (Rel := RelDs X.K) S h
  refine ⟨ρ0, l0, M0, S0, h0.imp ?_⟩
  rintro vs H1 ⟨ρ1, M1, ds, S1, r1, k1, h1⟩
  split at h1
  · rename_i hl
    match ds, hl with
    | [d, e], _ =>
      obtain ⟨v, w, rfl, rv, rw'⟩ := two_rel r1
      unfold walkR walkD at h1
      cases d with
      | p y =>
        cases y with
        | int i =>
          cases e with
          | p z =>
            cases z with
            | int j =>
              cases relP rv; cases relP rw'
              simp only at h1
              by_cases hj : big i ∧ big j
              · rw [if_pos hj] at h1
                exact ⟨i, j, rfl, ⟨hj.1.1, hj.1.2, hj.2.1, hj.2.2⟩, h1 _ ρ1 H1 S1.mem (Le.refl _ _) wlk_rng⟩
              · rw [if_neg hj] at h1
                exact h1.elim
            | _ => exact h1.elim
          | _ => exact h1.elim
        | _ => exact h1.elim
      | _ => exact h1.elim
  · exact h1.elim
theorem mi_enu {elts : List Expr} {kk : Nat} {tpos : Pos} {a : Expr} {p po : Pos} {pn pp : Nat} {fs : Lo → Mem → R (List D)} (hg : Gl X "enumerate") (hm : X.mg "enumerate" = none) (ha : PA X [a] (rdA X.K xc W fs)) (hs : starEach [a] X.env = [(false, eval a X.env)]) :
    PI X (.Tuple elts kk tpos) (.Call (.Name "enumerate" p) [a] [] po) (rdI X.K xc W fun l M => (fs l M).bind fun ds M1 => if ds.length = 1 then walkR (.enu pn pp) ds M1 else .stuck) := by
  refine ⟨fun pins s σ H Rr I ⟨ρ, l, M, S, h⟩ => ?_⟩
  refine (pi_enum hg hm ha hs).run pins s σ H Rr I ?_
  obtain ⟨ρ0, l0, M0, S0, h0⟩ := runI (Rel := RelDs X.K) S h
  refine ⟨ρ0, l0, M0, S0, h0.imp ?_⟩
  rintro vs H1 ⟨ρ1, M1, ds, S1, r1, k1, h1⟩
  split at h1
  · rename_i hl
    match ds, hl with
    | [d], _ =>
      obtain ⟨v, rfl, rv⟩ := one_rel r1
      unfold walkR walkD at h1
      simp only at h1
      cases e : seqD M1 d with
      | none => rw [e] at h1; exact h1.elim
      | some xs =>
        rw [e] at h1
        obtain ⟨a, vs, rfl, sa, _⟩ := seq_ok S1.mem rv e
        exact ⟨a, vs, rfl, sa, h1 _ ρ1 H1 S1.mem (Le.refl _ _) (wlk_enu rv e)⟩
  · exact h1.elim
theorem mi_zip {elts : List Expr} {kk : Nat} {tpos : Pos} {a b : Expr} {p po : Pos} {pn pp : Nat} {fs : Lo → Mem → R (List D)} (hg : Gl X "zip") (hm : X.mg "zip" = none) (ha : PA X [a, b] (rdA X.K xc W fs)) (hs : starEach [a, b] X.env = (false, eval a X.env) :: starEach [b] X.env) (hpl : (backTo po (starEach [b] X.env)).any (·.1) = false) :
    PI X (.Tuple elts kk tpos) (.Call (.Name "zip" p) [a, b] [] po) (rdI X.K xc W fun l M => (fs l M).bind fun ds M1 => if ds.length = 2 then walkR (.zip pn pp) ds M1 else .stuck) := by
  refine ⟨fun pins s σ H Rr I ⟨ρ, l, M, S, h⟩ => ?_⟩
  refine (ZS.pi_zipB hg hm ha hs hpl).run pins s σ H Rr I ?_
  obtain ⟨ρ0, l0, M0, S0, h0⟩ := runI (Rel := RelDs X.K) S h
  refine ⟨ρ0, l0, M0, S0, h0.imp ?_⟩
  rintro vs H1 ⟨ρ1, M1, ds, S1, r1, k1, h1⟩
  split at h1
  · rename_i hl
    match ds, hl with
    | [d, e], _ =>
      obtain ⟨v, w, rfl, rv, rw'⟩ := two_rel r1
      unfold walkR walkD at h1
      simp only at h1
      cases e1 : seqD M1 d with
      | none =>
        cases e2 : seqD M1 e with
        | some ys => rw [e1, e2] at h1; exact h1.elim
        | none =>
          cases e3 : tupD d with
          | none =>
            cases e4 : tupD e with
            | some ys => rw [e1, e2, e3, e4] at h1; exact h1.elim
            | none =>
              rw [e1, e2, e3, e4] at h1
              clear e1 e2 e3 e4
              cases d with
              | p dp =>
                cases dp with
                | str x =>
                  cases e with
                  | p ep =>
                    cases ep with
                    | str y =>
                      have q1 : v = .str x := by unfold RelD at rv; cases rv; rfl
                      have q2 : w = .str y := by unfold RelD at rw'; cases rw'; rfl
                      subst q1 q2
                      exact .inr ⟨x, y, rfl, h1 _ ρ1 H1 S1.mem (Le.refl _ _) wlk_zipS⟩
                    | _ => exact False.elim h1
                  | _ => exact False.elim h1
                | _ => exact False.elim h1
              | _ => exact False.elim h1
          | some xs =>
            cases e4 : tupD e with
            | none => rw [e1, e2, e3, e4] at h1; exact h1.elim
            | some ys =>
              rw [e1, e2, e3, e4] at h1
              obtain ⟨a, vs, rfl, sa, _⟩ := tup_ok rv e3
              obtain ⟨b, ws, rfl, sb, _⟩ := tup_ok rw' e4
              exact .inl ⟨a, b, vs, ws, rfl, .inr ⟨sa, sb, h1 _ ρ1 H1 S1.mem (Le.refl _ _) (wlk_zipT rv e3 rw' e4)⟩⟩
      | some xs =>
        cases e2 : seqD M1 e with
        | none => rw [e1, e2] at h1; exact h1.elim
        | some ys =>
          rw [e1, e2] at h1
          obtain ⟨a, vs, rfl, sa, _⟩ := seq_ok S1.mem rv e1
          obtain ⟨b, ws, rfl, sb, _⟩ := seq_ok S1.mem rw' e2
          exact .inl ⟨a, b, vs, ws, rfl, .inl ⟨sa, sb, h1 _ ρ1 H1 S1.mem (Le.refl _ _) (wlk_zip rv e1 rw' e2)⟩⟩
  · exact h1.elim
end

/-! ### targets -/
mutual
def T.ok (loc : Str → Bool) (N : List Str) : T → Bool
  | .nm i _ => match N[i]? with
    | some x => loc x
    | none => false
  | .tp ts _ _ => T.oks loc N ts
def T.oks (loc : Str → Bool) (N : List Str) : List T → Bool
  | [] => true
  | t :: ts => T.ok loc N t && T.oks loc N ts
end
theorem Sim.set {K : PySem.W.Frag} {ρ : Rho} {l : Lo} {M : Mem} {σ : L2.St} {H : Hp} {d : D} {v : V} (S : Sim K ρ l M σ H) (r : RelD K (hd ρ M H) ρ d v) (i : Nat) : Sim K ρ (l.set i (some d)) M (σ.set i (some v)) H := by
  refine ⟨S.mem, fun j e h => ?_, by rw [List.length_set, List.length_set]; exact S.len⟩
  by_cases hj : i = j
  · subst hj
    by_cases hl : i < l.length
    · rw [List.getElem?_set_self hl] at h
      cases h
      exact ⟨v, by rw [List.getElem?_set_self (by rw [← S.len]; exact hl)], r⟩
    · rw [List.getElem?_eq_none (by simpa using hl)] at h
      cases h
  · rw [List.getElem?_set_ne hj] at h ⊢
    exact S.loc j e h
mutual
def T.slots : T → List Nat
  | .nm i _ => [i]
  | .tp ts _ _ => T.slotss ts
def T.slotss : List T → List Nat
  | [] => []
  | t :: ts => T.slots t ++ T.slotss ts
end
/-- the same but at these slots -/
def Off (σ σ' : L2.St) (vs : List Nat) : Prop := σ'.length = σ.length ∧ ∀ i, i ∉ vs → σ'[i]? = σ[i]?
theorem Off.refl (σ : L2.St) (vs : List Nat) : Off σ σ vs := ⟨rfl, fun _ _ => rfl⟩
theorem Off.trans {σ σ1 σ2 : L2.St} {vs ws : List Nat} (a : Off σ σ1 vs) (b : Off σ1 σ2 ws) : Off σ σ2 (vs ++ ws) :=
  ⟨b.1.trans a.1, fun i h => by
    rw [List.mem_append, not_or] at h
    rw [b.2 i h.2, a.2 i h.1]⟩
theorem Off.set (σ : L2.St) (i : Nat) (x : Option V) : Off σ (σ.set i x) [i] := ⟨List.length_set, fun j h => by
  have : i ≠ j := fun e => h (by rw [e]; exact List.mem_cons_self)
  rw [List.getElem?_set_ne this]⟩
def rdG (K : PySem.W.Frag) (f : D → Lo → Option Lo) (vs : List Nat) : TG := fun v σ H Q => ∃ ρ l M d, Sim K ρ l M σ H ∧ RelD K (hd ρ M H) ρ d v ∧ match f d l with
  | some l' => ∀ σ', Sim K ρ l' M σ' H → Off σ σ' vs → Q σ' H
  | none => False
def rdGs (K : PySem.W.Frag) (f : List D → Lo → Option Lo) (vs : List Nat) : TGs := fun ws σ H Q => ∃ ρ l M ds, Sim K ρ l M σ H ∧ RelDs K (hd ρ M H) ρ ds ws ∧ match f ds l with
  | some l' => ∀ σ', Sim K ρ l' M σ' H → Off σ σ' vs → Q σ' H
  | none => False
theorem PG.imp {X : Cx} {e : Expr} {t t' : TG} (h : PG X e t) (k : ∀ v σ H Q, t' v σ H Q → t v σ H Q) : PG X e t' := ⟨fun pins s σ H v u Q I r q => h.run pins s σ H v u Q I r (k _ _ _ _ q)⟩
theorem PGs.imp {X : Cx} {e : List Expr} {t t' : TGs} (h : PGs X e t) (k : ∀ v σ H Q, t' v σ H Q → t v σ H Q) : PGs X e t' := ⟨fun pins s σ H v u Q I r q => h.run pins s σ H v u Q I r (k _ _ _ _ q)⟩
theorem getD_of {N : List Str} {i : Nat} {x : Str} (h : N[i]? = some x) : N.getD i "" = x := by
  rw [List.getD_eq_getElem?_getD, h]; rfl
theorem assignEach_T {N : List Str} {env : Env} (t : T) (es : List Expr) : assignEach (T.ast N t :: es) env = (false, assign (T.ast N t) env) :: assignEach es env := by
  cases t <;> rfl
section
variable {X : Cx} {loc : Str → Bool}
theorem assignEach_len {N : List Str} {env : Env} : ∀ ts : List T, (assignEach (T.asts N ts) env).length = ts.length ∧ (assignEach (T.asts N ts) env).findIdx? (·.1) = none
  | [] => ⟨rfl, rfl⟩
  | t :: ts => by
    obtain ⟨h1, h2⟩ := assignEach_len (N := N) (env := env) ts
    rw [T.asts, assignEach_T]
    refine ⟨by rw [List.length_cons, List.length_cons, h1], ?_⟩
    rw [List.findIdx?_cons, h2]
    rfl
theorem setTs_len : ∀ {ts : List T} {ds : List D} {l l' : Lo}, setTs ts ds l = some l' → ds.length = ts.length
  | [], [], _, _, _ => rfl
  | [], _ :: _, _, _, h => by simp only [setTs] at h; cases h
  | _ :: _, [], _, _, h => by simp only [setTs] at h; cases h
  | t :: ts, d :: ds, l, l', h => by
    simp only [setTs] at h
    cases e : setT t d l with
    | none => rw [e] at h; cases h
    | some l1 =>
      rw [e] at h
      rw [List.length_cons, List.length_cons, setTs_len h]
mutual
theorem mg_T (hN : X.N.Nodup) (hc : X.calm = true) (hl : ∀ x, loc x = true → Loc X.env.scope x ∧ (X.fn x = true ∨ X.env.scope.names.lookup x = some .local)) : ∀ t : T, T.ok loc X.N t = true → PG X (T.ast X.N t) (rdG X.K (setT t) t.slots)
  | .nm i p, h => by
    simp only [T.ok] at h
    cases e : X.N[i]? with
    | none => rw [e] at h; cases h
    | some x =>
      rw [e] at h
      rw [T.ast, getD_of e]
      obtain ⟨h1, h2⟩ := hl x h
      refine PG.imp (pg_name hN e h1 h2) ?_
      rintro v σ H Q ⟨ρ, l, M, d, S, r, q⟩
      simp only [setT] at q
      split at q
      · rename_i l' hq
        split at hq
        · cases hq
          exact q _ (S.set r i) (Off.set σ i _)
        · cases hq
      · exact q.elim
  | .tp ts k p, h => by
    simp only [T.ok] at h
    rw [T.ast]
    refine PG.imp (pg_tup hc (mg_Ts hN hc hl ts h) (assignEach_len ts).1 (assignEach_len ts).2) ?_
    rintro v σ H Q ⟨ρ, l, M, d, S, r, q⟩
    simp only [setT] at q
    cases e : tupD d with
    | none => rw [e] at q; exact q.elim
    | some ds =>
      rw [e] at q
      obtain ⟨a, vs, rfl, sa, ra⟩ := tup_ok r e
      refine ⟨a, vs, rfl, sa, ?_, ρ, l, M, ds, S, ra, q⟩
      cases e2 : setTs ts ds l with
      | none => simp only [e2] at q
      | some l' => rw [← ra.length, setTs_len e2]
theorem mg_Ts (hN : X.N.Nodup) (hc : X.calm = true) (hl : ∀ x, loc x = true → Loc X.env.scope x ∧ (X.fn x = true ∨ X.env.scope.names.lookup x = some .local)) : ∀ ts : List T, T.oks loc X.N ts = true → PGs X (T.asts X.N ts) (rdGs X.K (setTs ts) (T.slotss ts))
  | [], h => by
    rw [T.asts]
    refine PGs.imp pgs_nil ?_
    rintro vs σ H Q ⟨ρ, l, M, ds, S, r, q⟩
    cases ds with
    | nil =>
      unfold RelDs at r
      exact ⟨r, q _ S (Off.refl _ _)⟩
    | cons d ds => exact q.elim
  | t :: ts, h => by
    simp only [T.oks, Bool.and_eq_true] at h
    rw [T.asts]
    refine PGs.imp (pgs_cons (mg_T hN hc hl t h.1) (mg_Ts hN hc hl ts h.2) (by rw [assignEach_T]; rfl)) ?_
    rintro vs σ H Q ⟨ρ, l, M, ds, S, r, q⟩
    cases ds with
    | nil => simp only [setTs] at q
    | cons d ds =>
      obtain ⟨v, w, e, r1, r2⟩ := r.inv
      subst e
      refine ⟨v, w, rfl, ρ, l, M, d, S, r1, ?_⟩
      simp only [setTs] at q
      cases e : setT t d l with
      | none => simp only [e] at q
      | some l1 =>
        simp only [e] at q
        refine fun σ' S' o => ⟨ρ, l1, M, ds, S', r2, ?_⟩
        cases e2 : setTs ts ds l1 with
        | none => simp only [e2] at q
        | some l2 =>
          simp only [e2] at q
          exact fun σ2 S2 o2 => q σ2 S2 (o.trans o2)
end
end
end Mini

/-! Mini, part le: a dict that nobody holds any more is locked, and its items are walked. -/
namespace Mini
open PySem PySem.Spec PyProof.Rows L2
section
variable {K : PySem.W.Frag} {ρ ρ0 : Rho} {M M0 : Mem} {H H0 : Hp}
theorem MemOk.lockd (X : MemOk K ρ M H) {m : Nat} {a : Addr} {c0 : Cell} {o : HO} (e : M[m]? = some c0) (n0 : c0 ≠ .dead) (ha : ρ.c[m]? = some a) :
    MemOk K ρ (M.set m .dead) (upd H a o) ∧ Le (hd ρ M H) (hd ρ (M.set m .dead) (upd H a o)) ρ ρ ∧ hd ρ (M.set m .dead) (upd H a o) a = some o := by
  have hm : m < M.length := (List.getElem?_eq_some_iff.mp e).1
  have imp : ∀ k, live (M.set m .dead) k → live M k ∧ m ≠ k := fun k ⟨c, h, hn⟩ => by
    by_cases hk : m = k
    · subst hk
      rw [List.getElem?_set_self hm] at h
      cases h
      exact absurd rfl hn
    · rw [List.getElem?_set_ne hk] at h
      exact ⟨⟨c, h, hn⟩, hk⟩
  have lv : live M m := ⟨_, e, n0⟩
  have on : Hid ρ M a := .inl ⟨m, ha, lv⟩
  have off : ¬ Hid ρ (M.set m .dead) a := fun h => by
    rcases h with ⟨k, k1, k2⟩ | ⟨vs, h⟩
    · exact (imp k k2).2 (X.inj m k a ha k1 lv (imp k k2).1)
    · exact X.zoff m a vs ha lv h
  have hid : ∀ b, Hid ρ (M.set m .dead) b → Hid ρ M b := fun b h => by
    rcases h with ⟨k, k1, k2⟩ | h
    · exact .inl ⟨k, k1, (imp k k2).1⟩
    · exact .inr h
  have le : Le (hd ρ M H) (hd ρ (M.set m .dead) (upd H a o)) ρ ρ := ⟨fun b u q => by
    have hn := hd_not q
    have hb : b ≠ a := fun z => by subst z; exact hn on
    rw [hd_off (fun h => hn (hid b h)), upd_ne hb]
    exact hd_some q, fun _ _ q => q, rfl⟩
  refine ⟨⟨by rw [X.len, List.length_set], fun i j b h1 h2 l1 l2 => X.inj i j b h1 h2 (imp i l1).1 (imp j l2).1, fun i c b h1 h2 => ?_, fun b us h => ?_, fun i b us h1 h2 => X.zoff i b us h1 (imp i h2).1⟩, le, by rw [hd_off off, upd_same]⟩
  · by_cases hi : m = i
    · subst hi
      rw [List.getElem?_set_self hm] at h1
      cases h1
      trivial
    · rw [List.getElem?_set_ne hi] at h1
      have q := X.cell i c b h1 h2
      by_cases hc : c = .dead
      · rw [hc]; trivial
      · have hb : b ≠ a := fun z => by
          subst z
          exact hi (X.inj m i b ha h2 lv ⟨_, h1, hc⟩)
        exact q.mono le (upd_ne hb).symm
  · have hb : b ≠ a := fun z => by subst z; exact X.zoff m b us ha lv h
    rw [upd_ne hb]
    exact X.zin b us h
theorem key_rel {G : Hp} (k : Key) : RelD K G ρ (.p (kD k)) (kV k) := by
  cases k with
  | inl i => exact Pr (.int _)
  | inr s => exact Pr (.str _)
theorem wlk_items {a : Addr} {o : Obj} {kds : List (Key × D)} {vs : List V} (hf : hd ρ0 M0 H0 a = some (.frz o (.dK ((kds.map (·.1)).zip vs)))) (r : RelDs K (hd ρ0 M0 H0) ρ0 (kds.map (·.2)) vs) {w : Wk} :
    Wlk K (Iti a o ((kds.map (·.1)).zip vs)) (itmD kds) w ρ0 M0 H0 := by
  have ll : vs.length = kds.length := by rw [← r.length, List.length_map]
  have lz : ((kds.map (·.1)).zip vs).length = kds.length := by rw [List.length_zip, List.length_map, ll, Nat.min_self]
  refine ⟨fun i ρ M H d m le st hi => ?_, fun i ρ M H m le st hi => ?_⟩
  · have here : H a = some (.frz o (.dK ((kds.map (·.1)).zip vs))) := hd_some (le.g _ _ hf)
    unfold itmD at hi
    rw [List.getElem?_map, Option.map_eq_some_iff] at hi
    obtain ⟨z, hz, rfl⟩ := hi
    have hlt := (List.getElem?_eq_some_iff.mp hz).1
    obtain ⟨v, hv, rv⟩ := (r.monoW le).get (i := i) (d := z.2) (by rw [List.getElem?_map, hz]; rfl)
    refine ⟨⟨here, by rw [lz]; exact hlt⟩, fun x' H' ⟨T, k, u, e1, e2, e3, e4⟩ => ?_⟩
    have q : ((kds.map (·.1)).zip vs)[i]? = some (z.1, v) := by
      rw [List.getElem?_zip_eq_some]
      exact ⟨by rw [List.getElem?_map, hz]; rfl, hv⟩
    rw [q] at e1
    cases e1
    subst e2 e4
    exact tup_new m (RelDs.cons (key_rel z.1) (RelDs.cons rv RelDs.nil)) e3
  · have here : H a = some (.frz o (.dK ((kds.map (·.1)).zip vs))) := hd_some (le.g _ _ hf)
    unfold itmD at hi
    rw [List.length_map] at hi
    exact ⟨here, by rw [lz]; exact hi⟩
end
end Mini

/-! Mini, part lf: for .. in d.items(), d a dict that nobody holds. -/
namespace Mini
open PySem PySem.Spec PyProof.Rows L2
section
variable {X : Cx} {xc : Nat → Addr} {W : WX}
theorem pe_lockV {e : Expr} {t : TE} (he : PE X e t) : PE X e (fun σ H Q => t σ H fun x H1 => ∃ d u, x = .ref d ∧ H1 d = some u ∧ Mut (some u) ∧ ∀ od, Q x (upd H1 d (.frz od u))) := by
  refine ⟨fun pins s σ H Q I h => ?_⟩
  refine thn (he.run pins s σ H _ I h) fun v s1 ⟨x, H1, I1, rx, d, u, ex, hd, mu, q⟩ => ?_
  obtain ⟨od, I2⟩ := I1.lock hd mu
  exact ⟨x, _, I2, rx, q od⟩
theorem mi_items {pn pp : Nat} {elts : List Expr} {kk : Nat} {tpos : Pos} {e : Expr} {apos cpos : Pos} {fe : Lo → Mem → R D} (he : PE X e (rdE X.K xc W fe)) (hbase : attributeBase e "items" X.env (eval e X.env) = eval e X.env) (hline : (apos.endLine == cpos.line) = true) :
    PI X (.Tuple elts kk tpos) (.Call (.Attribute e "items" apos) [] [] cpos) (rdI X.K xc W fun l M => (fe l M).bind fun d M1 => walkR (.itm pn pp) [d] M1) := by
  refine ⟨fun pins s σ H Rr I ⟨ρ, l, M, S, h⟩ => ?_⟩
  refine (pi_items (pe_lockV he) hbase hline).run pins s σ H Rr I ?_
  obtain ⟨ρ0, l0, M0, S0, h0⟩ := runI (Rel := RelD X.K) S h
  refine ⟨ρ0, l0, M0, S0, h0.imp ?_⟩
  rintro v H1 ⟨ρ1, M1, d, S1, r1, k1, h1⟩
  unfold walkR walkD at h1
  cases d with
  | ref m =>
    simp only at h1
    cases e1 : M1[m]? with
    | none => rw [e1] at h1; exact h1.elim
    | some c =>
      rw [e1] at h1
      cases c with
      | dct kds =>
        obtain ⟨a, vs, ha, hH, rr⟩ := S1.mem.atD e1
        unfold RelD at r1
        obtain ⟨a', ha', rfl⟩ := r1
        rw [ha] at ha'
        cases ha'
        refine ⟨a, _, rfl, hH, trivial, fun od => ⟨a, od, _, rfl, upd_same, ?_⟩⟩
        obtain ⟨x2, le, q⟩ := S1.mem.lockd (o := .frz od (.dK ((kds.map (·.1)).zip vs))) e1 (by intro z; cases z) ha
        exact h1 _ ρ1 _ x2 le (wlk_items q (rr.mono le))
      | lst xs => exact h1.elim
      | dead => exact h1.elim
  | p d => exact h1.elim
  | tr ds => exact h1.elim
end
end Mini

/-! Mini, part n: comprehensions. -/
namespace Mini
open PySem PySem.Spec PyProof.Rows L2

section
variable {K : PySem.W.Frag} {ρ : Rho} {M : Mem} {H : Hp}
/-- a list begins to be filled -/
theorem MemOk.begin (X : MemOk K ρ M H) {p : Addr} (hp : H p = none) : MemOk K ⟨ρ.c, (p, []) :: ρ.z⟩ M (upd H p (.lst [])) ∧ Lw (hd ρ M H) (hd ⟨ρ.c, (p, []) :: ρ.z⟩ M (upd H p (.lst []))) ρ ⟨ρ.c, (p, []) :: ρ.z⟩ := by
  have g : ∀ a o, hd ρ M H a = some o → hd ⟨ρ.c, (p, []) :: ρ.z⟩ M (upd H p (.lst [])) a = some o := fun a o e => by
    have hn := hd_not e
    have ha : a ≠ p := fun z => by subst z; rw [hd_none hp] at e; cases e
    rw [hd_off (ρ := ⟨ρ.c, (p, []) :: ρ.z⟩) (fun h => by
      rcases h with h | ⟨vs, h⟩
      · exact hn (.inl h)
      · rcases List.mem_cons.mp h with h | h
        · exact ha (congrArg Prod.fst h)
        · exact hn (.inr ⟨vs, h⟩)), upd_ne ha]
    exact hd_some e
  have lw : Lw (hd ρ M H) (hd ⟨ρ.c, (p, []) :: ρ.z⟩ M (upd H p (.lst []))) ρ ⟨ρ.c, (p, []) :: ρ.z⟩ := ⟨g, fun _ _ e => e⟩
  refine ⟨⟨X.len, X.inj, fun i c a h1 h2 => ?_, fun a vs h => ?_, fun m a vs h1 h2 h3 => ?_⟩, lw⟩
  · have q := X.cell i c a h1 h2
    by_cases hc : c = .dead
    · rw [hc]; trivial
    · have ha : a ≠ p := fun z => by
        subst z
        exact X.off hp (.inl ⟨i, h2, _, h1, hc⟩)
      exact q.monoW lw (upd_ne ha)
  · rcases List.mem_cons.mp h with h | h
    · cases h; exact upd_same
    · rw [upd_ne (X.zne hp h)]; exact X.zin a vs h
  · rcases List.mem_cons.mp h3 with h | h
    · cases h; exact X.off hp (.inl ⟨m, h1, h2⟩)
    · exact X.zoff m a vs h1 h2 h
/-- .. gets one more -/
theorem MemOk.fill {c : List Addr} {z : List (Addr × List V)} {p : Addr} {us vs : List V} (X : MemOk K ⟨c, (p, us) :: z⟩ M H) (hz : ∀ ws, (p, ws) ∉ z) :
    MemOk K ⟨c, (p, vs) :: z⟩ M (upd H p (.lst vs)) ∧ Lw (hd ⟨c, (p, us) :: z⟩ M H) (hd ⟨c, (p, vs) :: z⟩ M (upd H p (.lst vs))) ⟨c, (p, us) :: z⟩ ⟨c, (p, vs) :: z⟩ := by
  have on : Hid ⟨c, (p, us) :: z⟩ M p := .inr ⟨us, List.mem_cons_self⟩
  have g : ∀ a o, hd ⟨c, (p, us) :: z⟩ M H a = some o → hd ⟨c, (p, vs) :: z⟩ M (upd H p (.lst vs)) a = some o := fun a o e => by
    have hn := hd_not e
    have ha : a ≠ p := fun q => by subst q; exact hn on
    rw [hd_off (ρ := ⟨c, (p, vs) :: z⟩) (fun h => by
      rcases h with h | ⟨ws, h⟩
      · exact hn (.inl h)
      · rcases List.mem_cons.mp h with h | h
        · exact ha (congrArg Prod.fst h)
        · exact hn (.inr ⟨ws, List.mem_cons_of_mem _ h⟩)), upd_ne ha]
    exact hd_some e
  have lw : Lw (hd ⟨c, (p, us) :: z⟩ M H) (hd ⟨c, (p, vs) :: z⟩ M (upd H p (.lst vs))) ⟨c, (p, us) :: z⟩ ⟨c, (p, vs) :: z⟩ := ⟨g, fun _ _ e => e⟩
  refine ⟨⟨X.len, X.inj, fun i cc a h1 h2 => ?_, fun a ws h => ?_, fun m a ws h1 h2 h3 => ?_⟩, lw⟩
  · have q := X.cell i cc a h1 h2
    by_cases hc : cc = .dead
    · rw [hc]; trivial
    · have ha : a ≠ p := fun q => by
        subst q
        exact X.zoff i a us h2 ⟨_, h1, hc⟩ List.mem_cons_self
      exact q.monoW lw (upd_ne ha)
  · rcases List.mem_cons.mp h with h9 | h9
    · cases h9; exact upd_same
    · have ha : a ≠ p := fun q => by rw [q] at h9; exact hz _ h9
      rw [upd_ne ha]; exact X.zin a ws (List.mem_cons_of_mem _ h9)
  · rcases List.mem_cons.mp h3 with h | h
    · cases h; exact X.zoff m p us h1 h2 List.mem_cons_self
    · exact X.zoff m a ws h1 h2 (List.mem_cons_of_mem _ h)
/-- .. is done: frozen -/
theorem MemOk.done {c : List Addr} {z : List (Addr × List V)} {p : Addr} {us : List V} (X : MemOk K ⟨c, (p, us) :: z⟩ M H) (hz : ∀ ws, (p, ws) ∉ z) :
    MemOk K ⟨c, z⟩ M H ∧ Lw (hd ⟨c, (p, us) :: z⟩ M H) (hd ⟨c, z⟩ M H) ⟨c, (p, us) :: z⟩ ⟨c, z⟩ ∧ hd ⟨c, z⟩ M H p = some (.lst us) := by
  have g : ∀ a o, hd ⟨c, (p, us) :: z⟩ M H a = some o → hd ⟨c, z⟩ M H a = some o := fun a o e => by
    have hn := hd_not e
    rw [hd_off (ρ := ⟨c, z⟩) (fun h => by
      rcases h with h | ⟨ws, h⟩
      · exact hn (.inl h)
      · exact hn (.inr ⟨ws, List.mem_cons_of_mem _ h⟩))]
    exact hd_some e
  have lw : Lw (hd ⟨c, (p, us) :: z⟩ M H) (hd ⟨c, z⟩ M H) ⟨c, (p, us) :: z⟩ ⟨c, z⟩ := ⟨g, fun _ _ e => e⟩
  refine ⟨⟨X.len, X.inj, fun i cc a h1 h2 => ?_, fun a ws h => X.zin a ws (List.mem_cons_of_mem _ h), fun m a ws h1 h2 h3 => X.zoff m a ws h1 h2 (List.mem_cons_of_mem _ h3)⟩, lw, ?_⟩
  · have q := X.cell i cc a h1 h2
    exact q.monoW lw rfl
  · rw [hd_off (ρ := ⟨c, z⟩) (fun h => by
      rcases h with ⟨m, h1, h2⟩ | ⟨ws, h⟩
      · exact X.zoff m p us h1 h2 List.mem_cons_self
      · exact hz ws h)]
    exact X.zin p us List.mem_cons_self
/-- .. is done: a cell, or frozen -/
theorem fill_al {c : List Addr} {z : List (Addr × List V)} {p : Addr} {us : List V} {ds : List D} {b : Bool} {Q : VK} {xc : Nat → Addr} {W : WX} {σ : L2.St} {ρ1 : Rho} {M1 : Mem} {H1 : Hp} (X : MemOk K ⟨c, (p, us) :: z⟩ M H) (hz : ∀ ws, (p, ws) ∉ z) (e1 : ρ1.z = z)
    (lw : Lw (hd ρ1 M1 H1) (hd ⟨c, (p, us) :: z⟩ M H) ρ1 ⟨c, (p, us) :: z⟩) (r : RelDs K (hd ⟨c, (p, us) :: z⟩ M H) ⟨c, (p, us) :: z⟩ ds us) (h : post (RelD K) K xc W ρ1 M1 σ H1 Q (ofO (al b ds M))) : Q (.ref p) H := by
  unfold al at h
  cases b with
  | true =>
    rw [if_pos rfl] at h
    have zin := X.zin p us List.mem_cons_self
    have off : ¬ ∃ m, (⟨c, (p, us) :: z⟩ : Rho).c[m]? = some p ∧ live M m := fun ⟨m, h1, h2⟩ => X.zoff m p us h1 h2 List.mem_cons_self
    obtain ⟨x, g, rl⟩ := X.cellAt (p := p) (xs := ds) (vs := us) (H' := H) (z' := z) off (fun a ws => ⟨fun h => ⟨List.mem_cons_of_mem _ h, fun q => by subst q; exact hz _ h⟩, fun h => by
      rcases List.mem_cons.mp h.1 with q | q
      · exact absurd (congrArg Prod.fst q) h.2
      · exact q⟩) (fun _ _ => rfl) zin (hd_on (.inr ⟨us, List.mem_cons_self⟩)) r
    refine h (.ref p) ⟨c ++ [p], z⟩ H x ⟨fun a o e => g a o (lw.g a o e), fun m a e => rl m a (lw.r m a e), e1.symm⟩ ?_
    unfold RelD
    exact ⟨p, by show (c ++ [p])[M.length]? = some p; rw [← X.len]; simp, rfl⟩
  | false =>
    rw [if_neg (by decide)] at h
    cases e : pAll ds with
    | none => rw [e] at h; exact h.elim
    | some xs =>
      rw [e] at h
      obtain ⟨x, lw2, q⟩ := X.done hz
      refine h (.ref p) ⟨c, z⟩ H x ⟨(lw.trans lw2).g, (lw.trans lw2).r, e1.symm⟩ (Pr (.lst (.inl (.inl q)) ?_))
      rw [pAll_eq e] at r
      exact relDs_p.mp (r.monoW lw2)
end
theorem wipe_get (σ : L2.St) : ∀ (vs : List Nat) (i : Nat), (wipe σ vs)[i]? = if i ∈ vs ∧ i < σ.length then some none else σ[i]?
  | [], i => by simp [wipe]
  | v :: vs, i => by
    unfold wipe
    by_cases hi : v = i
    · subst hi
      by_cases hl : v < σ.length
      · rw [List.getElem?_set_self (by rw [wipe_length]; exact hl), if_pos ⟨List.mem_cons_self, hl⟩]
      · rw [List.getElem?_eq_none (by rw [List.length_set, wipe_length]; omega), if_neg (fun h => hl h.2), List.getElem?_eq_none (by omega)]
    · rw [List.getElem?_set_ne hi, wipe_get σ vs i]
      have : (i ∈ v :: vs ∧ i < σ.length) ↔ (i ∈ vs ∧ i < σ.length) := by
        rw [List.mem_cons]
        constructor
        · rintro ⟨h | h, h2⟩
          · exact absurd h.symm hi
          · exact ⟨h, h2⟩
        · rintro ⟨h, h2⟩; exact ⟨.inr h, h2⟩
      simp only [this]
theorem wipe_off {σ σ' : L2.St} {vs ws : List Nat} (o : Off (wipe σ vs) σ' ws) (h : ∀ i ∈ ws, i ∈ vs) : wipe σ' vs = wipe σ vs := by
  have hl : σ'.length = σ.length := by rw [o.1, wipe_length]
  refine List.ext_getElem? fun i => ?_
  rw [wipe_get, wipe_get, hl]
  by_cases hi : i ∈ vs
  · by_cases h2 : i < σ.length
    · rw [if_pos ⟨hi, h2⟩, if_pos ⟨hi, h2⟩]
    · rw [if_neg (fun z => h2 z.2), if_neg (fun z => h2 z.2), List.getElem?_eq_none (by omega), List.getElem?_eq_none (by omega)]
  · rw [if_neg (fun z => hi z.1), if_neg (fun z => hi z.1), o.2 i (fun z => hi (h i z)), wipe_get, if_neg (fun z => hi z.1)]
theorem wipeL_len (l : Lo) : ∀ vs, (wipeL l vs).length = l.length
  | [] => rfl
  | v :: vs => by unfold wipeL; rw [List.length_set, wipeL_len l vs]
theorem wipeL_some {l : Lo} {i : Nat} {d : D} : ∀ {vs : List Nat}, (wipeL l vs)[i]? = some (some d) → l[i]? = some (some d) ∧ i ∉ vs
  | [], h => ⟨h, by simp⟩
  | v :: vs, h => by
    unfold wipeL at h
    by_cases hi : v = i
    · subst hi
      by_cases hv : v < (wipeL l vs).length
      · rw [List.getElem?_set_self hv] at h; cases h
      · rw [List.getElem?_eq_none (by simpa using hv)] at h; cases h
    · rw [List.getElem?_set_ne hi] at h
      obtain ⟨h1, h2⟩ := wipeL_some h
      exact ⟨h1, by simp only [List.mem_cons, not_or]; exact ⟨fun e => hi e.symm, h2⟩⟩
theorem Sim.wipe {K : PySem.W.Frag} {ρ ρ' : Rho} {l : Lo} {M M' : Mem} {σ : L2.St} {H H' : Hp} (S : Sim K ρ l M σ H) (X : MemOk K ρ' M' H') (lw : Lw (hd ρ M H) (hd ρ' M' H') ρ ρ') (vs : List Nat) : Sim K ρ' (wipeL l vs) M' (wipe σ vs) H' := by
  refine ⟨X, fun i d h => ?_, by rw [wipeL_len, wipe_length]; exact S.len⟩
  obtain ⟨h1, h2⟩ := wipeL_some h
  obtain ⟨v, h3, h4⟩ := S.loc i d h1
  exact ⟨v, by rw [wipe_get, if_neg (fun z => h2 z.1)]; exact h3, h4.monoW lw⟩
def WF : WX := fun _ _ _ _ => False
theorem calm_bind {α β : Type} {r : R α} {f : α → Mem → R β} {P : R β → Prop} (h : P (r.calm.bind f)) (hs : ¬ P .stuck) : ∃ a m, r = .ok a m ∧ P (f a m) := by
  cases r with
  | ok a m => exact ⟨a, m, rfl, h⟩
  | exc c m => exact absurd h hs
  | stuck => exact absurd h hs
section
variable {X : Cx} {xc : Nat → Addr} {W : WX}
theorem lc_read {own : List (Str × Nat)} {c : Bool} {t : T} {fi : Lo → Mem → R (List D × Wk)} {ft : Lo → Mem → R Bool} {fe : Lo → Mem → R D} (hsl : ∀ i ∈ t.slots, i ∈ own.map (·.2)) {σ : L2.St} {H : Hp} {Q : VK}
    (h : rdE X.K xc W (fun l M => (fi l M).bind fun r M2 => (lcL r.2 (lcB ft fe t (own.map (·.2)) l) r.1 M2).bind fun ys M3 => finL c ys M3) σ H Q) :
    tLc (rdI X.K xc W fi) (rdG X.K (setT t) t.slots) (rdT X.K xc WF ft) (rdE X.K xc WF fe) (own.map (·.2)) σ H Q := by
  obtain ⟨ρ, l, M, S, h⟩ := h
  refine ⟨ρ, l, M, S, ?_⟩
  cases e : fi l M with
  | stuck => simp only [e] at h; exact h.elim
  | exc cc m => simp only [e] at h; exact h
  | ok r M1 =>
    obtain ⟨xs, w⟩ := r
    simp only [e] at h
    have h : post (RelD X.K) X.K xc W ρ M σ H Q ((lcL w (lcB ft fe t (own.map (·.2)) l) xs M1).bind fun ys M3 => finL c ys M3) := h
    intro J ρ1 H1 m1 le1 wk Dl hD
    have h := h.le le1
    have hz : ∀ ws, (Dl, ws) ∉ ρ1.z := fun ws q => by rw [m1.zin _ _ q] at hD; cases hD
    let Inv' : Nat → Hp → Prop := fun i H' => i ≤ xs.length ∧ ∃ (cc : List Addr) (M' : Mem) (acc : List D) (us : List V), MemOk X.K ⟨cc, (Dl, us) :: ρ1.z⟩ M' H' ∧ Lw (hd ρ1 M1 H1) (hd ⟨cc, (Dl, us) :: ρ1.z⟩ M' H') ρ1 ⟨cc, (Dl, us) :: ρ1.z⟩ ∧
      RelDs X.K (hd ⟨cc, (Dl, us) :: ρ1.z⟩ M' H') ⟨cc, (Dl, us) :: ρ1.z⟩ acc us ∧ post (RelD X.K) X.K xc W ρ1 M1 σ H1 Q ((lcL w (lcB ft fe t (own.map (·.2)) l) (xs.drop i) M').bind fun ys M3 => finL c (acc ++ ys) M3)
    refine ⟨fun i m H' => m = xs.length - i ∧ Inv' i H', ⟨_, rfl, Nat.zero_le _, ρ1.c, M1, [], [], (m1.begin hD).1, (m1.begin hD).2, RelDs.nil, by simpa using h⟩, ?_⟩
    rintro i m H' ⟨rfl, hi, cc, M', acc, us, mm, lw, ra, hp⟩
    rcases Nat.lt_or_ge i xs.length with hlt | hge
    · have hd1 : xs.drop i = xs[i] :: xs.drop (i + 1) := by rw [List.drop_eq_getElem_cons hlt]
      rw [hd1] at hp
      simp only [lcL] at hp
      by_cases st : stays w M' = true
      · rw [if_pos st] at hp
        obtain ⟨go, yl⟩ := wk.go i _ M' H' xs[i] mm lw st (List.getElem?_eq_getElem hlt)
        refine .inr ⟨go, Inv' (i + 1), fun H2 q => ⟨_, by omega, rfl, q⟩, fun x H2 y => ?_⟩
        obtain ⟨mm2, le2, rx⟩ := yl x H2 y
        have lw2 := lw.trans le2.w
        refine ⟨_, wipeL l (own.map (·.2)), M', xs[i], (S.le m1 le1).wipe mm2 lw2 _, rx, ?_⟩
        simp only [lcB] at hp
        cases e2 : setT t xs[i] (wipeL l (own.map (·.2))) with
        | none => simp only [e2] at hp; exact hp.elim
        | some l2 =>
          simp only [e2] at hp
          intro σ2 S2 off
          refine ⟨wipe_off off hsl, ?_⟩
          refine ⟨_, l2, M', S2, ?_⟩
          rw [R.bind_assoc, R.bind_assoc] at hp
          obtain ⟨b, M3, e3, hp⟩ := calm_bind (P := fun r => post (RelD X.K) X.K xc W ρ1 M1 σ H1 Q r) hp (fun z => z)
          rw [e3]
          intro b' ρ3 H3 m3 le3 eb
          have eb : b = b' := eb
          subst eb
          have ez3 := le3.z
          cases b with
          | true =>
            rw [if_pos rfl, R.bind_assoc] at hp
            obtain ⟨y, M4, e4, hp⟩ := calm_bind (P := fun r => post (RelD X.K) X.K xc W ρ1 M1 σ H1 Q r) hp (fun z => z)
            rw [if_pos rfl]
            refine ⟨ρ3, l2, M3, S2.le m3 le3, ?_⟩
            rw [e4]
            intro v ρ4 H4 m4 le4 rv
            obtain ⟨c4, z4⟩ := ρ4
            have ez4 : z4 = (Dl, us) :: ρ1.z := le4.z.trans ez3
            subst ez4
            have hp : post (RelD X.K) X.K xc W ρ1 M1 σ H1 Q ((lcL w (lcB ft fe t (own.map (·.2)) l) (xs.drop (i + 1)) M4).bind fun zs M5 => finL c (acc ++ y :: zs) M5) := by
              have hp : post (RelD X.K) X.K xc W ρ1 M1 σ H1 Q (((lcL w (lcB ft fe t (own.map (·.2)) l) (xs.drop (i + 1)) M4).bind fun zs M5 => R.ok (y :: zs) M5).bind fun ys M3 => finL c (acc ++ ys) M3) := hp
              rw [R.bind_assoc] at hp
              exact hp
            have hlen : us.length < sizeLine := by
              cases e5 : lcL w (lcB ft fe t (own.map (·.2)) l) (xs.drop (i + 1)) M4 with
              | stuck => rw [e5] at hp; exact hp.elim
              | exc c5 m5 =>
                have noex : ∀ (ds : List D) (M : Mem) (c5 : Nat) (m5 : Mem), lcL w (lcB ft fe t (own.map (·.2)) l) ds M ≠ .exc c5 m5 := by
                  intro ds
                  induction ds with
                  | nil => intro M c5 m5; simp only [lcL]; split <;> (intro z; cases z)
                  | cons d ds ih =>
                    intro M c5 m5
                    simp only [lcL]
                    split
                    · simp only [lcB]
                      cases setT t d (wipeL l (own.map (·.2))) with
                      | none => intro z; cases z
                      | some l3 =>
                        simp only
                        cases ft l3 M with
                        | stuck => intro z; cases z
                        | exc _ _ => intro z; cases z
                        | ok b M6 =>
                          simp only [R.calm, R.bind]
                          cases b with
                          | true =>
                            simp only [if_true]
                            cases fe l3 M6 with
                            | stuck => intro z; cases z
                            | exc _ _ => intro z; cases z
                            | ok x M7 =>
                              simp only
                              have := ih M7
                              cases e6 : lcL w (lcB ft fe t (own.map (·.2)) l) ds M7 with
                              | ok _ _ => intro z; cases z
                              | stuck => intro z; cases z
                              | exc c8 m8 => exact absurd e6 (this c8 m8)
                          | false =>
                            simp only [Bool.false_eq_true, if_false]
                            have := ih M6
                            cases e6 : lcL w (lcB ft fe t (own.map (·.2)) l) ds M6 with
                            | ok _ _ => intro z; cases z
                            | stuck => intro z; cases z
                            | exc c8 m8 => exact absurd e6 (this c8 m8)
                    · intro z; cases z
                exact absurd e5 (noex _ _ _ _)
              | ok zs M5 =>
                rw [e5] at hp
                have hp : post (RelD X.K) X.K xc W ρ1 M1 σ H1 Q (finL c (acc ++ y :: zs) M5) := hp
                unfold finL at hp
                split at hp
                · rename_i hl
                  rw [List.length_append, List.length_cons] at hl
                  rw [← ra.length]
                  omega
                · exact hp.elim
            refine ⟨us, m4.zin _ _ List.mem_cons_self, hlen, hlt, c4, M4, acc ++ [y], us ++ [v], (m4.fill hz).1, (lw2.trans (le3.w.trans le4.w)).trans (m4.fill hz).2, ?_, by
              have e9 : acc ++ [y] ++ [] = acc ++ [y] := List.append_nil _
              simp only [List.append_assoc, List.singleton_append]
              exact hp⟩
            have k := (le2.w.trans (le3.w.trans le4.w)).trans (m4.fill (vs := us ++ [v]) hz).2
            exact (ra.monoW k).append (RelDs.cons (rv.monoW (m4.fill (vs := us ++ [v]) hz).2) RelDs.nil)
          | false =>
            rw [if_neg (by decide)] at hp ⊢
            obtain ⟨c3, z3⟩ := ρ3
            have ez3 : z3 = (Dl, us) :: ρ1.z := ez3
            subst ez3
            refine ⟨hlt, c3, M3, acc, us, m3, lw2.trans le3.w, ra.monoW (le2.w.trans le3.w), ?_⟩
            have hp : post (RelD X.K) X.K xc W ρ1 M1 σ H1 Q ((lcL w (lcB ft fe t (own.map (·.2)) l) (xs.drop (i + 1)) M3).bind fun zs M5 => finL c (acc ++ zs) M5) := by
              have e8 : ∀ (r : R (List D)), (r.bind fun zs M2 => R.ok zs M2) = r := fun r => by cases r <;> rfl
              have hp : post (RelD X.K) X.K xc W ρ1 M1 σ H1 Q (((lcL w (lcB ft fe t (own.map (·.2)) l) (xs.drop (i + 1)) M3).bind fun zs M5 => R.ok zs M5).bind fun zs M5 => finL c (acc ++ zs) M5) := hp
              rw [e8] at hp
              exact hp
            exact hp
      · rw [if_neg st] at hp; exact hp.elim
    · have hnil : xs.drop i = [] := List.drop_eq_nil_of_le hge
      rw [hnil] at hp
      simp only [lcL] at hp
      by_cases st : stays w M' = true
      · rw [if_pos st] at hp
        refine .inl ⟨wk.stop i _ M' H' mm lw st hge, ?_⟩
        have hp : post (RelD X.K) X.K xc W ρ1 M1 σ H1 Q (finL c (acc ++ []) M') := hp
        rw [List.append_nil] at hp
        unfold finL at hp
        split at hp
        · exact fill_al mm hz rfl lw ra hp
        · exact hp.elim
      · rw [if_neg st] at hp; exact hp.elim
theorem me_lc {elt tg iter : Expr} {ifs : List Expr} {scope : Scope} {own : List (Str × Nat)} {po : Pos} {c : Bool} {t : T} {fi : Lo → Mem → R (List D × Wk)} {ft : Lo → Mem → R Bool} {fe : Lo → Mem → R D} (hc : X.calm = true) (hN : X.N.Nodup) (hi : PI X tg iter (rdI X.K xc W fi)) (ok : BlkOk X.N X.env.scope scope own)
    (hsl : ∀ i ∈ t.slots, i ∈ own.map (·.2))
    (hg : ∀ (s : Shared) (H : Hp) (C : Addr) (cl : List (Str × Addr)) (fp : List Addr), PG (X.blk s H scope (compEnvC scope cl C X.env) fp) tg (rdG X.K (setT t) t.slots)) (ht : ∀ (s : Shared) (H : Hp) (C : Addr) (cl : List (Str × Addr)) (fp : List Addr), PTs (X.blk s H scope (compEnvC scope cl C X.env) fp) ifs (rdT X.K xc WF ft))
    (he : ∀ (s : Shared) (H : Hp) (C : Addr) (cl : List (Str × Addr)) (fp : List Addr), PE (X.blk s H scope (compEnvC scope cl C X.env) fp) elt (rdE X.K xc WF fe)) (hs : ∀ x, foldedSetIterable iter X.env x = pure x) :
    PE X (.ListComp elt [⟨tg, iter, ifs, 0⟩] scope po) (rdE X.K xc W fun l M => (fi l M).bind fun r M2 => (lcL r.2 (lcB ft fe t (own.map (·.2)) l) r.1 M2).bind fun ys M3 => finL c ys M3) := by
  exact PE.imp (pe_lc hc hN hi ok hg ht he hs) fun σ H Q h => lc_read hsl h
end
end Mini

/-! Mini, part La: slices with a step; texts put together. -/
namespace Mini
open PySem PySem.Spec PyProof.Rows L2

section
variable {X : Cx} {xc : Nat → Addr} {W : WX}
def SlRS (X : Cx) (r : V → Option Int → Option Int → Int → Hp → VK → Prop) : Prop :=
  ∀ (pins : List (Addr × Obj)) (s : Shared) (σ : L2.St) (H : Hp) (x : V) (v vl vu vs : Value) (lo hi : Option Int) (st : Int) (sl : Addr) (Q : VK), Inv X pins σ H s → RelV x v → s.heap.IsSliceOf sl vl vu vs → IsPart vl lo → IsPart vu hi → IsPart vs (some st) → r x lo hi st H Q →
    ∃ T id, typeLookup (.type T) "__getitem__" = pure (some (.builtin id)) ∧ s.TypeIs v T ∧ wpAny (model X.prog X.w) X.A (getItem v (.ref sl)) (EP X pins σ Q) X.xe s
theorem pe_sliceS {r : V → Option Int → Option Int → Int → Hp → VK → Prop} {e : Expr} {lo hi : Option Expr} {st : Expr} {p2 pos : Pos} {te : TE} {tl th ts : TO} (hr : SlRS X r) (he : PE X e te) (hl : PO X lo tl) (hu : PO X hi th) (hs : PO X (some st) ts) :
    PE X (.Subscript e (.Slice lo hi (some st) p2) pos) (fun σ H Q => te σ H fun x H1 => tl σ H1 fun l H2 => th σ H2 fun u H3 => ts σ H3 fun o H4 => ∃ i, o = some i ∧ r x l u i H4 Q) := by
  refine ⟨fun pins s σ H Q I h => ?_⟩
  refine Subscript_ (thn (he.run pins s σ H _ I h) fun v s1 ⟨x, H1, I1, r1, q1⟩ => ?_)
  refine wpAny_Slice (thn (hl.run pins s1 σ H1 _ I1 q1) fun vl s2 ⟨l, H2, I2, pl, q2⟩ => thn (hu.run pins s2 σ H2 _ I2 q2) fun vu s3 ⟨u, H3, I3, pu, q3⟩ => thn (hs.run pins s3 σ H3 _ I3 q3) fun vs s4 ⟨o, H4, I4, ps, i, ho, q4⟩ => ?_)
  subst ho
  have I5 : Inv X pins σ H4 { s4 with heap := s4.heap.push { cls := .type "slice", data := .fields #[vl, vu, vs] } } := I4.kept (t' := s4.toks) fun b ob q => Heap.get?_push_of_some _ q
  obtain ⟨T, id, hT, ht, hg⟩ := hr pins { s4 with heap := s4.heap.push { cls := .type "slice", data := .fields #[vl, vu, vs] } } σ H4 x v vl vu vs l u i s4.heap.objs.size Q I5 r1 (Heap.IsSliceOf.new ..) pl pu ps q4
  show wpAny (model X.prog X.w) X.A (subscriptTail e (.Slice lo hi (some st) p2) v (.ref s4.heap.objs.size)) (EP X pins σ Q) X.xe { s4 with heap := s4.heap.push { cls := .type "slice", data := .fields #[vl, vu, vs] } }
  exact tail_any (ops := [v, .ref s4.heap.objs.size]) ht hT hg (by with_unfolding_all rfl)
theorem pick_vals {xs : List V} {us : List Value} (r : Vals xs us) : ∀ ks : List Nat, Vals (ks.filterMap (xs[·]?)) (ks.filterMap (us[·]?))
  | [] => by first | exact .nil | (show Vals [] []; constructor)
  | k :: ks => by
    have ih := pick_vals r ks
    cases e : xs[k]? with
    | none =>
      have e2 := r.none_of e
      rw [List.filterMap_cons_none e, List.filterMap_cons_none e2]
      exact ih
    | some x =>
      obtain ⟨u, e2, rx⟩ := r.get e
      rw [List.filterMap_cons_some e, List.filterMap_cons_some e2]
      have one : Vals [x] [u] := .cons rx .nil
      exact Vals.append one ih
theorem pick_rel {K : PySem.W.Frag} {G : Hp} {ρ : Rho} {xs : List D} {vs : List V} (r : RelDs K G ρ xs vs) : ∀ ks : List Nat, RelDs K G ρ (ks.filterMap (xs[·]?)) (ks.filterMap (vs[·]?))
  | [] => RelDs.nil
  | k :: ks => by
    have ih := pick_rel r ks
    cases e : xs[k]? with
    | none =>
      have e2 : vs[k]? = none := by
        rw [List.getElem?_eq_none_iff] at e ⊢
        rw [← r.length]; exact e
      rw [List.filterMap_cons_none e, List.filterMap_cons_none e2]
      exact ih
    | some x =>
      obtain ⟨u, e2, rx⟩ := r.get e
      rw [List.filterMap_cons_some e, List.filterMap_cons_some e2]
      exact RelDs.cons rx ih
def rSlLS (K : PySem.W.Frag) : V → Option Int → Option Int → Int → Hp → VK → Prop := fun x lo hi st H Q => ∃ a xs, x = .ref a ∧ st ≠ 0 ∧ SqL K H a xs ∧ ∀ p, H p = none → Q (.ref p) (upd H p (.lst (pickL xs lo hi st)))
theorem sl_listS : SlRS X (rSlLS X.K) := by
  intro pins s σ H x v vl vu vs lo hi st sl Q I rx hs pl pu ps h
  obtain ⟨a, xs, rfl, h0, hx, q⟩ := h
  cases rx
  obtain ⟨its, r, ht, hz⟩ := I.list hx
  have hlen := r.length
  refine ⟨"list", _, slot_list_getitem.lookup, ht.isList.typeIs, ?_⟩
  refine wpAny_getItem_list_slice ht.isList hs pl pu ps (by intro e; injection e with e; exact h0 e) ?_ (by rw [List.size_toArray] <;> omega)
  have e : slicePick its.toArray lo hi (some st) = ((pickI xs.length lo hi st).filterMap (its[·]?)).toArray := by
    unfold slicePick pickI
    rw [List.size_toArray, hlen]
    simp only [List.getElem?_toArray]
  have hz2 : (pickL xs lo hi st).length ≤ sizeLine := by
    have h1 := slicePick_size_le its.toArray lo hi (some st)
    rw [e, List.size_toArray, List.size_toArray] at h1
    have h2 := (pick_vals r (pickI xs.length lo hi st)).length
    unfold pickL
    omega
  rw [e]
  refine ⟨.ref s.heap.objs.size, _, I.laid (t' := s.toks) (o := .lst (pickL xs lo hi st)) (fun b ob q => Heap.get?_push_of_some _ q) (Nat.le_refl _) ?_, rfl, q _ (I.hok.fresh (Nat.le_refl _))⟩
  exact ⟨hz2, _, 0, pick_vals r _, Heap.get?_push_size _ rfl⟩
def rSlDS (K : PySem.W.Frag) (g : D → Option Int → Option Int → Int → Mem → Option (D × Mem)) : V → Option Int → Option Int → Int → Hp → VK → Prop := fun x lo hi st H Q => ∃ ρ M d, MemOk K ρ M H ∧ RelD K (hd ρ M H) ρ d x ∧ postO K ρ M H Q (g d lo hi st M)
theorem slS_D {c : Bool} : SlRS X (rSlDS X.K (slsD c)) := by
  intro pins s σ H x v vl vu vs lo hi st sl Q I rx hs pl pu ps hq
  obtain ⟨ρ, M, d, m, r1, q⟩ := hq
  unfold slsD at q
  split at q
  · exact q.elim
  · rename_i h0
    split at q
    · rename_i xs h1
      obtain ⟨a, us, rfl, sa, ra⟩ := seq_ok m r1 h1
      refine sl_listS pins s σ H _ v vl vu vs lo hi st sl Q I rx hs pl pu ps ⟨_, _, rfl, h0, sa, fun p hp => al_ok m ?_ q hp⟩
      unfold pickL
      rw [ra.length]
      exact pick_rel ra _
    · exact q.elim
theorem me_sls {c : Bool} {e : Expr} {lo hi : Option Expr} {st : Expr} {p2 pos : Pos} {fe fs : Lo → Mem → R D} {fl fh : Lo → Mem → R (Option Int)} (he : PE X e (rdE X.K xc W fe)) (hl : PO X lo (rd RelI X.K xc W fl)) (hu : PO X hi (rd RelI X.K xc W fh)) (hs : PE X st (rdE X.K xc W fs)) :
    PE X (.Subscript e (.Slice lo hi (some st) p2) pos) (rdE X.K xc W fun l M => (fe l M).bind fun x M1 => (fl l M1).bind fun i M2 => (fh l M2).bind fun j M3 => (stpD (fs l M3)).bind fun k M4 => ofO (slsD c x i j k M4)) := by
  refine PE.imp (pe_sliceS (slS_D (c := c)) he hl hu (po_some hs)) ?_
  rintro σ H Q ⟨ρ, l, M, S, h⟩
  obtain ⟨ρ0, l0, M0, S0, h0⟩ := run1 (Rel := RelD X.K) S h
  refine ⟨ρ0, l0, M0, S0, h0.imp ?_⟩
  rintro x H1 ⟨ρ1, M1, d, S1, r1, k1, h1⟩
  obtain ⟨ρ2, l2, M2, S2, h2⟩ := run1 (f := fl) (Rel := RelI) S1 h1
  refine ⟨ρ2, l2, M2, S2, h2.imp ?_⟩
  rintro y H2 ⟨ρ3, M3, e, S3, r3, k3, h3⟩
  have r3 : e = y := r3
  subst r3
  obtain ⟨ρ4, l4, M4, S4, h4⟩ := run1 (f := fh) (Rel := RelI) S3 h3
  refine ⟨ρ4, l4, M4, S4, h4.imp ?_⟩
  rintro z H4 ⟨ρ5, M5, g, S5, r5, k5, h5⟩
  have r5 : g = z := r5
  subst r5
  simp only [stpD, R.bind_assoc] at h5
  obtain ⟨ρ6, l6, M6, S6, h6⟩ := run1 (f := fs) (Rel := RelD X.K) S5 h5
  refine ⟨ρ6, l6, M6, S6, h6.imp ?_⟩
  rintro w H6 ⟨ρ7, M7, b, S7, r7, k7, h7⟩
  cases b with
  | ref _ => exact h7.elim
  | tr _ => exact h7.elim
  | p y => cases y with
    | int i =>
      cases relP r7
      exact ⟨i, rfl, i, rfl, ρ7, M7, d, S7.mem, ((r1.mono k3).mono k5).mono k7, postO_of h7⟩
    | _ => exact h7.elim
/-! ### f-strings: texts and ints one behind the other -/
theorem me_fmt {e : Expr} {pos : Pos} {fe : Lo → Mem → R D} (he : PE X e (rdE X.K xc W fe)) : PE X (.FormattedValue e (-1) none pos) (rdE X.K xc W fun l M => fmtR (fe l M)) := by
  refine PE.imp (pe_fmt he) ?_
  rintro σ H Q ⟨ρ, l, M, S, h⟩
  obtain ⟨ρ0, l0, M0, S0, h0⟩ := run1 (Rel := RelD X.K) S h
  refine ⟨ρ0, l0, M0, S0, h0.imp ?_⟩
  rintro x H1 ⟨ρ1, M1, d, S1, r1, k1, h1⟩
  unfold fmtD at h1
  cases d with
  | ref _ => exact h1.elim
  | tr _ => exact h1.elim
  | p y => cases y with
    | str z =>
      simp only at h1
      split at h1
      · rename_i o e
        split at e
        · rename_i hl
          cases e
          cases relP r1
          exact .inl ⟨_, rfl, hl, h1 _ ρ1 H1 S1.mem (Le.refl _ _) (Pr (.str _))⟩
        · cases e
      · exact h1.elim
    | int i =>
      simp only at h1
      split at h1
      · rename_i o e
        split at e
        · rename_i hl
          cases e
          cases relP r1
          exact .inr ⟨_, rfl, hl, h1 _ ρ1 H1 S1.mem (Le.refl _ _) (Pr (.str _))⟩
        · cases e
      · exact h1.elim
    | _ => exact h1.elim
theorem jn_inv {acc s : Str} {x : D} {M M' : Mem} (h : jnD acc x M = .ok s M') : ∃ y, x = .p (.str y) ∧ (acc ++ y).length ≤ sizeLine ∧ s = acc ++ y ∧ M' = M := by
  unfold jnD at h
  split at h
  · split at h
    · rename_i hl
      cases h
      exact ⟨_, rfl, hl, rfl, rfl⟩
    · cases h
  · cases h
theorem jn_not {acc : Str} {x : D} {M M' : Mem} {c : Nat} (h : jnD acc x M = .exc c M') : False := by
  unfold jnD at h
  split at h
  · split at h <;> cases h
  · cases h
/-- one part of an f-string and the rest -/
theorem tj_cons {e : Lo → Mem → R D} {acc : Str} {rest : Str → Lo → Mem → R D} {ts : List TE} {σ : L2.St} {H : Hp} {Q : VK} (hr : ∀ acc σ H Q, rdE X.K xc W (rest acc) σ H Q → tJs ts acc σ H fun out H1 => Q (.str out) H1)
    (h : rdE X.K xc W (fun l M => (e l M).bind fun x M1 => (jnD acc x M1).bind fun s M2 => rest s l M2) σ H Q) : tJs (rdE X.K xc W e :: ts) acc σ H fun out H1 => Q (.str out) H1 := by
  obtain ⟨ρ, l, M, S, h⟩ := h
  obtain ⟨ρ0, l0, M0, S0, h0⟩ := run1 (Rel := RelD X.K) S h
  refine ⟨ρ0, l0, M0, S0, h0.imp ?_⟩
  rintro x H1 ⟨ρ1, M1, d, S1, r1, k1, h1⟩
  cases e1 : jnD acc d M1 with
  | stuck => rw [e1] at h1; exact h1.elim
  | exc c m => exact (jn_not e1).elim
  | ok s M2 =>
    rw [e1] at h1
    obtain ⟨y, rfl, hl, rfl, rfl⟩ := jn_inv e1
    cases relP r1
    exact ⟨y, rfl, hl, hr _ _ _ _ ⟨ρ1, l, _, S1, h1⟩⟩
/-! ### dict comprehensions -/
theorem dcL_noexc {m : Nat} {w : Wk} {ft : Lo → Mem → R Bool} {fk fv : Lo → Mem → R D} {t : T} {own : List Nat} {l : Lo} : True := trivial
theorem dc_read {own : List (Str × Nat)} {t : T} {fi : Lo → Mem → R (List D × Wk)} {ft : Lo → Mem → R Bool} {fk fv : Lo → Mem → R D} (hsl : ∀ i ∈ t.slots, i ∈ own.map (·.2)) {σ : L2.St} {H : Hp} {Q : VK}
    (h : rdE X.K xc W (fun l M => (fi l M).bind fun r M2 => dcL M2.length r.2 (dcB ft fk fv t (own.map (·.2)) l) r.1 (M2 ++ [.dct []])) σ H Q) :
    tDc (rdI X.K xc W fi) (rdG X.K (setT t) t.slots) (rdT X.K xc WF ft) (rdE X.K xc WF fk) (rdE X.K xc WF fv) (own.map (·.2)) σ H Q := by
  obtain ⟨ρ, l, M, S, h⟩ := h
  refine ⟨ρ, l, M, S, ?_⟩
  cases e : fi l M with
  | stuck => simp only [e] at h; exact h.elim
  | exc cc m => simp only [e] at h; exact h
  | ok r M1 =>
    obtain ⟨xs, w⟩ := r
    simp only [e] at h
    have h : post (RelD X.K) X.K xc W ρ M σ H Q (dcL M1.length w (dcB ft fk fv t (own.map (·.2)) l) xs (M1 ++ [.dct []])) := h
    intro J ρ1 H1 m1 le1 wk Dl hD
    have h := h.le le1
    obtain ⟨m2, le2⟩ := m1.newDct (kds := []) (vs := []) hD RelDs.nil
    let Inv' : Nat → Hp → Prop := fun i H' => i ≤ xs.length ∧ ∃ (ρ' : Rho) (M' : Mem), MemOk X.K ρ' M' H' ∧ Le (hd ρ1 M1 H1) (hd ρ' M' H') ρ1 ρ' ∧ ρ'.c[M1.length]? = some Dl ∧
      post (RelD X.K) X.K xc W ρ1 M1 σ H1 Q (dcL M1.length w (dcB ft fk fv t (own.map (·.2)) l) (xs.drop i) M')
    refine ⟨fun i m H' => m = xs.length - i ∧ Inv' i H', ⟨_, rfl, Nat.zero_le _, ⟨ρ1.c ++ [Dl], ρ1.z⟩, M1 ++ [.dct []], m2, le2, by show (ρ1.c ++ [Dl])[M1.length]? = some Dl; rw [← m1.len]; simp, by simpa using h⟩, ?_⟩
    rintro i m H' ⟨rfl, hi, ρ', M', mm, le, hat, hp⟩
    have lw := le.w
    rcases Nat.lt_or_ge i xs.length with hlt | hge
    · have hd1 : xs.drop i = xs[i] :: xs.drop (i + 1) := by rw [List.drop_eq_getElem_cons hlt]
      rw [hd1] at hp
      simp only [dcL] at hp
      by_cases st : stays w M' = true
      · rw [if_pos st] at hp
        obtain ⟨go, yl⟩ := wk.go i _ M' H' xs[i] mm lw st (List.getElem?_eq_getElem hlt)
        refine .inr ⟨go, Inv' (i + 1), fun H2 q => ⟨_, by omega, rfl, q⟩, fun x H2 y => ?_⟩
        obtain ⟨mm2, le2, rx⟩ := yl x H2 y
        have le3 := le.trans le2
        refine ⟨_, wipeL l (own.map (·.2)), M', xs[i], (S.le m1 le1).wipe mm2 le3.w _, rx, ?_⟩
        simp only [dcB] at hp
        cases e2 : setT t xs[i] (wipeL l (own.map (·.2))) with
        | none => simp only [e2] at hp; exact hp.elim
        | some l2 =>
          simp only [e2] at hp
          intro σ2 S2 off
          refine ⟨wipe_off off hsl, ?_⟩
          refine ⟨_, l2, M', S2, ?_⟩
          rw [R.bind_assoc] at hp
          obtain ⟨b, M3, e3, hp⟩ := calm_bind (P := fun r => post (RelD X.K) X.K xc W ρ1 M1 σ H1 Q r) hp (fun z => z)
          rw [e3]
          intro b' ρ3 H3 m3 le4 eb
          have eb : b = b' := eb
          subst eb
          cases b with
          | true =>
            rw [if_pos rfl, R.bind_assoc] at hp
            obtain ⟨kx, M4, e4, hp⟩ := calm_bind (P := fun r => post (RelD X.K) X.K xc W ρ1 M1 σ H1 Q r) hp (fun z => z)
            rw [R.bind_assoc] at hp
            obtain ⟨vx, M5, e5, hp⟩ := calm_bind (P := fun r => post (RelD X.K) X.K xc W ρ1 M1 σ H1 Q r) hp (fun z => z)
            rw [if_pos rfl]
            refine ⟨ρ3, l2, M3, S2.le m3 le4, ?_⟩
            rw [e4]
            intro kv ρ4 H4 m4 le5 rk
            refine ⟨ρ4, l2, M4, (S2.le m3 le4).le m4 le5, ?_⟩
            rw [e5]
            intro vv ρ5 H5 m5 le6 rv
            have hp : post (RelD X.K) X.K xc W ρ1 M1 σ H1 Q (match keyD kx, M5[M1.length]? with
              | some k, some (.dct kds) => if kds.length < sizeLine then dcL M1.length w (dcB ft fk fv t (own.map (·.2)) l) (xs.drop (i + 1)) (M5.set M1.length (.dct (putKD kds k vx))) else .stuck
              | _, _ => .stuck) := hp
            have lall := (((le3.trans le4).trans le5).trans le6)
            have hat5 : ρ5.c[M1.length]? = some Dl := le6.r _ _ (le5.r _ _ (le4.r _ _ (le2.r _ _ hat)))
            cases ek : keyD kx with
            | none => rw [ek] at hp; exact hp.elim
            | some k =>
              cases em : M5[M1.length]? with
              | none => rw [ek, em] at hp; exact hp.elim
              | some cell =>
                cases cell with
                | lst _ => rw [ek, em] at hp; exact hp.elim
                | dead => rw [ek, em] at hp; exact hp.elim
                | dct kds =>
                  rw [ek, em] at hp
                  simp only at hp
                  split at hp
                  · rename_i hz
                    obtain ⟨a, us, ha, hH, rr⟩ := m5.atD em
                    rw [hat5] at ha
                    cases ha
                    have ey := keyD_rel rk ek
                    subst ey
                    obtain ⟨ws, w1, w2⟩ := putKD_rel (k := k) rv rr
                    obtain ⟨m6, le7⟩ := m5.setDct em hat5 w2
                    have hl := rr.length
                    rw [List.length_map] at hl
                    refine ⟨_, k, rfl, hH, by rw [List.length_zip, List.length_map, ← hl, Nat.min_self]; exact hz, ?_⟩
                    rw [w1]
                    exact ⟨hlt, ρ5, _, m6, lall.trans le7, hat5, hp⟩
                  · exact hp.elim
          | false =>
            rw [if_neg (by decide)] at hp ⊢
            exact ⟨hlt, ρ3, M3, m3, le3.trans le4, le4.r _ _ (le2.r _ _ hat), hp⟩
      · rw [if_neg st] at hp; exact hp.elim
    · have hnil : xs.drop i = [] := List.drop_eq_nil_of_le hge
      rw [hnil] at hp
      simp only [dcL] at hp
      by_cases st : stays w M' = true
      · rw [if_pos st] at hp
        refine .inl ⟨wk.stop i _ M' H' mm lw st hge, ?_⟩
        refine hp (.ref Dl) ρ' H' mm le ?_
        unfold RelD
        exact ⟨Dl, hat, rfl⟩
      · rw [if_neg st] at hp; exact hp.elim
theorem me_dcp {ke ve tg iter : Expr} {ifs : List Expr} {scope : Scope} {own : List (Str × Nat)} {po : Pos} {t : T} {fi : Lo → Mem → R (List D × Wk)} {ft : Lo → Mem → R Bool} {fk fv : Lo → Mem → R D} (hc : X.calm = true) (hN : X.N.Nodup) (hi : PI X tg iter (rdI X.K xc W fi)) (ok : BlkOk X.N X.env.scope scope own)
    (hsl : ∀ i ∈ t.slots, i ∈ own.map (·.2))
    (hg : ∀ (s : Shared) (H : Hp) (C : Addr) (cl : List (Str × Addr)) (fp : List Addr), PG (X.blk s H scope (compEnvC scope cl C X.env) fp) tg (rdG X.K (setT t) t.slots)) (ht : ∀ (s : Shared) (H : Hp) (C : Addr) (cl : List (Str × Addr)) (fp : List Addr), PTs (X.blk s H scope (compEnvC scope cl C X.env) fp) ifs (rdT X.K xc WF ft))
    (hk : ∀ (s : Shared) (H : Hp) (C : Addr) (cl : List (Str × Addr)) (fp : List Addr), PE (X.blk s H scope (compEnvC scope cl C X.env) fp) ke (rdE X.K xc WF fk))
    (hv : ∀ (s : Shared) (H : Hp) (C : Addr) (cl : List (Str × Addr)) (fp : List Addr), PE (X.blk s H scope (compEnvC scope cl C X.env) fp) ve (rdE X.K xc WF fv)) (hs : ∀ x, foldedSetIterable iter X.env x = pure x) :
    PE X (.DictComp ke ve [⟨tg, iter, ifs, 0⟩] scope po) (rdE X.K xc W fun l M => (fi l M).bind fun r M2 => dcL M2.length r.2 (dcB ft fk fv t (own.map (·.2)) l) r.1 (M2 ++ [.dct []])) := by
  exact PE.imp (pe_dc hc hN hi ok hg ht hk hv hs) fun σ H Q h => dc_read hsl h
end
end Mini

/-! Mini, part H: {}, list(range(..)), sets at once. -/
namespace Mini
open PySem PySem.Spec PyProof.Rows L2

section
variable {K : PySem.W.Frag} {G : Hp} {ρ : Rho}
theorem keysD_rel : ∀ {ds : List D} {vs : List V} {ks : List Key}, RelDs K G ρ ds vs → keysD ds = some ks → vs = ks.map kV
  | [], vs, ks, r, h => by cases h; unfold RelDs at r; exact r
  | d :: ds, vs, ks, r, h => by
    obtain ⟨v, w, rfl, r1, r2⟩ := r.inv
    unfold keysD at h
    split at h
    · rename_i k ks' h1 h2
      cases h
      rw [keyD_rel r1 h1, keysD_rel r2 h2]
      rfl
    · cases h
theorem kD_rel : ∀ ks : List Key, RelDs K G ρ (ks.map fun k => .p (kD k)) (ks.map kV)
  | [] => RelDs.nil
  | k :: ks => RelDs.cons (by cases k with
    | inl i => exact Pr (.int i)
    | inr z => exact Pr (.str z)) (kD_rel ks)
theorem rngD_rel (lo : Int) (n : Nat) : RelDs K G ρ (rngD lo n) (rngV lo n) := by
  unfold rngD rngV
  generalize List.range n = l
  induction l with
  | nil => exact RelDs.nil
  | cons k l ih => exact RelDs.cons (Pr (.int _)) ih
end
section
variable {X : Cx} {xc : Nat → Addr} {W : WX}
theorem me_dc0 {po : Pos} : PE X (.Dict [] [] po) (rdE X.K xc W fun _ M => .ok (.ref M.length) (M ++ [.dct []])) := by
  refine PE.imp pe_dnewK ?_
  rintro σ H Q ⟨ρ, l, M, S, h⟩ p hp
  obtain ⟨m, le⟩ := S.mem.newDct (kds := []) (vs := []) hp RelDs.nil
  refine h (.ref p) _ _ m le ?_
  unfold RelD
  exact ⟨p, by show (ρ.c ++ [p])[M.length]? = some p; rw [← S.mem.len]; simp, rfl⟩
theorem me_lrg {e : Expr} {es : List Expr} {p p2 q po : Pos} {c : Bool} {fs : Lo → Mem → R (List D)} (hc : X.calm = true) (hg : Gl X "list") (hm : X.mg "list" = none) (hg2 : Gl X "range") (hm2 : X.mg "range" = none) (ha : PA X (e :: es) (rdA X.K xc W fs))
    (hs : starEach (e :: es) X.env = (false, eval e X.env) :: starEach es X.env) (hpl : (backTo q (starEach es X.env)).any (·.1) = false) :
    PE X (.Call (.Name "list" p) [.Call (.Name "range" p2) (e :: es) [] q] [] po) (rdE X.K xc W fun l M => (fs l M).bind fun ds M1 => ofO (lrgD c ds M1)) := by
  refine PE.imp (pe_lrg hc hg hm hg2 hm2 ha hs hpl) ?_
  rintro σ H Q ⟨ρ, l, M, S, h⟩
  obtain ⟨ρ0, l0, M0, S0, h0⟩ := run1 (Rel := RelDs X.K) S h
  refine ⟨ρ0, l0, M0, S0, h0.imp ?_⟩
  rintro vs H1 ⟨ρ1, M1, ds, S1, r1, k1, h1⟩
  have h1 := postO_of h1
  unfold lrgD at h1
  cases e1 : rngI ds with
  | none => rw [e1] at h1; exact h1.elim
  | some z =>
    obtain ⟨lo, hi⟩ := z
    rw [e1] at h1
    simp only at h1
    split at h1
    · rename_i hb
      obtain ⟨⟨⟨b1, b2⟩, b3, b4⟩, few⟩ := hb
      refine ⟨lo, hi, ?_, ⟨b1, b2, b3, b4⟩, few, fun p hp => al_ok S1.mem (rngD_rel lo _) h1 hp⟩
      unfold rngI at e1
      split at e1
      · cases e1
        obtain ⟨v, rfl, rv⟩ := one_rel r1
        cases relP rv
        exact .inl ⟨rfl, rfl⟩
      · cases e1
        obtain ⟨v, u, rfl, rv, ru⟩ := two_rel r1
        cases relP rv; cases relP ru
        exact .inr rfl
      · cases e1
    · exact h1.elim
/-- what walkKD says -/
theorem walkKD_ok {pins : List (Addr × Obj)} {K : PySem.W.Frag} {ρ : Rho} {M : Mem} {H : Hp} {d : D} {x : V} {ks : List Key} (m : MemOk K ρ M H) (r : RelD K (hd ρ M H) ρ d x) (h : walkKD d M = some ks) : WalkK K H x ks := by
  unfold walkKD at h
  split at h
  · cases h; cases relP r; exact .inr ⟨_, rfl, rfl⟩
  · cases e : seqD M d with
    | none => simp only [e] at h; cases h
    | some xs =>
      simp only [e] at h
      obtain ⟨a, vs, rfl, sa, ra⟩ := seq_ok m r e
      rw [keysD_rel ra h] at sa
      exact .inl ⟨a, rfl, sa⟩
theorem me_sst {a : Expr} {q2 p2 pn po : Pos} {c : Bool} {fa : Lo → Mem → R D} (hc : X.calm = true) (hu : X.A.units + 150 < cLine) (hg : Gl X "sorted") (hm : X.mg "sorted" = none) (hg2 : Gl X "set") (hm2 : X.mg "set" = none) (ha : PE X a (rdE X.K xc W fa))
    (hs : starEach [a] X.env = (false, eval a X.env) :: starEach [] X.env) : PE X (.Call (.Name "sorted" pn) [.Call (.Name "set" q2) [a] [] p2] [] po) (rdE X.K xc W fun l M => (fa l M).bind fun x M1 => ofO (sstD c x M1)) := by
  refine PE.imp (pe_sortedX hc hu hg hm (px_set hc hg2 hm2 ha hs) rfl) ?_
  rintro σ H Q ⟨ρ, l, M, S, h⟩
  obtain ⟨ρ0, l0, M0, S0, h0⟩ := run1 (Rel := RelD X.K) S h
  refine ⟨ρ0, l0, M0, S0, h0.imp ?_⟩
  rintro x H1 ⟨ρ1, M1, d, S1, r1, k1, h1⟩
  have h1 := postO_of h1
  unfold sstD at h1
  cases e1 : walkKD d M1 with
  | none => rw [e1] at h1; exact h1.elim
  | some ks =>
    rw [e1] at h1
    simp only at h1
    split at h1
    · rename_i few
      refine ⟨ks, walkKD_ok (pins := []) S1.mem r1 e1, few, ?_⟩
      unfold sortX at h1
      split at h1
      · rename_i same
        exact ⟨same, fun p hp => al_ok S1.mem (kD_rel _) h1 hp⟩
      · exact h1.elim
    · exact h1.elim
theorem tupsD_rel {K : PySem.W.Frag} {G : Hp} {ρ : Rho} : ∀ {ds : List D} {vs : List V} {ks : List (List Key)}, RelDs K G ρ ds vs → tupsD ds = some ks → ∃ bs : List (Addr × List Key), vs = bs.map (fun p => V.ref p.1) ∧ bs.map (·.2) = ks ∧ ∀ p ∈ bs, SqT K G p.1 (p.2.map kV)
  | [], vs, ks, r, h => by
    cases h
    unfold RelDs at r
    exact ⟨[], r, rfl, fun p hp => nomatch hp⟩
  | d :: ds, vs, ks, r, h => by
    obtain ⟨v, w, rfl, r1, r2⟩ := r.inv
    unfold tupsD at h
    split at h
    · rename_i xs
      split at h
      · rename_i k ks' h1 h2
        cases h
        obtain ⟨bs, e1, e2, e3⟩ := tupsD_rel r2 h2
        obtain ⟨a, us, rfl, sa, ra⟩ : ∃ a us, v = V.ref a ∧ SqT K G a us ∧ RelDs K G ρ (xs.map .p) us := by
          have q := relP r1
          cases q with
          | tup s q => exact ⟨_, _, rfl, s, relDs_p.mpr q⟩
        have ek := keysD_rel ra h1
        rw [ek] at sa
        refine ⟨(a, k) :: bs, by rw [e1]; rfl, by rw [List.map_cons, e2], fun p hp => ?_⟩
        rcases List.mem_cons.mp hp with e | e
        · rw [e]; exact sa
        · exact e3 p e
      · cases h
    · cases h
section nst
variable {a : Expr} {q2 p2 pn po : Pos} {fa : Lo → Mem → R D}
theorem me_nstK (hc : X.calm = true) (hg : Gl X "len") (hm : X.mg "len" = none) (hg2 : Gl X "set") (hm2 : X.mg "set" = none) (ha : PE X a (rdE X.K xc W fa))
    (hs : starEach [a] X.env = (false, eval a X.env) :: starEach [] X.env) : PE X (.Call (.Name "len" pn) [.Call (.Name "set" q2) [a] [] p2] [] po) (rdE X.K xc W fun l M => (fa l M).bind fun x M1 => ofO (nstK x M1)) := by
  refine PE.imp (pe_lenX hg hm (px_set hc hg2 hm2 ha hs) rfl) ?_
  rintro σ H Q ⟨ρ, l, M, S, h⟩
  obtain ⟨ρ0, l0, M0, S0, h0⟩ := run1 (Rel := RelD X.K) S h
  refine ⟨ρ0, l0, M0, S0, h0.imp ?_⟩
  rintro x H1 ⟨ρ1, M1, d, S1, r1, k1, h1⟩
  have h1 := postO_of h1
  unfold nstK at h1
  cases e1 : walkKD d M1 with
  | none => rw [e1] at h1; exact h1.elim
  | some ks =>
    rw [e1] at h1
    simp only at h1
    split at h1
    · rename_i few
      exact ⟨ks, walkKD_ok (pins := []) S1.mem r1 e1, few, h1 _ ρ1 H1 S1.mem (Le.refl _ _) (Pr (.int _))⟩
    · exact h1.elim
theorem me_nstT (hc : X.calm = true) (hu : X.A.units + 150 < cLine) (hg : Gl X "len") (hm : X.mg "len" = none) (hg2 : Gl X "set") (hm2 : X.mg "set" = none) (ha : PE X a (rdE X.K xc W fa))
    (hs : starEach [a] X.env = (false, eval a X.env) :: starEach [] X.env) : PE X (.Call (.Name "len" pn) [.Call (.Name "set" q2) [a] [] p2] [] po) (rdE X.K xc W fun l M => (fa l M).bind fun x M1 => ofO (nstT x M1)) := by
  refine PE.imp (pe_lenT hc hu hg hm hg2 hm2 ha hs) ?_
  rintro σ H Q ⟨ρ, l, M, S, h⟩
  obtain ⟨ρ0, l0, M0, S0, h0⟩ := run1 (Rel := RelD X.K) S h
  refine ⟨ρ0, l0, M0, S0, h0.imp ?_⟩
  rintro x H1 ⟨ρ1, M1, d, S1, r1, k1, h1⟩
  have h1 := postO_of h1
  unfold nstT at h1
  cases e1 : seqD M1 d with
  | none => rw [e1] at h1; exact h1.elim
  | some xs =>
    rw [e1] at h1
    simp only at h1
    cases e2 : tupsD xs with
    | none => rw [e2] at h1; exact h1.elim
    | some ks =>
      rw [e2] at h1
      simp only at h1
      split at h1
      · rename_i few
        obtain ⟨b, vs, rfl, sa, ra⟩ := seq_ok S1.mem r1 e1
        obtain ⟨bs, rfl, e4, e5⟩ := tupsD_rel ra e2
        have hl : bs.length = ks.length := by rw [← e4, List.length_map]
        refine ⟨b, bs, rfl, sa, fun p hp => sqT_mono hdH (e5 p hp), by rw [hl]; exact few, ?_⟩
        rw [e4]
        exact h1 _ ρ1 H1 S1.mem (Le.refl _ _) (Pr (.int _))
      · exact h1.elim
theorem me_nst (hc : X.calm = true) (hu : X.A.units + 150 < cLine) (hg : Gl X "len") (hm : X.mg "len" = none) (hg2 : Gl X "set") (hm2 : X.mg "set" = none) (ha : PE X a (rdE X.K xc W fa))
    (hs : starEach [a] X.env = (false, eval a X.env) :: starEach [] X.env) : PE X (.Call (.Name "len" pn) [.Call (.Name "set" q2) [a] [] p2] [] po) (rdE X.K xc W fun l M => (fa l M).bind fun x M1 => ofO (nstD x M1)) := by
  refine ⟨fun pins s σ H Q I ⟨ρ, l, M, S, h⟩ => ?_⟩
  have h : post (RelD X.K) X.K xc W ρ M σ H Q ((fa l M).bind fun x M1 => ofO (nstD x M1)) := h
  cases e : fa l M with
  | ok d M1 =>
    by_cases w : (walkKD d M1).isSome = true
    · refine (me_nstK hc hg hm hg2 hm2 ha hs).run pins s σ H Q I ⟨ρ, l, M, S, ?_⟩
      show post (RelD X.K) X.K xc W ρ M σ H Q ((fa l M).bind fun x M1 => ofO (nstK x M1))
      rw [e] at h ⊢
      have e2 : nstD d M1 = nstK d M1 := if_pos w
      show post (RelD X.K) X.K xc W ρ M σ H Q (ofO (nstK d M1))
      rw [← e2]
      exact h
    · refine (me_nstT hc hu hg hm hg2 hm2 ha hs).run pins s σ H Q I ⟨ρ, l, M, S, ?_⟩
      show post (RelD X.K) X.K xc W ρ M σ H Q ((fa l M).bind fun x M1 => ofO (nstT x M1))
      rw [e] at h ⊢
      have e2 : nstD d M1 = nstT d M1 := if_neg w
      show post (RelD X.K) X.K xc W ρ M σ H Q (ofO (nstT d M1))
      rw [← e2]
      exact h
  | exc c m =>
    refine (me_nstK hc hg hm hg2 hm2 ha hs).run pins s σ H Q I ⟨ρ, l, M, S, ?_⟩
    show post (RelD X.K) X.K xc W ρ M σ H Q ((fa l M).bind fun x M1 => ofO (nstK x M1))
    rw [e] at h ⊢
    exact h
  | stuck => rw [e] at h; exact h.elim
end nst
/-! ### sorted({..}) -/
theorem keysD_snoc {ds : List D} {ks : List Key} {d : D} {k : Key} (h : keysD ds = some ks) (hk : keyD d = some k) : keysD (ds ++ [d]) = some (ks ++ [k]) := by
  induction ds generalizing ks with
  | nil => cases h; simp [keysD, hk]
  | cons x ds ih =>
    unfold keysD at h
    split at h
    · rename_i k0 ks0 h1 h2
      cases h
      rw [List.cons_append]
      unfold keysD
      rw [h1, ih h2]
      rfl
    · cases h
theorem keyE_ok {r : R D} {d : D} {M : Mem} (h : keyE r = .ok d M) : r = .ok d M ∧ ∃ k, keyD d = some k := by
  cases r with
  | stuck => cases h
  | exc c m => cases h
  | ok x m =>
    unfold keyE R.bind at h
    simp only at h
    split at h
    · rename_i hk
      cases h
      exact ⟨rfl, Option.isSome_iff_exists.mp hk⟩
    · cases h
theorem ssc_read {own : List (Str × Nat)} {c : Bool} {t : T} {fi : Lo → Mem → R (List D × Wk)} {ft : Lo → Mem → R Bool} {fe : Lo → Mem → R D} (hsl : ∀ i ∈ t.slots, i ∈ own.map (·.2)) {σ : L2.St} {H : Hp} {Q : VK}
    (h : rdE X.K xc W (fun l M => (fi l M).bind fun r M2 => if r.1.length + 1 < scanBound then (lcL r.2 (lcB ft (fun l M => keyE (fe l M)) t (own.map (·.2)) l) r.1 M2).bind fun ys M3 => match keysD ys with
      | some ks => ofO (sortX c ks M3)
      | none => .stuck
    else .stuck) σ H Q) :
    tScX (rdI X.K xc W fi) (rdG X.K (setT t) t.slots) (rdT X.K xc WF ft) (rdE X.K xc WF fe) (own.map (·.2)) σ H fun ks H1 => sameK ks = true ∧ ∀ q, H1 q = none → Q (.ref q) (upd H1 q (.lst ((sortK ks).map kV))) := by
  obtain ⟨ρ, l, M, S, h⟩ := h
  refine ⟨ρ, l, M, S, ?_⟩
  cases e : fi l M with
  | stuck => simp only [e] at h; exact h.elim
  | exc cc m => simp only [e] at h; exact h
  | ok r M1 =>
    obtain ⟨xs, w⟩ := r
    simp only [e] at h
    have h : post (RelD X.K) X.K xc W ρ M σ H Q (if xs.length + 1 < scanBound then (lcL w (lcB ft (fun l M => keyE (fe l M)) t (own.map (·.2)) l) xs M1).bind fun ys M3 => match keysD ys with
      | some ks => ofO (sortX c ks M3)
      | none => .stuck
    else .stuck) := h
    split at h
    · rename_i few
      intro J ρ1 H1 m1 le1 wk
      have h := h.le le1
      let fin : List D → Mem → R D := fun ys M3 => match keysD ys with
        | some ks => ofO (sortX c ks M3)
        | none => .stuck
      let Iv : Nat → List Key → Hp → Prop := fun i ks H' => i ≤ xs.length ∧ ∃ (ρ' : Rho) (M' : Mem) (acc : List D) (ks0 : List Key), MemOk X.K ρ' M' H' ∧ Le (hd ρ1 M1 H1) (hd ρ' M' H') ρ1 ρ' ∧ keysD acc = some ks0 ∧ ks = dedupK ks0 ∧ ks0.length ≤ i ∧
        post (RelD X.K) X.K xc W ρ1 M1 σ H1 Q ((lcL w (lcB ft (fun l M => keyE (fe l M)) t (own.map (·.2)) l) (xs.drop i) M').bind fun ys M3 => fin (acc ++ ys) M3)
      refine ⟨fun i m ks H' => m = xs.length - i ∧ Iv i ks H', ⟨_, rfl, Nat.zero_le _, ρ1, M1, [], [], m1, Le.refl _ _, rfl, rfl, Nat.le_refl _, by simpa using h⟩, ?_⟩
      rintro i m ks H' ⟨rfl, hi, ρ', M', acc, ks0, mm, le', ka, rfl, kl, hp⟩
      rcases Nat.lt_or_ge i xs.length with hlt | hge
      · have hd1 : xs.drop i = xs[i] :: xs.drop (i + 1) := by rw [List.drop_eq_getElem_cons hlt]
        rw [hd1] at hp
        simp only [lcL] at hp
        by_cases st : stays w M' = true
        · rw [if_pos st] at hp
          obtain ⟨go, yl⟩ := wk.go i _ M' H' xs[i] mm le'.w st (List.getElem?_eq_getElem hlt)
          refine .inr ⟨go, Iv (i + 1), fun ks' H2 q => ⟨_, by omega, rfl, q⟩, fun x H2 y => ?_⟩
          obtain ⟨mm2, le2, rx⟩ := yl x H2 y
          have leA := le'.trans le2
          refine ⟨ρ', wipeL l (own.map (·.2)), M', xs[i], (S.le m1 le1).wipe mm2 leA.w _, rx, ?_⟩
          simp only [lcB] at hp
          cases e2 : setT t xs[i] (wipeL l (own.map (·.2))) with
          | none => simp only [e2] at hp; exact hp.elim
          | some l2 =>
            simp only [e2] at hp
            intro σ2 S2 off
            refine ⟨wipe_off off hsl, ρ', l2, M', S2, ?_⟩
            rw [R.bind_assoc, R.bind_assoc] at hp
            obtain ⟨b, M3, e3, hp⟩ := calm_bind (P := fun r => post (RelD X.K) X.K xc W ρ1 M1 σ H1 Q r) hp (fun z => z)
            rw [e3]
            intro b' ρ3 H3 m3 le3 eb
            have eb : b = b' := eb
            subst eb
            cases b with
            | true =>
              rw [if_pos rfl, R.bind_assoc] at hp
              obtain ⟨y, M4, e4, hp⟩ := calm_bind (P := fun r => post (RelD X.K) X.K xc W ρ1 M1 σ H1 Q r) hp (fun z => z)
              obtain ⟨e4, k, hk⟩ := keyE_ok e4
              rw [if_pos rfl]
              refine ⟨ρ3, l2, M3, S2.le m3 le3, ?_⟩
              rw [e4]
              intro v ρ4 H4 m4 le4 rv
              have hd4 := (dedupK_len ks0)
              refine ⟨k, keyD_rel rv hk, by omega, hlt, ρ4, M4, acc ++ [y], ks0 ++ [k], m4, leA.trans (le3.trans le4), keysD_snoc ka hk, (dedupK_snoc ks0 k).symm, by rw [List.length_append, List.length_singleton]; omega, ?_⟩
              have hp : post (RelD X.K) X.K xc W ρ1 M1 σ H1 Q (((lcL w (lcB ft (fun l M => keyE (fe l M)) t (own.map (·.2)) l) (xs.drop (i + 1)) M4).bind fun zs M5 => R.ok (y :: zs) M5).bind fun ys M3 => fin (acc ++ ys) M3) := hp
              rw [R.bind_assoc] at hp
              simp only [List.append_assoc, List.singleton_append]
              exact hp
            | false =>
              rw [if_neg (by decide)] at hp ⊢
              refine ⟨hlt, ρ3, M3, acc, ks0, m3, leA.trans le3, ka, rfl, Nat.le_succ_of_le kl, ?_⟩
              have e8 : ∀ (r : R (List D)), (r.bind fun zs M2 => R.ok zs M2) = r := fun r => by cases r <;> rfl
              have hp : post (RelD X.K) X.K xc W ρ1 M1 σ H1 Q (((lcL w (lcB ft (fun l M => keyE (fe l M)) t (own.map (·.2)) l) (xs.drop (i + 1)) M3).bind fun zs M5 => R.ok zs M5).bind fun zs M5 => fin (acc ++ zs) M5) := hp
              rw [e8] at hp
              exact hp
        · rw [if_neg st] at hp; exact hp.elim
      · have hnil : xs.drop i = [] := List.drop_eq_nil_of_le hge
        rw [hnil] at hp
        simp only [lcL] at hp
        by_cases st : stays w M' = true
        · rw [if_pos st] at hp
          have hp : post (RelD X.K) X.K xc W ρ1 M1 σ H1 Q (fin (acc ++ []) M') := hp
          rw [List.append_nil] at hp
          simp only [fin, ka] at hp
          have hp := postO_of (hp.le le')
          unfold sortX at hp
          split at hp
          · rename_i same
            exact .inl ⟨wk.stop i _ M' H' mm le'.w st hge, same, fun p hpn => al_ok mm (kD_rel _) hp hpn⟩
          · exact hp.elim
        · rw [if_neg st] at hp; exact hp.elim
    · exact h.elim
theorem me_ssc {elt tg iter : Expr} {ifs : List Expr} {scope : Scope} {own : List (Str × Nat)} {p2 pn po : Pos} {c : Bool} {t : T} {fi : Lo → Mem → R (List D × Wk)} {ft : Lo → Mem → R Bool} {fe : Lo → Mem → R D} (hc : X.calm = true) (hu : X.A.units + 150 < cLine) (hgs : Gl X "sorted") (hms : X.mg "sorted" = none) (hN : X.N.Nodup)
    (hi : PI X tg iter (rdI X.K xc W fi)) (ok : BlkOk X.N X.env.scope scope own) (hsl : ∀ i ∈ t.slots, i ∈ own.map (·.2))
    (hg : ∀ (s : Shared) (H : Hp) (C : Addr) (cl : List (Str × Addr)) (fp : List Addr), PG (X.blk s H scope (compEnvC scope cl C X.env) fp) tg (rdG X.K (setT t) t.slots)) (ht : ∀ (s : Shared) (H : Hp) (C : Addr) (cl : List (Str × Addr)) (fp : List Addr), PTs (X.blk s H scope (compEnvC scope cl C X.env) fp) ifs (rdT X.K xc WF ft))
    (he : ∀ (s : Shared) (H : Hp) (C : Addr) (cl : List (Str × Addr)) (fp : List Addr), PE (X.blk s H scope (compEnvC scope cl C X.env) fp) elt (rdE X.K xc WF fe)) (hs : ∀ x, foldedSetIterable iter X.env x = pure x) :
    PE X (.Call (.Name "sorted" pn) [.SetComp elt [⟨tg, iter, ifs, 0⟩] scope p2] [] po) (rdE X.K xc W fun l M => (fi l M).bind fun r M2 => if r.1.length + 1 < scanBound then (lcL r.2 (lcB ft (fun l M => keyE (fe l M)) t (own.map (·.2)) l) r.1 M2).bind fun ys M3 => match keysD ys with
      | some ks => ofO (sortX c ks M3)
      | none => .stuck
    else .stuck) :=
  PE.imp (pe_sortedX hc hu hgs hms (px_sc hc hN hi ok hg ht he hs) rfl) fun σ H Q h => ssc_read hsl h
end
end Mini

/-! Mini, part Lh: how keywords bind. -/
namespace Mini
open PySem PySem.Spec PyProof.Rows L2
theorem lookup_zip {ks : List Str} {ws : List Value} (nd : ks.Nodup) (l : ws.length = ks.length) (i : Nat) (hi : i < ks.length) : (ks.zip ws).lookup (ks.getD i "") = ws[i]? := by
  induction ks generalizing ws i with
  | nil => simp at hi
  | cons k ks ih =>
    cases ws with
    | nil => simp at l
    | cons w ws =>
      rw [List.nodup_cons] at nd
      cases i with
      | zero => simp
      | succ i =>
        have hi' : i < ks.length := by simpa using hi
        have hm : ks.getD i "" ∈ ks := by
          rw [List.getD_eq_getElem?_getD, List.getElem?_eq_getElem hi']
          exact List.getElem_mem hi'
        have ne : (ks.getD i "" == k) = false := by
          have : ks.getD i "" ≠ k := fun z => nd.1 (z ▸ hm)
          simpa using this
        have e1 : (k :: ks).getD (i + 1) "" = ks.getD i "" := by simp
        rw [e1, List.zip_cons_cons, List.lookup_cons, ne]
        simp only [List.getElem?_cons_succ]
        exact ih nd.2 (by simpa using l) i hi'
theorem forIn_app {β : Type} {f : (Str × Value) → (List (Str × Value) × List β) → Sem (ForInStep (List (Str × Value) × List β))} : ∀ (l acc : List (Str × Value)), ((acc ++ l).map (·.1)).Nodup →
    (∀ p ∈ l, ∀ a : List (Str × Value), a.lookup p.1 = none → f p (a, []) = pure (.yield (a ++ [p], []))) → forIn l (acc, []) f = pure (acc ++ l, [])
  | [], acc, nd, h => by simp
  | p :: l, acc, nd, h => by
    have nl : acc.lookup p.1 = none := by
      rw [List.lookup_eq_none_iff]
      intro q hq
      have : q.1 ≠ p.1 := by
        intro z
        rw [List.map_append, List.nodup_append] at nd
        exact nd.2.2 q.1 (List.mem_map.mpr ⟨q, hq, rfl⟩) p.1 (by simp) z
      simpa using this.symm
    rw [List.forIn_cons, h p List.mem_cons_self acc nl, pure_bind]
    simp only
    have := forIn_app l (acc ++ [p]) (by simpa using nd) fun q hq a ha => h q (List.mem_cons_of_mem _ hq) a ha
    rw [this]
    simp
structure PlainA (a : Arguments) (ps : List Str) : Prop where
  po : a.posonlyargs = []
  ar : a.args.map (·.arg) = ps
  ko : a.kwonlyargs = []
  va : a.vararg.isNone = true
  kw : a.kwarg.isNone = true
theorem bind_kw {x qual : Str} {params : Arguments} {body : List Stmt} {scope : Scope} {kV doc pmv : Value} {an : Option Addr} {cdv ct : Value} {ps ks : List Str} {ws : List Value} {pm : List Nat} (P : PlainA params ps)
    (nd : ks.Nodup) (l : ws.length = ks.length) (e : ps = pm.map fun i => ks.getD i "") (hp : ∀ i ∈ pm, i < ks.length) (hk : ∀ k ∈ ks, k ∈ ps) :
    bindArgs (PySem.W.fnOf x qual params body scope .none kV doc pmv an cdv ct) ⟨[], ks.zip ws⟩ = pure (ps.zip (pm.filterMap (ws[·]?))) := by
  obtain ⟨po, ar, ko, va, kw⟩ := P
  unfold bindArgs PySem.W.fnOf
  have va' : params.vararg = none := by simpa using va
  have kw' : params.kwarg = none := by simpa using kw
  simp only [po, ar, ko, va', kw', List.map_nil, List.nil_append, List.append_nil, List.zip_nil_right]
  rw [forIn_app (ks.zip ws) [] (by
    rw [List.nil_append, List.map_fst_zip (by omega)]; exact nd) (fun p hp a ha => by
      have hm : p.1 ∈ ps := hk _ (List.of_mem_zip (a := p.1) (b := p.2) hp).1
      have hc : ps.contains p.1 = true := by simpa using hm
      simp only [hc, Bool.true_or, if_true, ha, Option.isSome_none, Bool.false_eq_true, if_false])]
  have hm : ∀ n ∈ ps, ((ks.zip ws).lookup n).isNone = false := by
    intro n hn
    rw [e] at hn
    obtain ⟨i, hi, rfl⟩ := List.mem_map.mp hn
    rw [lookup_zip nd l i (hp i hi), List.getElem?_eq_getElem (by rw [l]; exact hp i hi)]
    rfl
  have hf : List.filter (fun n => (List.lookup n (ks.zip ws)).isNone) ps = [] := by
    rw [List.filter_eq_nil_iff]
    intro n hn
    rw [hm n hn]; decide
  have s0 : seqItems? Value.none = pure none := by rfl
  have d0 : ∀ n : Nat, List.drop n ([] : List Value) = [] := fun n => by simp
  have e0 : (#[] : Array Value).toList = [] := rfl
  simp only [pure_bind, s0, Option.getD_none, List.nil_append, List.length_nil, Nat.not_lt_zero, gt_iff_lt, decide_false, Bool.false_and, Bool.false_eq_true, if_false, e0, d0, Nat.sub_zero, List.take_length, hf, List.isEmpty_nil, Bool.not_true,
    List.zip_nil_right, List.forIn_nil, Option.isNone_none]
  congr 1
  clear hf hm
  subst e
  clear ar hk
  induction pm with
  | nil => rfl
  | cons i pm ih =>
    have hi := hp i List.mem_cons_self
    have hw : ws[i]? = some ws[i] := List.getElem?_eq_getElem (by rw [l]; exact hi)
    simp only [List.map_cons]
    rw [List.filterMap_cons_some (b := (ks.getD i "", ws[i])) (by rw [lookup_zip nd l i hi, hw]; rfl), List.filterMap_cons_some hw, List.zip_cons_cons]
    congr 1
    exact ih fun j hj => hp j (List.mem_cons_of_mem _ hj)
def KwB (K : PySem.W.Frag) (fd : FuncData) (ps : List Str) : Prop := ∀ (s : Shared) (ks : List Str) (ws : List Value) (pm : List Nat), ks.Nodup → ws.length = ks.length → (ps = pm.map fun i => ks.getD i "") → (∀ i ∈ pm, i < ks.length) → (∀ k ∈ ks, k ∈ ps) →
  BindsTo s fd ⟨[], ks.zip ws⟩ (ps.zip (pm.filterMap (ws[·]?)))
theorem kwB_of {K : PySem.W.Frag} {x qual : Str} {st : Stmt} {f : Addr} {fd : FuncData} {ps : List Str} (F : Fun K x qual st f fd) (P : PlainA (defArgs st) ps) : KwB K fd ps := by
  obtain ⟨oc, od, kV, doc, pmv, an, cdv, ct, osl, rfl, _, _⟩ := F.ex
  exact fun s ks ws pm nd l e hp hk => BindsTo.of_eq (bind_kw P nd l e hp hk)
end Mini

/-! Mini, part Lg: a number formatted with ">4". -/
namespace Mini
open PySem PySem.Spec PyProof.Rows L2
section
variable {X : Cx} {xc : Nat → Addr} {W : WX}
theorem digits_len (n : Nat) (h : n < 2 ^ 62) : (Nat.toDigits 10 n).length ≤ 63 := by
  have key : ∀ (k n : Nat), n < 10 ^ k → 0 < k → (Nat.toDigits 10 n).length ≤ k := by
    intro k n h hk
    exact (Nat.length_toDigits_le_iff (by decide) hk).mpr h
  refine key 63 n (Nat.lt_of_lt_of_le h ?_) (by decide)
  decide
theorem me_fm4 {e : Expr} {q1 q2 po : Pos} {fe : Lo → Mem → R D} (he : PE X e (rdE X.K xc W fe)) :
    PE X (.FormattedValue e (-1) (some (.JoinedStr [.Constant (.str ">4") 0 q1] q2)) po) (rdE X.K xc W fun l M => (fe l M).bind fun x M1 => ofO (fm4D x M1)) := by
  refine ⟨fun pins s σ H Q I ⟨ρ, l, M, S, h⟩ => ?_⟩
  refine wpAny_FormattedValue_spec (thn (he.run pins s σ H _ I (run1 (Rel := RelD X.K) S h)) fun v s1 ⟨x, H1, I1, r1, ρ1, M1, d, S1, rr, k1, h1⟩ => ?_)
  refine wpAny_JoinedStr_one ?_
  have sp : PE X (.Constant (.str ">4") 0 q1) (fun σ H Q => Q (.str ">4") H) := pe_str
  refine thn (sp.run pins s1 σ H1 (fun w H2 => w = V.str ">4" ∧ H2 = H1) I1 ⟨rfl, rfl⟩) fun u s2 hu => ?_
  obtain ⟨w, H2, I2, r2, rfl, eH⟩ := hu
  subst eH
  obtain ⟨t, rfl⟩ := r2
  refine ⟨">4", t, rfl, ?_⟩
  have h2 := postO_of h1
  clear h1
  cases d with
  | ref _ => exact h2.elim
  | tr _ => exact h2.elim
  | p y =>
    cases y with
    | int i =>
      unfold fm4D at h2
      simp only at h2
      split at h2
      · rename_i hb
        cases relP rr
        obtain ⟨t', rfl⟩ := r1
        have hl : (Nat.toDigits 10 i.natAbs).length ≤ 63 := digits_len _ (by omega)
        have tx := FS.text4 hb.1
        refine FS.fmt4 ?_ ?_ ?_
        · have : i.natAbs.log2 < 62 := by
            by_cases h0 : i.natAbs = 0
            · rw [h0]; decide
            · exact (Nat.log2_lt h0).mpr (by omega)
          omega
        · rw [tx]
          unfold FS.pad4
          show (List.toArray _).size ≤ _
          rw [sizeLine_eq]
          simp
          omega
        · refine ⟨.str _, H2, ?_, ⟨_, rfl⟩, ?_⟩
          · exact I2.tok _
          · rw [tx]
            unfold FS.pad4
            rw [List.length_map]
            exact h2 _ ρ1 H2 S1.mem (Le.refl _ _) (Pr (.str _))
      · exact h2.elim
    | _ => exact h2.elim
end
end Mini

/-! Mini, part o: calls of the text's own defs; every term holds. -/
namespace Mini
open PySem PySem.Spec PyProof.Rows L2

/-- a def keeps its promise where no repr is under way -/
structure FnG (P : Program) (w : World) (K : PySem.W.Frag) (mg : Str → Option Value) (base : Heap) (k : Nat) (f : Addr) (fd : FuncData) (ps : List Str) (sp : Sp) : Prop where
  len : ∀ vs H Q E, sp vs H Q E → vs.length = ps.length
  go : ∀ (A : Around) (outer : List Env) (s : Shared) (H : Hp) (args : Args) (us : List Value) (vs : List V) (Q : VK) (E : XK), Room k A → A.guards = some [] → Env0 P w K mg base A outer s H → BindsTo s fd args (ps.zip us) → Vals vs us → sp vs H Q E →
    codeAny (model P w) A (.call (.ref f) args) (CR (L2.CX P w) outer P w H s Q E) s
def spF (K : PySem.W.Frag) (xc : Nat → Addr) (np : Nat) (g : List D → Mem → R D) : Sp := fun vs H Q E => ∃ ρ M ds, MemOk K ρ M H ∧ RelDs K (hd ρ M H) ρ ds vs ∧ ds.length = np ∧ post (RelD K) K xc (fun c d _ H => E c d H) ρ M [] H Q (g ds M)
/-- the name f stands for a def that does g with n arguments -/
def FnAt (X : Cx) (xc : Nat → Addr) (f : Str) (ps : List Str) (g : List D → Mem → R D) : Prop :=
  ∃ (k : Nat) (a : Addr) (fd : FuncData), X.mg f = some (.ref a) ∧ PySem.W.keepIn X.K (.ref a) = true ∧ FnG X.prog X.w X.K X.mg X.base k a fd ps (spF X.K xc ps.length g) ∧ Binds X.K fd ps [] ∧ KwB X.K fd ps ∧ Room k X.A
section
variable {X : Cx} {xc : Nat → Addr} {W : WX}
theorem post_W {α β : Type} {Rel : Hp → Rho → α → β → Prop} {K : PySem.W.Frag} {ρ : Rho} {M : Mem} {σ σ' : L2.St} {H : Hp} {Q : β → Hp → Prop} {r : R α} {W' : WX} (h : post Rel K xc W ρ M σ H Q r) (hw : ∀ c H', W c none σ H' → W' c none σ' H') : post Rel K xc W' ρ M σ' H Q r := by
  cases r with
  | ok a m => exact h
  | exc c m => exact fun ρ' H' x le => hw _ _ (h ρ' H' x le)
  | stuck => exact h
theorem me_cal {f : Str} {fps : List Str} {g : List D → Mem → R D} {p po : Pos} {e : Expr} {es : List Expr} {fs : Lo → Mem → R (List D)} (F : FnAt X xc f fps g) (hgd : X.A.guards = some []) (tk : Takes X W) (hg : Gl X f) (hdb : (f == ("__debug__" : Str)) = false) (ha : PA X (e :: es) (rdA X.K xc W fs))
    (he : starEach (e :: es) X.env = (false, eval e X.env) :: starEach es X.env) (hpl : (backTo po (starEach es X.env)).any (·.1) = false) :
    PE X (.Call (.Name f p) (e :: es) [] po) (rdE X.K xc W fun l M => (fs l M).bind fun ds M1 => if ds.length = fps.length then g ds M1 else .stuck) := by
  obtain ⟨k, a, fd, hm, hk, G, hb, _, hr⟩ := F
  have call1 : ∀ {pins : List (Addr × Obj)} {σ : L2.St} {H : Hp} {s : Shared} {Q : VK} {us : List Value} {vs : List V}, Inv X pins σ H s → Vals vs us → spF X.K xc fps.length g vs H Q (fun c d H' => W c d σ H') → wpAny (model X.prog X.w) X.A (call (.ref a) us) (EP X pins σ Q) X.xe s := fun {pins σ H s Q us vs} I r h => by
    have hl : us.length = fps.length := by rw [← r.length]; exact G.len _ _ _ _ h
    have b := hb s us I.kIn (by rw [List.append_nil]; exact hl)
    rw [List.append_nil] at b
    refine wpAny_call (codeAny_mono (G.go X.A X.stack s H ⟨us, []⟩ us vs Q _ hr hgd I.env0 b r h) fun q s' hq => ?_)
    match q, hq with
    | .error e', hq => exact passAt tk σ pins H s e' s' I hq
    | .ok (.ret u), hq => exact I.after hq
    | .ok .next, hq => exact hq.elim
    | .ok .brk, hq => exact hq.elim
    | .ok .cont, hq => exact hq.elim
  refine ⟨fun pins s σ H Q I ⟨ρ, l, M, S, h⟩ => ?_⟩
  refine wpAny_Call_Name_kw (ld_glob I hg hm ?_ hdb)
  have run := ha.run po pins s σ H _ I (run1 (Rel := RelDs X.K) S h)
  refine PySem.W.callWith_K (h₀ := X.base) I.ok.mod.kin hk (thn run fun us s1 ⟨vs, H1, I1, r, ρ1, M1, ds, S1, r1, k1, h1⟩ => ⟨I1.kIn, ?_⟩) he hpl
  refine call1 I1 r ⟨ρ1, M1, ds, S1.mem, r1, ?_⟩
  split at h1
  · rename_i hn
    exact ⟨hn, post_W h1 fun c H' z => z⟩
  · exact h1.elim
/-- f(k = v, ..) -/
theorem me_calk {f : Str} {fps ks : List Str} {pm : List Nat} {g : List D → Mem → R D} {p po : Pos} {kws : List Keyword} {fs : Lo → Mem → R (List D)} (F : FnAt X xc f fps g) (hgd : X.A.guards = some []) (tk : Takes X W) (hg : Gl X f) (hdb : (f == ("__debug__" : Str)) = false)
    (hkw : PK X kws (rdA X.K xc W fs)) (nd : ks.Nodup) (e : fps = pm.map fun i => ks.getD i "") (hp : ∀ i ∈ pm, i < ks.length) (hkk : ∀ k ∈ ks, k ∈ fps) (hall : (backToKw po (keywordEach kws X.env)).all (·.1.isSome) = true) (hks : (backToKw po (keywordEach kws X.env)).filterMap (·.1) = ks)
    (hpl : ((backTo po (starEach [] X.env)).any (·.1) || (backToKw po (keywordEach kws X.env)).any (·.1.isNone)) = false) :
    PE X (.Call (.Name f p) [] kws po) (rdE X.K xc W fun l M => (fs l M).bind fun ds M1 => if ds.length = ks.length then if (pm.filterMap (ds[·]?)).length = fps.length then g (pm.filterMap (ds[·]?)) M1 else .stuck else .stuck) := by
  obtain ⟨k, a, fd, hm, hk, G, _, hb, hr⟩ := F
  refine ⟨fun pins s σ H Q I ⟨ρ, l, M, S, h⟩ => ?_⟩
  refine wpAny_Call_Name_kw (ld_glob I hg hm ?_ hdb)
  have run := hkw.run po pins s σ H _ I (run1 (Rel := RelDs X.K) S h)
  refine PySem.W.callWith_KW0 (h₀ := X.base) I.ok.mod.kin hk hall (thn run fun ws s1 ⟨zs, H1, I1, rz, ρ1, M1, ds, S1, r1, k1, h1⟩ => ⟨I1.kIn, ?_⟩) hpl
  rw [hks]
  split at h1
  · rename_i hn
    split at h1
    · rename_i hn2
      have lw : ws.length = ks.length := by rw [← rz.length, ← r1.length]; exact hn
      have b := hb s1 ks ws pm nd lw e hp hkk
      have rv := pick_vals rz pm
      refine wpAny_call (codeAny_mono (G.go X.A X.stack s1 H1 ⟨[], ks.zip ws⟩ _ _ Q (fun c d H' => W c d σ H') hr hgd I1.env0 b rv ⟨ρ1, M1, _, S1.mem, pick_rel r1 pm, hn2, post_W h1 fun c H' z => z⟩) fun q s' hq => ?_)
      match q, hq with
      | .error e', hq => exact passAt tk σ pins H1 s1 e' s' I1 hq
      | .ok (.ret u), hq => exact I1.after hq
      | .ok .next, hq => exact hq.elim
      | .ok .brk, hq => exact hq.elim
      | .ok .cont, hq => exact hq.elim
    · exact h1.elim
  · exact h1.elim
theorem mk_nil : PK X [] (rdA X.K xc W fun _ M => .ok [] M) := by
  refine ⟨fun pos pins s σ H Q I ⟨ρ, l, M, S, h⟩ => pk_nil.run pos pins s σ H Q I ?_⟩
  exact h [] ρ H S.mem (Le.refl _ _) RelDs.nil
theorem mk_cons {k : Option Str} {e : Expr} {kp : Pos} {kws : List Keyword} {fe : Lo → Mem → R D} {fs : Lo → Mem → R (List D)} (ha : PE X e (rdE X.K xc W fe)) (hr : PK X kws (rdA X.K xc W fs)) :
    PK X (⟨k, e, kp⟩ :: kws) (rdA X.K xc W fun l M => (fe l M).bind fun x M1 => (fs l M1).bind fun xs M2 => .ok (x :: xs) M2) := by
  refine ⟨fun pos pins s σ H Q I ⟨ρ, l, M, S, h⟩ => (pk_cons ha hr).run pos pins s σ H Q I ?_⟩
  obtain ⟨ρ0, l0, M0, S0, h0⟩ := run1 (Rel := RelD X.K) S h
  refine ⟨ρ0, l0, M0, S0, h0.imp ?_⟩
  rintro x H1 ⟨ρ1, M1, d, S1, r1, k1, h1⟩
  obtain ⟨ρ2, l2, M2, S2, h2⟩ := run1 (f := fs) (Rel := RelDs X.K) S1 h1
  refine ⟨ρ2, l2, M2, S2, h2.imp ?_⟩
  rintro xs H2 ⟨ρ3, M3, ds, S3, r3, k3, h3⟩
  exact h3 (x :: xs) ρ3 H2 S3.mem (Le.refl _ _) (RelDs.cons (r1.mono k3) r3)
theorem kws_facts {N : List Str} {env : Env} {po : Pos} : ∀ {ks : List Str} {es : List Expr} {ps : List Nat}, ks.length = es.length → ps.length = es.length → (backToKw po (keywordEach (kwsAst ks es ps) env)).all (·.1.isSome) = true ∧ (backToKw po (keywordEach (kwsAst ks es ps) env)).filterMap (·.1) = ks ∧ (backToKw po (keywordEach (kwsAst ks es ps) env)).any (·.1.isNone) = false
  | [], [], [], _, _ => ⟨rfl, rfl, rfl⟩
  | k :: ks, e :: es, p :: ps, h1, h2 => by
    obtain ⟨a, b, c⟩ := kws_facts (N := N) (env := env) (po := po) (ks := ks) (es := es) (ps := ps) (by simpa using h1) (by simpa using h2)
    refine ⟨?_, ?_, ?_⟩
    · show (true && _) = true
      rw [Bool.true_and]; exact a
    · show k :: _ = _
      exact congrArg (k :: ·) b
    · show (false || _) = false
      rw [Bool.false_or]; exact c
  | [], _ :: _, _, h, _ => by simp at h
  | _ :: _, [], _, h, _ => by simp at h
  | _, [], _ :: _, _, h => by simp at h
  | _, _ :: _, [], _, h => by simp at h
end

/-! ### what is asked of a term, for its text -/
def visB (sc : Scope) (x : Str) : Bool := match sc.names.lookup x with
  | some .local | some .cell | some .free => !(x == ("__debug__" : Str)) && !(x == ("__classdict__" : Str))
  | _ => false
def glB (sc : Scope) (x : Str) : Bool := match sc.names.lookup x with
  | some .globalImplicit => !(x == ("__debug__" : Str)) && !(x == ("__name__" : Str))
  | _ => false
def locB (sc : Scope) (x : Str) : Bool := match sc.names.lookup x with
  | some .local | some .cell => true
  | _ => false
def isTp : T → Bool
  | .tp _ _ _ => true
  | _ => false
def kindOk (sc : Scope) (k : IK) (n : Nat) (t : T) : Bool := match k with
  | .ov => n == 1
  | .rng _ _ => glB sc "range" && (n == 1 || n == 2)
  | .enu _ _ => glB sc "enumerate" && n == 1 && isTp t
  | .zip _ _ => glB sc "zip" && n == 2 && isTp t
  | .itm pn p => n == 1 && isTp t && ((pos pn).endLine == (pos p).line)
/-- its truth is its value's -/
def E.plainT : E → Bool
  | .frz a => E.plainT a
  | .not _ _ => false
  | .cmp _ _ _ _ => false
  | .chn _ _ _ _ _ _ => false
  | .and _ _ => false
  | .or _ _ => false
  | .ife _ _ _ _ => false
  | _ => true
def X1.ok (fns : List (Str × List Str)) (sc : Scope) (n np : Nat) : X1 → Bool
  | .fm4 => n == 1
  | .calk f ks pm => glB sc f && !ks.isEmpty && fns.contains (f, pm.map fun i => ks.getD i "") && decide ks.Nodup && n == ks.length && np == ks.length + 2 && pm.all (fun i => decide (i < ks.length)) && ks.all fun k => (pm.map fun i => ks.getD i "").contains k
mutual
def E.ok (fns : List (Str × List Str)) (N : List Str) : E → Scope → Bool
  | .nop => fun _ => false
  | .non _ => fun _ => true
  | .bl _ _ => fun _ => true
  | .int _ _ => fun _ => true
  | .str _ _ => fun _ => true
  | .var i _ => fun sc => match N[i]? with
    | some x => visB sc x
    | none => false
  | .glb x _ => fun sc => glB sc x
  | .tup es _ _ => fun sc => E.oks fns N es sc
  | .lst _ es _ => fun sc => E.oks fns N es sc
  | .bin _ _ a b _ => fun sc => E.ok fns N a sc && E.ok fns N b sc
  | .neg a _ => fun sc => E.ok fns N a sc
  | .not a _ => fun sc => E.ok fns N a sc
  | .cmp _ a b _ => fun sc => E.ok fns N a sc && E.ok fns N b sc
  | .chn _ _ a b c _ => fun sc => E.ok fns N a sc && E.ok fns N b sc && E.ok fns N c sc
  | .and es _ => fun sc => !es.isEmpty && E.oks fns N es sc
  | .or es _ => fun sc => !es.isEmpty && E.oks fns N es sc
  | .ife c a b _ => fun sc => E.ok fns N c sc && E.ok fns N a sc && E.ok fns N b sc
  | .ix a b _ => fun sc => E.ok fns N a sc && E.ok fns N b sc
  | .sl _ a lo hi _ _ => fun sc => E.ok fns N a sc && (lo.isNop || E.ok fns N lo sc) && (hi.isNop || E.ok fns N hi sc)
  | .cal f es _ _ => fun sc => glB sc f && fns.any (fun z => z.1 == f && z.2.length == es.length) && !es.isEmpty && E.oks fns N es sc
  | .blt _ b es _ _ => fun sc => glB sc b.name && !es.isEmpty && E.oks fns N es sc
  | .isi a t _ _ _ => fun sc => glB sc "isinstance" && glB sc t.name && E.ok fns N a sc
  | .isiT a ts _ _ _ _ => fun sc => glB sc "isinstance" && ts.all (fun z => glB sc z.1.name) && decide (ts.length ≤ 1000) && E.ok fns N a sc
  | .mth _ o _ es pa p => fun sc => E.ok fns N o sc && E.oks fns N es sc && ((pos pa).endLine == (pos p).line) && decide (es.length < 29)
  | .lc _ k its t ifs elt ns own _ => fun sc => E.oks fns N its sc && kindOk sc k its.length t && blkC N sc (scopeOf ns) own && t.slots.all (fun i => (own.map (·.2)).contains i) && T.ok (fun x => locB (scopeOf ns) x) N t && decide (ifs.length ≤ 1) &&
      E.oks fns N ifs (relS (scopeOf ns) sc) && E.ok fns N elt (relS (scopeOf ns) sc)
  | .frz a => fun sc => a.plainT && E.ok fns N a sc
  | .dc0 _ => fun _ => true
  | .lrg _ es _ _ _ _ => fun sc => glB sc "list" && glB sc "range" && !es.isEmpty && E.oks fns N es sc
  | .ssc _ k its t ifs elt ns own _ _ _ => fun sc => E.oks fns N its sc && kindOk sc k its.length t && blkC N sc (scopeOf ns) own && t.slots.all (fun i => (own.map (·.2)).contains i) && T.ok (fun x => locB (scopeOf ns) x) N t && decide (ifs.length ≤ 1) &&
      E.oks fns N ifs (relS (scopeOf ns) sc) && E.ok fns N elt (relS (scopeOf ns) sc) && glB sc "sorted"
  | .sst _ a _ _ _ _ => fun sc => glB sc "sorted" && glB sc "set" && E.ok fns N a sc
  | .nst a _ _ _ _ => fun sc => glB sc "len" && glB sc "set" && E.ok fns N a sc
  | .sls _ a lo hi st _ _ => fun sc => E.ok fns N a sc && (lo.isNop || E.ok fns N lo sc) && (hi.isNop || E.ok fns N hi sc) && E.ok fns N st sc
  | .fmt a _ => fun sc => E.ok fns N a sc
  | .fst a b es _ => fun sc => E.ok fns N a sc && E.ok fns N b sc && E.oks fns N es sc
  | .dcp k its t ifs ke ve ns own _ => fun sc => E.oks fns N its sc && kindOk sc k its.length t && blkC N sc (scopeOf ns) own && t.slots.all (fun i => (own.map (·.2)).contains i) && T.ok (fun x => locB (scopeOf ns) x) N t && decide (ifs.length ≤ 1) &&
      E.oks fns N ifs (relS (scopeOf ns) sc) && E.ok fns N ke (relS (scopeOf ns) sc) && E.ok fns N ve (relS (scopeOf ns) sc)
  | .ext x es ps => fun sc => E.oks fns N es sc && x.ok fns sc es.length ps.length
def E.oks (fns : List (Str × List Str)) (N : List Str) : List E → Scope → Bool
  | [] => fun _ => true
  | e :: es => fun sc => E.ok fns N e sc && E.oks fns N es sc
end
def bNames : List Str := ["len", "max", "min", "int", "str", "list", "tuple", "sorted", "repr", "sum", "any", "all", "abs", "bool", "isinstance", "range", "enumerate", "zip", "set"]
/-- what holds of the place where a term stands -/
structure Ctx (Γ : Wd) (fns : List (Str × List Str)) (xc : Nat → Addr) (W : WX) (X : Cx) : Prop where
  nd : X.N.Nodup
  calm : X.calm = true
  hu : X.A.units + 150 < cLine
  gd : X.A.guards = some []
  tk : Takes X W
  blt : ∀ x ∈ bNames, X.mg x = none
  fn : ∀ f ps, (f, ps) ∈ fns → ∃ g, FnAt X xc f ps g ∧ ∀ ds M, Γ.call f ds M = if ds.length = ps.length then g ds M else .stuck
  gl : ∀ x d, Γ.glb x = some d → ∃ u v, X.mg x = some u ∧ RelV v u ∧ ∀ K G, Dp K G v d
theorem Ctx.blk {Γ : Wd} {fns : List (Str × List Str)} {xc : Nat → Addr} {W : WX} {X : Cx} (C : Ctx Γ fns xc W X) (s : Shared) (H : Hp) (scope : Scope) (cenv : Env) (fp : List Addr) : Ctx Γ fns xc WF (X.blk s H scope cenv fp) :=
  ⟨C.nd, C.calm, C.hu, C.gd, takes0, C.blt, C.fn, C.gl⟩
section
variable {N : List Str}
theorem starE (e : E) (rest : List Expr) (env : Env) : starEach (E.ast N e :: rest) env = (false, eval (E.ast N e) env) :: starEach rest env := by
  cases e with
  | frz a => exact starE a rest env
  | ext x es ps => cases x <;> rfl
  | _ => rfl
theorem foldE (e : E) (env : Env) (x : Value) : foldedSetIterable (E.ast N e) env x = pure x := by
  cases e with
  | frz a => exact foldE a env x
  | ext y es ps => cases y <;> rfl
  | _ => rfl
theorem foldK (k : IK) (es : List E) (env : Env) (x : Value) : foldedSetIterable (k.ast (E.asts N es)) env x = pure x := by
  cases k with
  | ov => cases es with
    | nil => rfl
    | cons e es => exact foldE e env x
  | _ => rfl
theorem plainE (e : E) : PlainIx (E.ast N e) := by
  cases e with
  | frz a => exact plainE a
  | ext y es ps => cases y <;> exact fun _ _ => rfl
  | _ => exact fun _ _ => rfl
theorem marksE (op : CmpOp) (e : E) : behindInMarks op (E.ast N e) = false := by
  cases e with
  | frz a => exact marksE op a
  | ext y es ps => cases y <;> rfl
  | _ => rfl
theorem anyE (po : Pos) (env : Env) : ∀ es : List E, (backTo po (starEach (E.asts N es) env)).any (·.1) = false
  | [] => rfl
  | e :: es => by
    rw [E.asts, starE]
    show (false || (backTo po (starEach (E.asts N es) env)).any (·.1)) = false
    rw [anyE po env es]; rfl
theorem allE (po : Pos) (env : Env) : ∀ es : List E, (backTo po (starEach (E.asts N es) env)).all (fun x => !x.1) = true
  | [] => rfl
  | e :: es => by
    rw [E.asts, starE]
    show (true && (backTo po (starEach (E.asts N es) env)).all (fun x => !x.1)) = true
    rw [allE po env es]; rfl
theorem lenE : ∀ es : List E, (E.asts N es).length = es.length
  | [] => rfl
  | e :: es => by rw [E.asts, List.length_cons, List.length_cons, lenE es]
end
theorem evalA_len {Γ : Wd} {l : Lo} : ∀ {es : List E} {M M' : Mem} {ds : List D}, evalA Γ es l M = .ok ds M' → ds.length = es.length
  | [], M, M', ds, h => by cases h; rfl
  | e :: es, M, M', ds, h => by
    simp only [evalA] at h
    cases e1 : evalE Γ e l M with
    | exc _ _ => rw [e1] at h; cases h
    | stuck => rw [e1] at h; cases h
    | ok x M1 =>
      rw [e1] at h
      simp only [R.bind] at h
      cases e2 : evalA Γ es l M1 with
      | exc _ _ => rw [e2] at h; cases h
      | stuck => rw [e2] at h; cases h
      | ok xs M2 =>
        rw [e2] at h
        cases h
        rw [List.length_cons, List.length_cons, evalA_len e2]
theorem visB_ok {sc : Scope} {x : Str} (h : visB sc x = true) : Vis sc x ∧ (x == ("__debug__" : Str)) = false ∧ (x == ("__classdict__" : Str)) = false := by
  unfold visB at h
  split at h
  · rename_i e
    simp only [Bool.and_eq_true, Bool.not_eq_true'] at h
    exact ⟨.inl e, h⟩
  · rename_i e
    simp only [Bool.and_eq_true, Bool.not_eq_true'] at h
    exact ⟨.inr (.inl e), h⟩
  · rename_i e
    simp only [Bool.and_eq_true, Bool.not_eq_true'] at h
    exact ⟨.inr (.inr e), h⟩
  · cases h
theorem glB_ok {X : Cx} {x : Str} (h : glB X.env.scope x = true) : Gl X x ∧ (x == ("__debug__" : Str)) = false ∧ x ≠ "__name__" := by
  unfold glB at h
  split at h
  · rename_i e
    simp only [Bool.and_eq_true, Bool.not_eq_true'] at h
    refine ⟨e, h.1, fun z => ?_⟩
    rw [z] at h
    have := h.2
    revert this
    decide
  · cases h
end Mini

/-! Mini, part p: every term that passes the look holds in its text. -/
namespace Mini
open PySem PySem.Spec PyProof.Rows L2

section
variable {X : Cx} {xc : Nat → Addr} {W : WX}
theorem freeze_ok {K : PySem.W.Frag} {ρ : Rho} {M : Mem} {H : Hp} {d : D} {v : V} {Q : VK} (m : MemOk K ρ M H) (r : RelD K (hd ρ M H) ρ d v) (h : postO K ρ M H Q (freeze d M)) : Q v H := by
  unfold freeze at h
  cases d with
  | p x => exact h v ρ H m (Le.refl _ _) r
  | tr _ => exact h.elim
  | ref k =>
    simp only at h
    cases e : M[k]? with
    | none => rw [e] at h; exact h.elim
    | some c =>
      rw [e] at h
      cases c with
      | dead => exact h.elim
      | dct _ => exact h.elim
      | lst xs =>
        simp only at h
        cases e2 : pAll xs with
        | none => rw [e2] at h; exact h.elim
        | some ds =>
          rw [e2] at h
          obtain ⟨a, vs, h1, h2, h3⟩ := m.at e
          unfold RelD at r
          obtain ⟨a', h4, h5⟩ := r
          rw [h1] at h4
          cases h4
          obtain ⟨m2, le⟩ := m.kill k
          have lv : live M k := ⟨_, e, by intro z; cases z⟩
          have un : ¬ Hid ρ (M.set k .dead) a := fun hh => by
            rcases hh with ⟨j, j1, c, j2, j3⟩ | ⟨us, hz⟩
            · have hj : k ≠ j := fun z => by
                subst z
                rw [List.getElem?_set_self (List.getElem?_eq_some_iff.mp e).1] at j2
                cases j2
                exact j3 rfl
              rw [List.getElem?_set_ne hj] at j2
              exact hj (m.inj k j a h1 j1 lv ⟨c, j2, j3⟩)
            · exact m.zoff k a us h1 lv hz
          refine h v ρ H m2 le ?_
          rw [h5]
          refine Pr (.lst (.inl (.inl ((hd_off un).trans h2))) ?_)
          rw [pAll_eq e2] at h3
          exact relDs_p.mp (h3.mono le)
theorem me_frz {a : Expr} {fa : Lo → Mem → R D} (ha : PE X a (rdE X.K xc W fa)) : PE X a (rdE X.K xc W fun l M => (fa l M).bind fun x M1 => ofO (freeze x M1)) := by
  refine PE.imp ha ?_
  rintro σ H Q ⟨ρ, l, M, S, h⟩
  obtain ⟨ρ0, l0, M0, S0, h0⟩ := run1 (Rel := RelD X.K) S h
  refine ⟨ρ0, l0, M0, S0, h0.imp ?_⟩
  rintro x H1 ⟨ρ1, M1, d, S1, r1, k1, h1⟩
  exact freeze_ok S1.mem r1 (postO_of h1)
theorem me_bltB {b : B} {x : Str} {id : String} {p po : Pos} {e : Expr} {es : List Expr} {g : List D → Mem → Option (D × Mem)} {fs : Lo → Mem → R (List D)} (hc : CallR X (.builtin id) (ropN X.K g)) (hg : Gl X x) (hm : X.mg x = none) (hv : bootBuiltins x = some (.builtin id)) (hn : x ≠ "__name__") (hdb : (x == ("__debug__" : Str)) = false)
    (ha : PA X (e :: es) (rdA X.K xc W fs)) (he : starEach (e :: es) X.env = (false, eval e X.env) :: starEach es X.env) (hpl : (backTo po (starEach es X.env)).any (·.1) = false) :
    PE X (.Call (.Name x p) (e :: es) [] po) (rdE X.K xc W fun l M => (fs l M).bind fun ds M1 => ofO (g ds M1)) := by
  refine PE.imp (pe_callB hc hg hm hv ha hn hdb he hpl) ?_
  rintro σ H Q ⟨ρ, l, M, S, h⟩
  obtain ⟨ρ0, l0, M0, S0, h0⟩ := run1 (Rel := RelDs X.K) S h
  refine ⟨ρ0, l0, M0, S0, h0.imp ?_⟩
  rintro xs H1 ⟨ρ1, M1, ds, S1, r1, k1, h1⟩
  exact ⟨ρ1, M1, ds, S1.mem, r1, postO_of h1⟩
theorem me_bltT {b : B} {x : Str} {T : String} {p po : Pos} {e : Expr} {es : List Expr} {g : List D → Mem → Option (D × Mem)} {fs : Lo → Mem → R (List D)} (hc : CallR X (.type T) (ropN X.K g)) (hg : Gl X x) (hm : X.mg x = none) (hv : bootBuiltins x = some (.type T)) (hn : x ≠ "__name__") (hdb : (x == ("__debug__" : Str)) = false)
    (ha : PA X (e :: es) (rdA X.K xc W fs)) (he : starEach (e :: es) X.env = (false, eval e X.env) :: starEach es X.env) (hpl : (backTo po (starEach es X.env)).any (·.1) = false) :
    PE X (.Call (.Name x p) (e :: es) [] po) (rdE X.K xc W fun l M => (fs l M).bind fun ds M1 => ofO (g ds M1)) := by
  refine PE.imp (pe_callTy hc hg hm hv ha hn hdb he hpl) ?_
  rintro σ H Q ⟨ρ, l, M, S, h⟩
  obtain ⟨ρ0, l0, M0, S0, h0⟩ := run1 (Rel := RelDs X.K) S h
  refine ⟨ρ0, l0, M0, S0, h0.imp ?_⟩
  rintro xs H1 ⟨ρ1, M1, ds, S1, r1, k1, h1⟩
  exact ⟨ρ1, M1, ds, S1.mem, r1, postO_of h1⟩
theorem me_blt {Γ : Wd} {fns : List (Str × List Str)} (C : Ctx Γ fns xc W X) {c : Bool} {b : B} {p po : Pos} {e : Expr} {es : List Expr} {fs : Lo → Mem → R (List D)} (hg : Gl X b.name) (hn : b.name ≠ "__name__") (hdb : (b.name == ("__debug__" : Str)) = false)
    (ha : PA X (e :: es) (rdA X.K xc W fs)) (he : starEach (e :: es) X.env = (false, eval e X.env) :: starEach es X.env) (hpl : (backTo po (starEach es X.env)).any (·.1) = false) :
    PE X (.Call (.Name b.name p) (e :: es) [] po) (rdE X.K xc W fun l M => (fs l M).bind fun ds M1 => ofO (bltD c b ds M1)) := by
  have hm : X.mg b.name = none := C.blt _ (by cases b <;> simp [B.name, bNames])
  cases b with
  | len => exact me_bltB (b := .len) len_D hg hm (by decide +kernel) hn hdb ha he hpl
  | max => exact me_bltB (b := .len) (max_D C.calm) hg hm (by decide +kernel) hn hdb ha he hpl
  | min => exact me_bltB (b := .len) (min_D C.calm) hg hm (by decide +kernel) hn hdb ha he hpl
  | sorted => exact me_bltB (b := .len) (sorted_D C.hu) hg hm (by decide +kernel) hn hdb ha he hpl
  | repr => exact me_bltB (b := .len) (repr_D C.hu C.gd) hg hm (by decide +kernel) hn hdb ha he hpl
  | sum => exact me_bltB (b := .len) (sum_D C.calm) hg hm (by decide +kernel) hn hdb ha he hpl
  | any => exact me_bltB (b := .len) (any_D C.calm) hg hm (by decide +kernel) hn hdb ha he hpl
  | all => exact me_bltB (b := .len) (all_D C.calm) hg hm (by decide +kernel) hn hdb ha he hpl
  | abs => exact me_bltB (b := .len) abs_D hg hm (by decide +kernel) hn hdb ha he hpl
  | int => exact me_bltT (b := .len) int_D hg hm (by decide +kernel) hn hdb ha he hpl
  | str => exact me_bltT (b := .len) str_D hg hm (by decide +kernel) hn hdb ha he hpl
  | list => exact me_bltT (b := .len) (list_D C.calm) hg hm (by decide +kernel) hn hdb ha he hpl
  | tuple => exact me_bltT (b := .len) tuple_D hg hm (by decide +kernel) hn hdb ha he hpl
  | bool => exact me_bltT (b := .len) bool_D hg hm (by decide +kernel) hn hdb ha he hpl
theorem rcv_ok {K : PySem.W.Frag} {ρ : Rho} {M : Mem} {H : Hp} {b : Mt} {d : D} {x : V} (m : MemOk K ρ M H) (r : RelD K (hd ρ M H) ρ d x) (h : rcv b d M = true) : tyV K (if b.isStr = true then "str" else "list") x H := by
  unfold rcv at h
  cases e : b.isStr with
  | true =>
    rw [e] at h
    simp only at h
    split at h
    · cases relP r; rfl
    · cases h
  | false =>
    rw [e] at h
    simp only at h
    cases e2 : seqD M d with
    | none => rw [e2] at h; cases h
    | some xs =>
      obtain ⟨a, vs, rfl, sa, _⟩ := seq_ok m r e2
      exact .inl ⟨rfl, vs, sa⟩
theorem me_mt1 {b : Mt} {T id : String} {name : Str} {o e : Expr} {es : List Expr} {apos cpos : Pos} {g : D → List D → Mem → Option (D × Mem)} {fo : Lo → Mem → R D} {fs : Lo → Mem → R (List D)} (hT : T = if b.isStr = true then "str" else "list") (pa : PlainAttrs T) (slot : Slot T name id) (hty : typeOf (.builtin id) = pure (.type "method_descriptor")) (hm : MtR X id (ropM X.K g))
    (ho : PE X o (rdE X.K xc W fo)) (ha : PA X (e :: es) (rdA X.K xc W fs)) (hbase : attributeBase o name X.env (eval o X.env) = eval o X.env) (hline : (apos.endLine == cpos.line) = true)
    (hs : starEach (e :: es) X.env = (false, eval e X.env) :: starEach es X.env) (hpl : (backTo cpos (starEach es X.env)).any (·.1) = false)
    (hfew : ((backTo cpos (starEach (e :: es) X.env)).all (fun x => !x.1) && (backToKw cpos (keywordEach [] X.env)).all (fun x => x.1.isSome) && decide ((e :: es).length + ([] : List Keyword).length + (if ([] : List Keyword).isEmpty then 0 else 1) < 30)) = true) :
    PE X (.Call (.Attribute o name apos) (e :: es) [] cpos) (rdE X.K xc W fun l M => (fo l M).bind fun x M1 => if rcv b x M1 = true then (fs l M1).bind fun ds M2 => ofO (g x ds M2) else .stuck) := by
  subst hT
  refine PE.imp (pe_bm pa slot hty hm ho ha hbase hfew hline hs hpl) ?_
  rintro σ H Q ⟨ρ, l, M, S, h⟩
  obtain ⟨ρ0, l0, M0, S0, h0⟩ := run1 (Rel := RelD X.K) S h
  refine ⟨ρ0, l0, M0, S0, h0.imp ?_⟩
  rintro x H1 ⟨ρ1, M1, d, S1, r1, k1, h1⟩
  split at h1
  · rename_i hr
    refine ⟨rcv_ok S1.mem r1 hr, ?_⟩
    obtain ⟨ρ2, l2, M2, S2, h2⟩ := run1 (f := fs) (Rel := RelDs X.K) S1 h1
    refine ⟨ρ2, l2, M2, S2, h2.imp ?_⟩
    rintro xs H2 ⟨ρ3, M3, ds, S3, r3, k3, h3⟩
    exact ⟨ρ3, M3, d, ds, S3.mem, r1.mono k3, r3, postO_of h3⟩
  · exact h1.elim
theorem me_mt0 {b : Mt} {T id : String} {name : Str} {o : Expr} {apos cpos : Pos} {g : D → List D → Mem → Option (D × Mem)} {fo : Lo → Mem → R D} (hT : T = if b.isStr = true then "str" else "list") (pa : PlainAttrs T) (slot : Slot T name id) (hty : typeOf (.builtin id) = pure (.type "method_descriptor")) (hm : MtR X id (ropM X.K g))
    (ho : PE X o (rdE X.K xc W fo)) (hbase : attributeBase o name X.env (eval o X.env) = eval o X.env) (hline : (apos.endLine == cpos.line) = true) :
    PE X (.Call (.Attribute o name apos) [] [] cpos) (rdE X.K xc W fun l M => (fo l M).bind fun x M1 => if rcv b x M1 = true then (R.ok [] M1).bind fun ds M2 => ofO (g x ds M2) else .stuck) := by
  subst hT
  refine PE.imp (pe_bm0 pa slot hty hm ho hbase hline) ?_
  rintro σ H Q ⟨ρ, l, M, S, h⟩
  obtain ⟨ρ0, l0, M0, S0, h0⟩ := run1 (Rel := RelD X.K) S h
  refine ⟨ρ0, l0, M0, S0, h0.imp ?_⟩
  rintro x H1 ⟨ρ1, M1, d, S1, r1, k1, h1⟩
  split at h1
  · rename_i hr
    refine ⟨rcv_ok S1.mem r1 hr, ρ1, M1, d, [], S1.mem, r1, RelDs.nil, ?_⟩
    have h1 : post (RelD X.K) X.K xc W ρ1 M1 σ H1 Q (ofO (g d [] M1)) := h1
    exact postO_of h1
  · exact h1.elim
/-- what the library has of a method -/
structure MtFacts (X : Cx) (c : Bool) (b : Mt) (T id : String) : Prop where
  eT : T = if b.isStr = true then "str" else "list"
  pa : PlainAttrs T
  slot : Slot T b.name id
  ty : typeOf (.builtin id) = pure (.type "method_descriptor")
  mt : MtR X id (ropM X.K (mthD c b))
theorem mt_none {id : String} : MtR X id (ropM X.K fun _ _ _ => none) := fun pins s σ H x xs v us Q I rx rs ⟨ρ, M, d, ds, m, r1, r2, q⟩ => q.elim
theorem mt_facts (hu : X.A.units + 150 < cLine) (c : Bool) (b : Mt) : ∃ T id, MtFacts X c b T id := by
  cases b with
  | append => exact ⟨_, _, rfl, PySem.F.plainAttrs_list, PySem.F.slot_list_append, PySem.F.type_list_append, append_D⟩
  | extend => exact ⟨_, _, rfl, PySem.F.plainAttrs_list, PySem.F.slot_list_extend, PySem.F.type_list_extend, extend_D⟩
  | pop => exact ⟨_, _, rfl, PySem.F.plainAttrs_list, PySem.F.slot_list_pop, PySem.F.type_list_pop, pop_D⟩
  | reverse => exact ⟨_, _, rfl, PySem.F.plainAttrs_list, PySem.F.slot_list_reverse, PySem.F.type_list_reverse, reverse_D⟩
  | clear => exact ⟨_, _, rfl, PySem.F.plainAttrs_list, PySem.F.slot_list_clear, PySem.F.type_list_clear, clear_D⟩
  | insert => exact ⟨_, _, rfl, PySem.F.plainAttrs_list, PySem.F.slot_list_insert, PySem.F.type_list_insert, insert_D⟩
  | index => exact ⟨_, _, rfl, PySem.F.plainAttrs_list, PySem.F.slot_list_index, PySem.F.type_list_index, index_D hu⟩
  | lcount => exact ⟨_, _, rfl, PySem.F.plainAttrs_list, PySem.F.slot_list_count, PySem.F.type_list_count, count_D hu⟩
  | join => exact ⟨_, _, rfl, PySem.F.plainAttrs_str, PySem.F.slot_str_join, PySem.F.type_str_join, join_D⟩
  | split => exact ⟨_, _, rfl, PySem.F.plainAttrs_str, PySem.F.slot_str_split, PySem.F.type_str_split, split_D⟩
  | partition => exact ⟨_, _, rfl, PySem.F.plainAttrs_str, PySem.F.slot_str_partition, PySem.F.type_str_partition, part_D⟩
  | upper => exact ⟨_, _, rfl, PySem.F.plainAttrs_str, PySem.F.slot_str_upper, PySem.F.type_str_upper, upper_D⟩
  | find => exact ⟨_, _, rfl, PySem.F.plainAttrs_str, PySem.F.slot_str_find, PySem.F.type_str_find, find_D⟩
  | count => exact ⟨_, _, rfl, PySem.F.plainAttrs_str, PySem.F.slot_str_count, PySem.F.type_str_count, scount_D⟩
  | replace => exact ⟨_, _, rfl, PySem.F.plainAttrs_str, PySem.F.slot_str_replace, PySem.F.type_str_replace, mt_none⟩
end
end Mini
namespace Mini
open PySem PySem.Spec PyProof.Rows L2
theorem PI.imp {X : Cx} {tg e : Expr} {t t' : TI} (h : PI X tg e t) (k : ∀ σ H Q, t' σ H Q → t σ H Q) : PI X tg e t' := ⟨fun pins s σ H Q I q => h.run pins s σ H Q I (k _ _ _ q)⟩
section
variable {X : Cx} {xc : Nat → Addr} {W : WX}
theorem mt_chn {op op' : CmpOp} {a b c : Expr} {pos : Pos} {fa fb fc : Lo → Mem → R D} (hu : X.A.units + 150 < cLine) (ha : PE X a (rdE X.K xc W fa)) (hb : PE X b (rdE X.K xc W fb)) (hc : PE X c (rdE X.K xc W fc))
    (he : PT X (.Compare a [op, op'] [b, c] pos) (tTest (tChain (rop2 X.K (cmpD op)) (rop2 X.K (cmpD op')) (rdE X.K xc W fa) (rdE X.K xc W fb) (rdE X.K xc W fc)))) :
    PT X (.Compare a [op, op'] [b, c] pos) (rdT X.K xc W fun l M => ((fa l M).bind fun x M1 => (fb l M1).bind fun y M2 => (ofO (cmpD op x y M2)).bind fun z M3 => match z with
    | .p (.bool true) => (fc l M3).bind fun w M4 => ofO (cmpD op' y w M4)
    | .p (.bool false) => .ok (.p (.bool false)) M3
    | _ => .stuck).bind tru) := by
  refine PT.imp he ?_
  rintro σ H Q ⟨ρ, l, M, S, h⟩
  simp only [R.bind_assoc] at h
  obtain ⟨ρ0, l0, M0, S0, h0⟩ := run1 (Rel := RelD X.K) S h
  refine ⟨ρ0, l0, M0, S0, h0.imp ?_⟩
  rintro x H1 ⟨ρ1, M1, d, S1, r1, k1, h1⟩
  obtain ⟨ρ2, l2, M2, S2, h2⟩ := run1 (f := fb) (Rel := RelD X.K) S1 h1
  refine ⟨ρ2, l2, M2, S2, h2.imp ?_⟩
  rintro y H2 ⟨ρ3, M3, e, S3, r3, k3, h3⟩
  refine ⟨ρ3, M3, d, e, S3.mem, r1.mono k3, r3, ?_⟩
  cases q : cmpD op d e M3 with
  | none => rw [q] at h3; exact h3.elim
  | some z =>
    obtain ⟨z1, z2⟩ := z
    obtain ⟨k, rfl, rfl⟩ := cmpD_bool q
    rw [q] at h3
    intro v ρ' H' x' le rr
    refine ⟨k, rel_bool rr, ?_⟩
    cases k with
    | true =>
      have h3 : post RelB X.K xc W ρ3 z2 σ H2 Q (((fc l z2).bind fun w M4 => ofO (cmpD op' e w M4)).bind tru) := h3
      rw [R.bind_assoc] at h3
      obtain ⟨ρ4, l4, M4, S4, h4⟩ := run1 (f := fc) (Rel := RelD X.K) (S3.le x' le) (h3.le le)
      refine ⟨ρ4, l4, M4, S4, h4.imp ?_⟩
      rintro w H4 ⟨ρ5, M5, g, S5, r5, k5, h5⟩
      refine ⟨ρ5, M5, e, g, S5.mem, (r3.mono le).mono k5, r5, ?_⟩
      cases q2 : cmpD op' e g M5 with
      | none => rw [q2] at h5; exact h5.elim
      | some z' =>
        obtain ⟨z3, z4⟩ := z'
        obtain ⟨k2, rfl, rfl⟩ := cmpD_bool q2
        rw [q2] at h5
        have h5 : post RelB X.K xc W ρ5 z4 σ H4 Q (.ok k2 z4) := h5
        exact fun v ρ' H' x' le rr => ⟨k2, rel_bool rr, h5 k2 ρ' H' x' le rfl⟩
    | false =>
      have h3 : post RelB X.K xc W ρ3 z2 σ H2 Q (.ok false z2) := h3
      exact ⟨false, rfl, h3 false ρ' H' x' le rfl⟩
end
end Mini

/-! Mini, part q: every term that passes the look holds in its text. -/
namespace Mini
open PySem PySem.Spec PyProof.Rows L2

theorem tru_again {d : D} {M M' : Mem} {k : Bool} (h : tru d M = .ok k M') : M' = M := by
  rcases tru_inv (d := d) (M := M) with e | ⟨k', e⟩
  · rw [e] at h; cases h
  · rw [e] at h; cases h; rfl
theorem plainT_ok {N : List Str} {env : Env} : ∀ e : E, e.plainT = true → ∀ whole, isTrue (e.ast N) env whole = (do let v ← whole; standAt (e.ast N).pos; holding [v] (truthy v))
  | .frz a, h, w => plainT_ok a h w
  | .not _ _, h, _ => by cases h
  | .cmp _ _ _ _, h, _ => by cases h
  | .chn _ _ _ _ _ _, h, _ => by cases h
  | .and _ _, h, _ => by cases h
  | .or _ _, h, _ => by cases h
  | .ife _ _ _ _, h, _ => by cases h
  | .nop, h, _ => rfl
  | .non _, h, _ => rfl
  | .bl _ _, h, _ => rfl
  | .int _ _, h, _ => rfl
  | .str _ _, h, _ => rfl
  | .var _ _, h, _ => rfl
  | .glb _ _, h, _ => rfl
  | .tup _ _ _, h, _ => rfl
  | .lst _ _ _, h, _ => rfl
  | .bin _ _ _ _ _, h, _ => rfl
  | .neg _ _, h, _ => rfl
  | .ix _ _ _, h, _ => rfl
  | .sl _ _ _ _ _ _, h, _ => rfl
  | .cal _ _ _ _, h, _ => rfl
  | .blt _ _ _ _ _, h, _ => rfl
  | .isi _ _ _ _ _, h, _ => rfl
  | .isiT _ _ _ _ _ _, h, _ => rfl
  | .mth _ _ _ _ _ _, h, _ => rfl
  | .lc _ _ _ _ _ _ _ _ _, h, _ => rfl
  | .dc0 _, h, _ => rfl
  | .lrg _ _ _ _ _ _, h, _ => rfl
  | .ssc _ _ _ _ _ _ _ _ _ _ _, h, _ => rfl
  | .sst _ _ _ _ _ _, h, _ => rfl
  | .nst _ _ _ _ _, h, _ => rfl
  | .sls _ _ _ _ _ _ _, h, _ => rfl
  | .fmt _ _, h, _ => rfl
  | .fst _ _ _ _, h, _ => rfl
  | .dcp _ _ _ _ _ _ _ _ _, h, _ => rfl
  | .ext .fm4 _ _, h, _ => rfl
  | .ext (.calk _ _ _) _ _, h, _ => rfl
theorem and_tru {x : D} {M : Mem} {g : Mem → R D} : ((tru x M).bind fun k M2 => (if k = true then g M2 else .ok x M2).bind tru) = (tru x M).bind fun k M2 => if k = true then (g M2).bind tru else .ok false M2 := by
  cases e : tru x M with
  | exc _ _ => rfl
  | stuck => rfl
  | ok k M2 =>
    have := tru_again e
    subst this
    cases k with
    | true => rfl
    | false => exact e
theorem or_tru {x : D} {M : Mem} {g : Mem → R D} : ((tru x M).bind fun k M2 => (if k = true then .ok x M2 else g M2).bind tru) = (tru x M).bind fun k M2 => if k = true then .ok true M2 else (g M2).bind tru := by
  cases e : tru x M with
  | exc _ _ => rfl
  | stuck => rfl
  | ok k M2 =>
    have := tru_again e
    subst this
    cases k with
    | false => rfl
    | true => exact e
theorem baseE {fns : List (Str × List Str)} {N : List Str} {sc : Scope} {env : Env} {name : Str} {w : Sem Value} : ∀ e : E, e.ok fns N sc = true → attributeBase (e.ast N) name env w = w
  | .frz a, h => baseE a (by simp only [E.ok, Bool.and_eq_true] at h; exact h.2)
  | .cal f [] pn p, h => by simp [E.ok] at h
  | .cal f (e :: es) pn p, h => rfl
  | .blt c b [] pn p, h => by simp [E.ok] at h
  | .blt c b (e :: es) pn p, h => rfl
  | .mth c o m [] pa p, h => rfl
  | .mth c o m (e :: es) pa p, h => rfl
  | .nop, h => rfl
  | .non _, h => rfl
  | .bl _ _, h => rfl
  | .int _ _, h => rfl
  | .str _ _, h => rfl
  | .var _ _, h => rfl
  | .glb _ _, h => rfl
  | .tup _ _ _, h => rfl
  | .lst _ _ _, h => rfl
  | .bin _ _ _ _ _, h => rfl
  | .neg _ _, h => rfl
  | .not _ _, h => rfl
  | .cmp _ _ _ _, h => rfl
  | .chn _ _ _ _ _ _, h => rfl
  | .and _ _, h => rfl
  | .or _ _, h => rfl
  | .ife _ _ _ _, h => rfl
  | .ix _ _ _, h => rfl
  | .sl _ _ _ _ _ _, h => rfl
  | .isi _ _ _ _ _, h => rfl
  | .isiT _ _ _ _ _ _, h => rfl
  | .lc _ _ _ _ _ _ _ _ _, h => rfl
  | .dc0 _, h => rfl
  | .lrg _ _ _ _ _ _, h => rfl
  | .ssc _ _ _ _ _ _ _ _ _ _ _, h => rfl
  | .sst _ _ _ _ _ _, h => rfl
  | .nst _ _ _ _ _, h => rfl
  | .sls _ _ _ _ _ _ _, h => rfl
  | .fmt _ _, h => rfl
  | .fst _ _ _ _, h => rfl
  | .dcp _ _ _ _ _ _ _ _ _, h => rfl
  | .ext .fm4 _ _, h => rfl
  | .ext (.calk f [] pm) es ps, h => by simp [E.ok, X1.ok] at h
  | .ext (.calk f (k :: ks) pm) [] ps, h => by simp [E.ok, X1.ok] at h
  | .ext (.calk f (k :: ks) pm) (e :: es) [], h => by simp [E.ok, X1.ok] at h
  | .ext (.calk f (k :: ks) pm) (e :: es) [p], h => by simp [E.ok, X1.ok] at h
  | .ext (.calk f (k :: ks) pm) (e :: es) [p, q], h => by simp [E.ok, X1.ok] at h
  | .ext (.calk f (k :: ks) pm) (e :: es) (p :: q :: r :: ps), h => rfl
theorem isT_glB {X : Cx} {Γ : Wd} {fns : List (Str × List Str)} {xc : Nat → Addr} {W : WX} (C : Ctx Γ fns xc W X) {t : Ty} (h : glB X.env.scope t.name = true) : Gl X t.name ∧ X.mg t.name = none :=
  ⟨(glB_ok h).1, C.blt _ (by cases t <;> simp [Ty.name, bNames])⟩
theorem locB_ok {N : List Str} {ns : List (Str × NameKind)} {sc : Scope} {x : Str} (h : locB (scopeOf ns) x = true) : (ns.lookup x = some .local ∨ ns.lookup x = some .cell) := by
  unfold locB at h
  split at h
  · rename_i e; exact .inl e
  · rename_i e; exact .inr e
  · cases h
theorem relabel_loc {X : Cx} {ns : List (Str × NameKind)} {x : Str} {k : NameKind} (hk : k ≠ .free) : ∀ {l : List (Str × NameKind)}, l.lookup x = some k →
    (l.map fun (n, q) => if (q == NameKind.free && X.env.scope.kind == .function && X.env.scope.names.lookup n == some .cell) then (n, NameKind.cell) else (n, q)).lookup x = some k
  | [], h => by cases h
  | (n, q) :: r, h => by
    rw [List.lookup_cons] at h
    rw [List.map_cons]
    have ih := relabel_loc (X := X) (ns := ns) (x := x) (k := k) hk (l := r)
    by_cases hn : (x == n) = true
    · rw [hn] at h
      cases h
      have : (k == NameKind.free) = false := by simpa using hk
      simp only [this, Bool.false_and, Bool.false_eq_true, if_false]
      rw [List.lookup_cons, hn]
    · have hn' : (x == n) = false := by simpa using hn
      rw [hn'] at h
      have h := ih h
      have key : ∀ (b : Bool) (rest : List (Str × NameKind)), List.lookup x ((if b = true then (n, NameKind.cell) else (n, q)) :: rest) = List.lookup x rest := fun b rest => by
        cases b
        · rw [if_neg (by decide), List.lookup_cons, hn']
        · rw [if_pos rfl, List.lookup_cons, hn']
      exact (key _ _).trans h
section
variable {Γ : Wd} {fns : List (Str × List Str)} {xc : Nat → Addr}
theorem walk_len {f : Lo → Mem → R (List D)} {k : IK} {n : Nat} (h : ∀ l M ds M1, f l M = .ok ds M1 → ds.length = n) (l : Lo) (M : Mem) : ((f l M).bind fun ds M1 => walkR k ds M1) = (f l M).bind fun ds M1 => if ds.length = n then walkR k ds M1 else .stuck := by
  cases e : f l M with
  | exc _ _ => rfl
  | stuck => rfl
  | ok ds M1 => simp only [R.bind]; rw [if_pos (h l M ds M1 e)]
theorem walk_to {K : PySem.W.Frag} {W : WX} {ρ : Rho} {M : Mem} {σ : L2.St} {H : Hp} {Q : It → Hp → Prop} {l : Lo} {f : Lo → Mem → R (List D)} {k : IK} {n : Nat} (h : ∀ l M ds M1, f l M = .ok ds M1 → ds.length = n) (q : postI K xc W ρ M σ H Q ((f l M).bind fun ds M1 => walkR k ds M1)) :
    postI K xc W ρ M σ H Q ((f l M).bind fun ds M1 => if ds.length = n then walkR k ds M1 else .stuck) := by
  rw [← walk_len h]; exact q
theorem both {X : Cx} {W : WX} {e : Expr} {fe : Lo → Mem → R D} (pe : PE X e (rdE X.K xc W fe)) (t : PE X e (rdE X.K xc W fe) → PT X e (rdT X.K xc W fun l M => (fe l M).bind tru)) : PE X e (rdE X.K xc W fe) ∧ PT X e (rdT X.K xc W fun l M => (fe l M).bind tru) := ⟨pe, t pe⟩
theorem sndI {X : Cx} {W : WX} (C : Ctx Γ fns xc W X) : ∀ (k : IK) (es : List E) (t : T), (∀ e ∈ es, PE X (e.ast X.N) (rdE X.K xc W (evalE Γ e))) → PA X (E.asts X.N es) (rdA X.K xc W (evalA Γ es)) → kindOk X.env.scope k es.length t = true → E.oks fns X.N es X.env.scope = true →
    PI X (t.ast X.N) (k.ast (E.asts X.N es)) (rdI X.K xc W fun l M => (evalA Γ es l M).bind fun ds M1 => walkR k ds M1)
  | .ov, [e], t, h, hA, hk, ho => by
    refine PI.imp (mi_ov (tg := t.ast X.N) (h e List.mem_cons_self)) fun σ H Q ⟨ρ, l, M, S, q⟩ => ⟨ρ, l, M, S, ?_⟩
    simp only [evalA, R.bind_assoc] at q
    exact q
  | .ov, [], t, h, hA, hk, ho => by cases hk
  | .ov, _ :: _ :: _, t, h, hA, hk, ho => by simp [kindOk] at hk
  | .rng pn p, [a], t, h, hA, hk, ho => by
    simp only [kindOk, Bool.and_eq_true] at hk
    have := mi_rng1 (tg := t.ast X.N) (po := pos p) (p := pos pn) (pn := pn) (pp := p) (glB_ok hk.1).1 (C.blt _ (by simp [bNames])) hA (starE a [] _)
    refine PI.imp this fun σ H Q ⟨ρ, l, M, S, q⟩ => ⟨ρ, l, M, S, ?_⟩
    exact walk_to (n := 1) (fun l M ds M1 e => evalA_len e) q
  | .rng pn p, [a, b], t, h, hA, hk, ho => by
    simp only [kindOk, Bool.and_eq_true] at hk
    have := mi_rng2 (tg := t.ast X.N) (po := pos p) (p := pos pn) (pn := pn) (pp := p) (glB_ok hk.1).1 (C.blt _ (by simp [bNames])) hA (by rw [starE, starE]; rfl) (starE b [] _)
    refine PI.imp this fun σ H Q ⟨ρ, l, M, S, q⟩ => ⟨ρ, l, M, S, ?_⟩
    exact walk_to (n := 2) (fun l M ds M1 e => evalA_len e) q
  | .rng _ _, [], t, h, hA, hk, ho => by simp [kindOk] at hk
  | .rng _ _, _ :: _ :: _ :: _, t, h, hA, hk, ho => by simp [kindOk] at hk
  | .enu pn p, [a], .tp ts kk tp, h, hA, hk, ho => by
    simp only [kindOk, Bool.and_eq_true] at hk
    have := mi_enu (elts := T.asts X.N ts) (kk := kk) (tpos := pos tp) (po := pos p) (p := pos pn) (pn := pn) (pp := p) (glB_ok hk.1.1).1 (C.blt _ (by simp [bNames])) hA (starE a [] _)
    refine PI.imp this fun σ H Q ⟨ρ, l, M, S, q⟩ => ⟨ρ, l, M, S, ?_⟩
    exact walk_to (n := 1) (fun l M ds M1 e => evalA_len e) q
  | .enu _ _, [_], .nm _ _, h, hA, hk, ho => by simp [kindOk, isTp] at hk
  | .enu _ _, [], _, h, hA, hk, ho => by simp [kindOk] at hk
  | .enu _ _, _ :: _ :: _, _, h, hA, hk, ho => by simp [kindOk] at hk
  | .zip pn p, [a, b], .tp ts kk tp, h, hA, hk, ho => by
    simp only [kindOk, Bool.and_eq_true] at hk
    have := mi_zip (elts := T.asts X.N ts) (kk := kk) (tpos := pos tp) (po := pos p) (p := pos pn) (pn := pn) (pp := p) (glB_ok hk.1.1).1 (C.blt _ (by simp [bNames])) hA (starE a _ _) (anyE _ _ [b])
    refine PI.imp this fun σ H Q ⟨ρ, l, M, S, q⟩ => ⟨ρ, l, M, S, ?_⟩
    exact walk_to (n := 2) (fun l M ds M1 e => evalA_len e) q
  | .zip _ _, [_, _], .nm _ _, h, hA, hk, ho => by simp [kindOk, isTp] at hk
  | .zip _ _, [], _, h, hA, hk, ho => by simp [kindOk] at hk
  | .zip _ _, [_], _, h, hA, hk, ho => by simp [kindOk] at hk
  | .zip _ _, _ :: _ :: _ :: _, _, h, hA, hk, ho => by simp [kindOk] at hk
  | .itm pn p, [a], .tp ts kk tp, h, hA, hk, ho => by
    simp only [kindOk, Bool.and_eq_true] at hk
    simp only [E.oks, Bool.and_eq_true] at ho
    have := mi_items (pn := pn) (pp := p) (elts := T.asts X.N ts) (kk := kk) (tpos := pos tp) (apos := pos pn) (cpos := pos p) (h a List.mem_cons_self) (baseE a ho.1) hk.2
    refine PI.imp this fun σ H Q ⟨ρ, l, M, S, q⟩ => ⟨ρ, l, M, S, ?_⟩
    simp only [evalA, R.bind_assoc] at q
    exact q
  | .itm _ _, [_], .nm _ _, h, hA, hk, ho => by simp [kindOk, isTp] at hk
  | .itm _ _, [], _, h, hA, hk, ho => by simp [kindOk] at hk
  | .itm _ _, _ :: _ :: _, _, h, hA, hk, ho => by simp [kindOk] at hk
mutual
theorem sndB {X : Cx} {W : WX} (C : Ctx Γ fns xc W X) : ∀ e : E, e.ok fns X.N X.env.scope = true → PE X (e.ast X.N) (rdE X.K xc W (evalE Γ e)) ∧ PT X (e.ast X.N) (rdT X.K xc W fun l M => (evalE Γ e l M).bind tru)
  | .nop, h => by cases h
  | .non p, h => both (me_c pe_non fun _ _ => .non) fun pe => mt_truth pe fun _ => rfl
  | .bl b p, h => both (me_c pe_bl fun _ _ => .bl b) fun pe => mt_truth pe fun _ => rfl
  | .int i p, h => both (me_c pe_int fun _ _ => .int i) fun pe => mt_truth pe fun _ => rfl
  | .str s p, h => both (me_c pe_str fun _ _ => .str s) fun pe => mt_truth pe fun _ => rfl
  | .var i p, h => both (by
    simp only [E.ok] at h
    cases e : X.N[i]? with
    | none => rw [e] at h; cases h
    | some x =>
      rw [e] at h
      rw [E.ast, getD_of e]
      obtain ⟨h1, h2, h3⟩ := visB_ok h
      exact me_var e h1 h2 h3) fun pe => mt_truth pe fun _ => rfl
  | .glb x p, h => both (by
    simp only [E.ok] at h
    obtain ⟨h1, h2, h3⟩ := glB_ok h
    rw [E.ast]
    cases e : Γ.glb x with
    | none =>
      refine ⟨fun pins s σ H Q I ⟨ρ, l, M, S, q⟩ => ?_⟩
      simp only [evalE, e] at q
      exact q.elim
    | some d =>
      obtain ⟨u, v, g1, g2, g3⟩ := C.gl x d e
      have := me_c (X := X) (xc := xc) (W := W) (pe_glob (pos := pos p) h1 g1 g2 h2) g3
      simpa only [evalE, e] using this) fun pe => mt_truth pe fun _ => rfl
  | .tup es k p, h => both (me_tup (sndA C es h)) fun pe => mt_truth pe fun _ => rfl
  | .lst c es p, h => both (me_lst (sndA C es h)) fun pe => mt_truth pe fun _ => rfl
  | .bin c op a b p, h => both (by
    simp only [E.ok, Bool.and_eq_true] at h
    exact me_bin (op_binD c op) ((sndB C a h.1).1) ((sndB C b h.2).1)) fun pe => mt_truth pe fun _ => rfl
  | .neg a p, h => both (me_un un_negD ((sndB C a h).1)) fun pe => mt_truth pe fun _ => rfl
  | .not a p, h => ⟨(me_not ((sndB C a h).1)),
    (by
    refine PT.imp (mt_not (pos := pos p) ((sndB C a h).2)) fun σ H Q ⟨ρ, l, M, S, q⟩ => ⟨ρ, l, M, S, ?_⟩
    simp only [evalE, R.bind_assoc] at q
    simp only [R.bind_assoc]
    exact q)⟩
  | .cmp op a b p, h => ⟨(by
    simp only [E.ok, Bool.and_eq_true] at h
    exact me_cmp (op_cmpD C.hu op) (marksE op b) ((sndB C a h.1).1) ((sndB C b h.2).1)),
    (by
    simp only [E.ok, Bool.and_eq_true] at h
    exact mt_cmp C.hu (marksE op b) ((sndB C a h.1).1) ((sndB C b h.2).1))⟩
  | .chn op op' a b c p, h => ⟨(by
    simp only [E.ok, Bool.and_eq_true] at h
    exact me_chn C.hu ((sndB C a h.1.1).1) ((sndB C b h.1.2).1) ((sndB C c h.2).1) (pe_chain (op_cmpD C.hu op) (op_cmpD C.hu op') ((sndB C a h.1.1).1) ((sndB C b h.1.2).1) ((sndB C c h.2).1) (by
      show lastMarks [op, op'] [b.ast X.N, c.ast X.N] = false
      exact marksE op' c))),
    (by
    have hh := h
    simp only [E.ok, Bool.and_eq_true] at h
    refine mt_chn C.hu ((sndB C a h.1.1).1) ((sndB C b h.1.2).1) ((sndB C c h.2).1) (pt_chain (op_cmpD C.hu op) (op_cmpD C.hu op') ((sndB C a h.1.1).1) ((sndB C b h.1.2).1) ((sndB C c h.2).1) (by
      show lastMarks [op, op'] [b.ast X.N, c.ast X.N] = false
      exact marksE op' c)))⟩
  | .and es p, h => ⟨(by
    simp only [E.ok, Bool.and_eq_true, Bool.not_eq_true'] at h
    exact sndAnd C es p h.1 h.2),
    (by
    simp only [E.ok, Bool.and_eq_true, Bool.not_eq_true'] at h
    exact (sndAndT C es p h.1 h.2).pt)⟩
  | .or es p, h => ⟨(by
    simp only [E.ok, Bool.and_eq_true, Bool.not_eq_true'] at h
    exact sndOr C es p h.1 h.2),
    (by
    simp only [E.ok, Bool.and_eq_true, Bool.not_eq_true'] at h
    exact (sndOrT C es p h.1 h.2).pt)⟩
  | .ife c a b p, h => ⟨(by
    simp only [E.ok, Bool.and_eq_true] at h
    have := me_ife (pos := pos p) ((sndB C c h.1.1).2) ((sndB C a h.1.2).1) ((sndB C b h.2).1)
    refine PE.imp this fun σ H Q q => ?_
    obtain ⟨ρ, l, M, S, q⟩ := q
    refine ⟨ρ, l, M, S, ?_⟩
    simp only [evalE] at q
    simp only [R.bind_assoc]
    exact q),
    (by
    simp only [E.ok, Bool.and_eq_true] at h
    refine PT.imp (mt_ife (pos := pos p) ((sndB C c h.1.1).2) ((sndB C a h.1.2).2) ((sndB C b h.2).2)) fun σ H Q ⟨ρ, l, M, S, q⟩ => ⟨ρ, l, M, S, ?_⟩
    simp only [evalE, R.bind_assoc] at q
    simp only [R.bind_assoc]
    have e : ∀ (k : Bool) (M2 : Mem), (if k = true then evalE Γ a l M2 else evalE Γ b l M2).bind tru = if k = true then (evalE Γ a l M2).bind tru else (evalE Γ b l M2).bind tru := fun k M2 => by cases k <;> rfl
    simp only [e] at q
    exact q)⟩
  | .ix a b p, h => both (by
    simp only [E.ok, Bool.and_eq_true] at h
    exact me_ix C.hu (plainE b) ((sndB C a h.1).1) ((sndB C b h.2).1)) fun pe => mt_truth pe fun _ => rfl
  | .sl c a lo hi p2 p, h => both (by
    simp only [E.ok, Bool.and_eq_true, Bool.or_eq_true] at h
    have hl := h.1.2
    have hh := h.2
    exact me_sl ((sndB C a h.1.1).1) (mo_opt fun e => (sndB C lo (hl.resolve_left (by rw [e]; decide))).1) (mo_opt fun e => (sndB C hi (hh.resolve_left (by rw [e]; decide))).1)) fun pe => mt_truth pe fun _ => rfl
  | .cal f [] pn p, h => by simp [E.ok] at h
  | .cal f (e :: es) pn p, h => both (by
    simp only [E.ok, Bool.and_eq_true, List.any_eq_true, beq_iff_eq] at h
    obtain ⟨⟨⟨h1, ⟨⟨f', fps⟩, h2, h4, h5⟩⟩, _⟩, h3⟩ := h
    simp only at h4 h5
    subst h4
    obtain ⟨g1, g2, _⟩ := glB_ok h1
    obtain ⟨g, F, hg⟩ := C.fn f' _ h2
    have ha := sndA C (e :: es) h3
    have := me_cal (po := pos p) (p := pos pn) F C.gd C.tk g1 g2 ha (starE e _ _) (anyE _ _ es)
    refine PE.imp this fun σ H Q q => ?_
    obtain ⟨ρ, l, M, S, q⟩ := q
    refine ⟨ρ, l, M, S, ?_⟩
    simp only [evalE] at q
    have : (fun ds M1 => Γ.call f' ds M1) = fun ds M1 => if ds.length = fps.length then g ds M1 else .stuck := by funext ds M1; exact hg ds M1
    rw [this] at q
    exact q) fun pe => mt_truth pe fun _ => rfl
  | .blt c b [] pn p, h => by simp [E.ok] at h
  | .blt c b (e :: es) pn p, h => both (by
    simp only [E.ok, Bool.and_eq_true] at h
    obtain ⟨⟨h1, _⟩, h3⟩ := h
    obtain ⟨g1, g2, g3⟩ := glB_ok h1
    exact me_blt C g1 g3 g2 (sndA C (e :: es) h3) (starE e _ _) (anyE _ _ es)) fun pe => mt_truth pe fun _ => rfl
  | .isi a t pt pn p, h => both (by
    simp only [E.ok, Bool.and_eq_true] at h
    obtain ⟨⟨h1, h2⟩, h3⟩ := h
    obtain ⟨g1, g2⟩ := isT_glB C h2
    exact me_isi (glB_ok h1).1 (C.blt _ (by simp [bNames])) g1 g2 ((sndB C a h3).1) (starE a _ _)) fun pe => mt_truth pe fun _ => rfl
  | .isiT a ts k pt pn p, h => both (by
    simp only [E.ok, Bool.and_eq_true, List.all_eq_true, decide_eq_true_eq] at h
    obtain ⟨⟨⟨h1, h2⟩, h4⟩, h3⟩ := h
    exact me_isiT (glB_ok h1).1 (C.blt _ (by simp [bNames])) (fun z hz => isT_glB C (h2 z hz)) (Nat.le_of_lt (small1000 h4)) ((sndB C a h3).1) (fun es => starE a _ _)) fun pe => mt_truth pe fun _ => rfl
  | .mth c o m [] pa p, h => both (by
    simp only [E.ok, Bool.and_eq_true] at h
    obtain ⟨⟨⟨h1, h2⟩, h3⟩, h4⟩ := h
    obtain ⟨T, id, F⟩ := mt_facts (X := X) C.hu c m
    exact me_mt0 F.eT F.pa F.slot F.ty F.mt ((sndB C o h1).1) (baseE o h1) h3) fun pe => mt_truth pe fun _ => rfl
  | .mth c o m (e :: es) pa p, h => both (by
    simp only [E.ok, Bool.and_eq_true, decide_eq_true_eq] at h
    obtain ⟨⟨⟨h1, h2⟩, h3⟩, h4⟩ := h
    obtain ⟨T, id, F⟩ := mt_facts (X := X) C.hu c m
    refine me_mt1 F.eT F.pa F.slot F.ty F.mt ((sndB C o h1).1) (sndA C (e :: es) h2) (baseE o h1) h3 (starE e _ _) (anyE _ _ es) ?_
    simp only [Bool.and_eq_true, decide_eq_true_eq]
    refine ⟨⟨allE _ _ (e :: es), rfl⟩, ?_⟩
    have := lenE (N := X.N) (e :: es)
    show (E.asts X.N (e :: es)).length + 0 + 0 < 30
    omega) fun pe => mt_truth pe fun _ => rfl
  | .lc c k its t ifs elt ns own p, h => both (by
    simp only [E.ok, Bool.and_eq_true, decide_eq_true_eq, List.all_eq_true, List.contains_iff_mem] at h
    obtain ⟨⟨⟨⟨⟨⟨⟨h1, h2⟩, h3⟩, h4⟩, h5⟩, h6⟩, h7⟩, h8⟩ := h
    have hi := sndI C k its t (sndAll C its h1) (sndA C its h1) h2 h1
    refine me_lc C.calm C.nd hi (blkOk_by h3) h4 (fun s H Cc cl fp => ?_) (fun s H Cc cl fp => ?_) (fun s H Cc cl fp => ?_) (foldK k its X.env)
    · refine mg_T (X := X.blk s H (scopeOf ns) (compEnvC (scopeOf ns) cl Cc X.env) fp) C.nd C.calm (fun x hx => ?_) t h5
      rcases locB_ok (N := X.N) (sc := X.env.scope) hx with e | e
      · have e2 := relabel_loc (X := X) (ns := ns) (k := .local) (by decide) e
        exact ⟨.inl e2, .inr e2⟩
      · have e2 := relabel_loc (X := X) (ns := ns) (k := .cell) (by decide) e
        refine ⟨.inr e2, .inl ?_⟩
        show ((scopeOf ns).names.lookup x == some .cell) = true
        rw [show (scopeOf ns).names.lookup x = some .cell from e]; rfl
    · exact sndTs (C.blk s H (scopeOf ns) (compEnvC (scopeOf ns) cl Cc X.env) fp) ifs h7
    · exact (sndB (C.blk s H (scopeOf ns) (compEnvC (scopeOf ns) cl Cc X.env) fp) elt h8).1) fun pe => mt_truth pe fun _ => rfl
  | .dc0 p, h => both me_dc0 fun pe => mt_truth pe fun _ => rfl
  | .lrg c [] q2 p2 pn p, h => by simp [E.ok] at h
  | .lrg c (e :: es) q2 p2 pn p, h => both (by
    simp only [E.ok, Bool.and_eq_true] at h
    obtain ⟨⟨⟨h1, h2⟩, _⟩, h3⟩ := h
    exact me_lrg C.calm (glB_ok h1).1 (C.blt _ (by simp [bNames])) (glB_ok h2).1 (C.blt _ (by simp [bNames])) (sndA C (e :: es) h3) (starE e _ _) (anyE _ _ es)) fun pe => mt_truth pe fun _ => rfl
  | .sst c a q2 p2 pn p, h => both (by
    simp only [E.ok, Bool.and_eq_true] at h
    obtain ⟨⟨h1, h2⟩, h3⟩ := h
    exact me_sst C.calm C.hu (glB_ok h1).1 (C.blt _ (by simp [bNames])) (glB_ok h2).1 (C.blt _ (by simp [bNames])) ((sndB C a h3).1) (starE a _ _)) fun pe => mt_truth pe fun _ => rfl
  | .nst a q2 p2 pn p, h => both (by
    simp only [E.ok, Bool.and_eq_true] at h
    obtain ⟨⟨h1, h2⟩, h3⟩ := h
    exact me_nst C.calm C.hu (glB_ok h1).1 (C.blt _ (by simp [bNames])) (glB_ok h2).1 (C.blt _ (by simp [bNames])) ((sndB C a h3).1) (starE a _ _)) fun pe => mt_truth pe fun _ => rfl
  | .ssc c k its t ifs elt ns own p2 pn p, h => both (by
    simp only [E.ok, Bool.and_eq_true, decide_eq_true_eq, List.all_eq_true, List.contains_iff_mem] at h
    obtain ⟨⟨⟨⟨⟨⟨⟨⟨h1, h2⟩, h3⟩, h4⟩, h5⟩, h6⟩, h7⟩, h8⟩, h9⟩ := h
    have hi := sndI C k its t (sndAll C its h1) (sndA C its h1) h2 h1
    refine me_ssc C.calm C.hu (glB_ok h9).1 (C.blt _ (by simp [bNames])) C.nd hi (blkOk_by h3) h4 (fun s H Cc cl fp => ?_) (fun s H Cc cl fp => ?_) (fun s H Cc cl fp => ?_) (foldK k its X.env)
    · refine mg_T (X := X.blk s H (scopeOf ns) (compEnvC (scopeOf ns) cl Cc X.env) fp) C.nd C.calm (fun x hx => ?_) t h5
      rcases locB_ok (N := X.N) (sc := X.env.scope) hx with e | e
      · have e2 := relabel_loc (X := X) (ns := ns) (k := .local) (by decide) e
        exact ⟨.inl e2, .inr e2⟩
      · have e2 := relabel_loc (X := X) (ns := ns) (k := .cell) (by decide) e
        refine ⟨.inr e2, .inl ?_⟩
        show ((scopeOf ns).names.lookup x == some .cell) = true
        rw [show (scopeOf ns).names.lookup x = some .cell from e]; rfl
    · exact sndTs (C.blk s H (scopeOf ns) (compEnvC (scopeOf ns) cl Cc X.env) fp) ifs h7
    · exact (sndB (C.blk s H (scopeOf ns) (compEnvC (scopeOf ns) cl Cc X.env) fp) elt h8).1) fun pe => mt_truth pe fun _ => rfl
  | .sls c a lo hi st p2 p, h => both (by
    simp only [E.ok, Bool.and_eq_true, Bool.or_eq_true] at h
    have hl := h.1.1.2
    have hh := h.1.2
    exact me_sls ((sndB C a h.1.1.1).1) (mo_opt fun e => (sndB C lo (hl.resolve_left (by rw [e]; decide))).1) (mo_opt fun e => (sndB C hi (hh.resolve_left (by rw [e]; decide))).1) ((sndB C st h.2).1)) fun pe => mt_truth pe fun _ => rfl
  | .fmt a p, h => both (me_fmt ((sndB C a h).1)) fun pe => mt_truth pe fun _ => rfl
  | .fst a b es p, h => both (by
    simp only [E.ok, Bool.and_eq_true] at h
    obtain ⟨ts, pj, hr⟩ := sndJ C es h.2
    refine PE.imp (pe_joined (.cons ((sndB C a h.1.1).1) (.cons ((sndB C b h.1.2).1) pj))) fun σ H Q q => ?_
    exact tj_cons (rest := fun s1 l M2 => (evalE Γ b l M2).bind fun y M3 => (jnD s1 y M3).bind fun s2 M4 => evalJ Γ es s2 l M4) (fun acc σ H Q q2 => tj_cons (rest := fun s l M => evalJ Γ es s l M) hr q2) q) fun pe => mt_truth pe fun _ => rfl
  | .dcp k its t ifs ke ve ns own p, h => both (by
    simp only [E.ok, Bool.and_eq_true, decide_eq_true_eq, List.all_eq_true, List.contains_iff_mem] at h
    obtain ⟨⟨⟨⟨⟨⟨⟨⟨h1, h2⟩, h3⟩, h4⟩, h5⟩, h6⟩, h7⟩, h8⟩, h9⟩ := h
    have hi := sndI C k its t (sndAll C its h1) (sndA C its h1) h2 h1
    refine me_dcp C.calm C.nd hi (blkOk_by h3) h4 (fun s H Cc cl fp => ?_) (fun s H Cc cl fp => ?_) (fun s H Cc cl fp => ?_) (fun s H Cc cl fp => ?_) (foldK k its X.env)
    · refine mg_T (X := X.blk s H (scopeOf ns) (compEnvC (scopeOf ns) cl Cc X.env) fp) C.nd C.calm (fun x hx => ?_) t h5
      rcases locB_ok (N := X.N) (sc := X.env.scope) hx with e | e
      · have e2 := relabel_loc (X := X) (ns := ns) (k := .local) (by decide) e
        exact ⟨.inl e2, .inr e2⟩
      · have e2 := relabel_loc (X := X) (ns := ns) (k := .cell) (by decide) e
        refine ⟨.inr e2, .inl ?_⟩
        show ((scopeOf ns).names.lookup x == some .cell) = true
        rw [show (scopeOf ns).names.lookup x = some .cell from e]; rfl
    · exact sndTs (C.blk s H (scopeOf ns) (compEnvC (scopeOf ns) cl Cc X.env) fp) ifs h7
    · exact (sndB (C.blk s H (scopeOf ns) (compEnvC (scopeOf ns) cl Cc X.env) fp) ke h8).1
    · exact (sndB (C.blk s H (scopeOf ns) (compEnvC (scopeOf ns) cl Cc X.env) fp) ve h9).1) fun pe => mt_truth pe fun _ => rfl
  | .ext .fm4 [] ps, h => by simp [E.ok, X1.ok] at h
  | .ext .fm4 (_ :: _ :: _) ps, h => by simp [E.ok, X1.ok] at h
  | .ext .fm4 [a] ps, h => both (by
    simp only [E.ok, E.oks, Bool.and_eq_true] at h
    refine PE.imp (me_fm4 ((sndB C a h.1.1).1)) fun σ H Q q => ?_
    obtain ⟨ρ, l, M, S, q⟩ := q
    refine ⟨ρ, l, M, S, ?_⟩
    simp only [evalE, evalA, R.bind_assoc, X1.sem] at q
    exact q) fun pe => mt_truth pe fun _ => rfl
  | .ext (.calk f ks pm) es ps, h => both (by
    simp only [E.ok, X1.ok, Bool.and_eq_true, List.contains_iff_mem, beq_iff_eq, decide_eq_true_eq, List.all_eq_true] at h
    obtain ⟨h0, ⟨⟨⟨⟨⟨⟨h1, _⟩, h2⟩, h3⟩, h4⟩, h5⟩, h6⟩, h7⟩ := h
    obtain ⟨g1, g2, _⟩ := glB_ok h1
    obtain ⟨g, F, hg⟩ := C.fn f _ h2
    have l1 : ks.length = (E.asts X.N es).length := by rw [lenE]; exact h4.symm
    have l2 : (ps.drop 2).length = (E.asts X.N es).length := by rw [lenE, List.length_drop]; omega
    obtain ⟨k1, k2, k3⟩ := kws_facts (N := X.N) (env := X.env) (po := pos (ps.getD 1 0)) l1 l2
    have := me_calk (po := pos (ps.getD 1 0)) (p := pos (ps.getD 0 0)) F C.gd C.tk g1 g2 (sndK C ks es (ps.drop 2) h0 h4.symm (by rw [← lenE (N := X.N)]; exact l2)) h3 rfl h6 h7 k1 k2 (by rw [k3]; rfl)
    refine PE.imp this fun σ H Q q => ?_
    obtain ⟨ρ, l, M, S, q⟩ := q
    refine ⟨ρ, l, M, S, ?_⟩
    simp only [evalE, X1.sem, hg] at q
    exact q) fun pe => mt_truth pe fun _ => rfl
  | .frz a, h => ⟨(by
    simp only [E.ok, Bool.and_eq_true] at h
    exact me_frz ((sndB C a h.2).1)),
    (by
    have h' := h
    simp only [E.ok, Bool.and_eq_true] at h'
    exact mt_truth (me_frz ((sndB C a h'.2).1)) (plainT_ok a h'.1))⟩
theorem sndA {X : Cx} {W : WX} (C : Ctx Γ fns xc W X) : ∀ es : List E, E.oks fns X.N es X.env.scope = true → PA X (E.asts X.N es) (rdA X.K xc W (evalA Γ es))
  | [], h => ma_nil
  | e :: es, h => by
    simp only [E.oks, Bool.and_eq_true] at h
    exact ma_cons ((sndB C e h.1).1) (sndA C es h.2) (starE e _ _)
theorem sndK {X : Cx} {W : WX} (C : Ctx Γ fns xc W X) : ∀ (ks : List Str) (es : List E) (ps : List Nat), E.oks fns X.N es X.env.scope = true → ks.length = es.length → ps.length = es.length → PK X (kwsAst ks (E.asts X.N es) ps) (rdA X.K xc W (evalA Γ es))
  | [], [], [], h, _, _ => mk_nil
  | k :: ks, e :: es, p :: ps, h, h1, h2 => by
    simp only [E.oks, Bool.and_eq_true] at h
    exact mk_cons ((sndB C e h.1).1) (sndK C ks es ps h.2 (by simpa using h1) (by simpa using h2))
  | [], _ :: _, _, _, h, _ => by simp at h
  | _ :: _, [], _, _, h, _ => by simp at h
  | _, [], _ :: _, _, _, h => by simp at h
  | _, _ :: _, [], _, _, h => by simp at h
theorem sndJ {X : Cx} {W : WX} (C : Ctx Γ fns xc W X) : ∀ es : List E, E.oks fns X.N es X.env.scope = true → ∃ ts, PJ X (E.asts X.N es) ts ∧ ∀ acc σ H Q, rdE X.K xc W (fun l M => evalJ Γ es acc l M) σ H Q → tJs ts acc σ H fun out H1 => Q (.str out) H1
  | [], h => ⟨[], .nil, fun acc σ H Q ⟨ρ, l, M, S, q⟩ => q _ ρ H S.mem (Le.refl _ _) (Pr (.str _))⟩
  | e :: es, h => by
    simp only [E.oks, Bool.and_eq_true] at h
    obtain ⟨ts, pj, hr⟩ := sndJ C es h.2
    exact ⟨_, .cons ((sndB C e h.1).1) pj, fun acc σ H Q q => tj_cons (rest := fun s l M => evalJ Γ es s l M) hr q⟩
theorem sndTs {X : Cx} {W : WX} (C : Ctx Γ fns xc W X) : ∀ es : List E, E.oks fns X.N es X.env.scope = true → PTs X (E.asts X.N es) (rdT X.K xc W (evalTs Γ es))
  | [], h => by
    refine ⟨fun pins s σ H Q I ⟨ρ, l, M, S, q⟩ => pts_nil.run pins s σ H Q I ?_⟩
    exact q true ρ H S.mem (Le.refl _ _) rfl
  | [e], h => by
    simp only [E.oks, Bool.and_eq_true] at h
    exact pts_one ((sndB C e h.1).2)
  | _ :: _ :: _, h => ⟨fun pins s σ H Q I ⟨ρ, l, M, S, q⟩ => q.elim⟩
theorem sndAnd {X : Cx} {W : WX} (C : Ctx Γ fns xc W X) : ∀ (es : List E) (p : Nat), es.isEmpty = false → E.oks fns X.N es X.env.scope = true → PE X (.BoolOp .And (E.asts X.N es) (pos p)) (rdE X.K xc W (evalAnd Γ es))
  | [], p, h0, h => by cases h0
  | [e], p, h0, h => by
    simp only [E.oks, Bool.and_eq_true] at h
    exact pe_one ((sndB C e h.1).1)
  | e :: e' :: es, p, h0, h => by
    simp only [E.oks, Bool.and_eq_true] at h
    exact me_and ((sndB C e h.1).1) (sndAnd C (e' :: es) p rfl (by simp only [E.oks, Bool.and_eq_true]; exact h.2))
theorem sndOr {X : Cx} {W : WX} (C : Ctx Γ fns xc W X) : ∀ (es : List E) (p : Nat), es.isEmpty = false → E.oks fns X.N es X.env.scope = true → PE X (.BoolOp .Or (E.asts X.N es) (pos p)) (rdE X.K xc W (evalOr Γ es))
  | [], p, h0, h => by cases h0
  | [e], p, h0, h => by
    simp only [E.oks, Bool.and_eq_true] at h
    exact pe_one ((sndB C e h.1).1)
  | e :: e' :: es, p, h0, h => by
    simp only [E.oks, Bool.and_eq_true] at h
    exact me_or ((sndB C e h.1).1) (sndOr C (e' :: es) p rfl (by simp only [E.oks, Bool.and_eq_true]; exact h.2))
theorem sndAndT {X : Cx} {W : WX} (C : Ctx Γ fns xc W X) : ∀ (es : List E) (p : Nat), es.isEmpty = false → E.oks fns X.N es X.env.scope = true → PW X (.BoolOp .And (E.asts X.N es) (pos p)) (rdT X.K xc W fun l M => (evalAnd Γ es l M).bind tru)
  | [], p, h0, h => by cases h0
  | [e], p, h0, h => by
    simp only [E.oks, Bool.and_eq_true] at h
    exact pw_and1 ((sndB C e h.1).2)
  | e :: e' :: es, p, h0, h => by
    simp only [E.oks, Bool.and_eq_true] at h
    refine PW.imp (mw_and ((sndB C e h.1).2) (sndAndT C (e' :: es) p rfl (by simp only [E.oks, Bool.and_eq_true]; exact h.2))) fun σ H Q ⟨ρ, l, M, S, q⟩ => ⟨ρ, l, M, S, ?_⟩
    simp only [evalAnd, R.bind_assoc, and_tru] at q
    simp only [R.bind_assoc]
    exact q
theorem sndOrT {X : Cx} {W : WX} (C : Ctx Γ fns xc W X) : ∀ (es : List E) (p : Nat), es.isEmpty = false → E.oks fns X.N es X.env.scope = true → PW X (.BoolOp .Or (E.asts X.N es) (pos p)) (rdT X.K xc W fun l M => (evalOr Γ es l M).bind tru)
  | [], p, h0, h => by cases h0
  | [e], p, h0, h => by
    simp only [E.oks, Bool.and_eq_true] at h
    exact pw_or1 ((sndB C e h.1).2)
  | e :: e' :: es, p, h0, h => by
    simp only [E.oks, Bool.and_eq_true] at h
    refine PW.imp (mw_or ((sndB C e h.1).2) (sndOrT C (e' :: es) p rfl (by simp only [E.oks, Bool.and_eq_true]; exact h.2))) fun σ H Q ⟨ρ, l, M, S, q⟩ => ⟨ρ, l, M, S, ?_⟩
    simp only [evalOr, R.bind_assoc, or_tru] at q
    simp only [R.bind_assoc]
    exact q
theorem sndAll {X : Cx} {W : WX} (C : Ctx Γ fns xc W X) : ∀ es : List E, E.oks fns X.N es X.env.scope = true → ∀ e ∈ es, PE X (e.ast X.N) (rdE X.K xc W (evalE Γ e))
  | [], h => fun e he => nomatch he
  | e :: es, h => fun e' he => by
    simp only [E.oks, Bool.and_eq_true] at h
    rcases List.mem_cons.mp he with q | q
    · rw [q]; exact (sndB C e h.1).1
    · exact sndAll C es h.2 e' q
end
end
end Mini

/-! Mini, part r: statements. -/
namespace Mini
open PySem PySem.Spec PyProof.Rows L2

inductive S where
  | asg (t : T) (e : E) (p : Nat)
  | asgc (i : Nat) (pn : Nat) (e : E) (p : Nat)
  | par (i j : Nat) (pi pj kt pt : Nat) (a b : E) (k2 p2 p : Nat)
  | par3 (i j l : Nat) (pi pj pl kt pt : Nat) (a b c : E) (k2 p2 p : Nat)
  | set (o i e : E) (pt p : Nat)
  | aug (i : Nat) (op : Operator) (e : E) (pn p : Nat)
  | augs (o i : E) (op : Operator) (e : E) (pt p : Nat)
  | for_ (k : IK) (its : List E) (t : T) (body : List S) (p : Nat)
  | whl (n : Nat) (c : E) (body : List S) (p : Nat)
  | ite (c : E) (a b : List S) (p : Nat)
  | ret (e : E) (p : Nat)
  | ret0 (p : Nat)
  | exp (e : E) (p : Nat)
  | pss (p : Nat)
  | brk (p : Nat)
  | cnt (p : Nat)
  | rse (x : Str) (m : Str) (pn pm pc p : Nat)
  | setl (o e : E) (p2 pt p : Nat)
mutual
def S.ast (N : List Str) : S → Stmt
  | .asg t e p => .Assign [T.ast N t] (E.ast N e) (pos p)
  | .asgc i pn e p => .Assign [.Name (N.getD i "") (pos pn)] (E.ast N e) (pos p)
  | .par i j pi pj kt pt a b k2 p2 p => .Assign [.Tuple [.Name (N.getD i "") (pos pi), .Name (N.getD j "") (pos pj)] kt (pos pt)] (.Tuple [E.ast N a, E.ast N b] k2 (pos p2)) (pos p)
  | .par3 i j l pi pj pl kt pt a b c k2 p2 p => .Assign [.Tuple [.Name (N.getD i "") (pos pi), .Name (N.getD j "") (pos pj), .Name (N.getD l "") (pos pl)] kt (pos pt)] (.Tuple [E.ast N a, E.ast N b, E.ast N c] k2 (pos p2)) (pos p)
  | .set o i e pt p => .Assign [.Subscript (E.ast N o) (E.ast N i) (pos pt)] (E.ast N e) (pos p)
  | .aug i op e pn p => .AugAssign (.Name (N.getD i "") (pos pn)) op (E.ast N e) (pos p)
  | .augs o i op e pt p => .AugAssign (.Subscript (E.ast N o) (E.ast N i) (pos pt)) op (E.ast N e) (pos p)
  | .for_ k its t body p => .For (T.ast N t) (k.ast (E.asts N its)) (S.asts N body) [] (pos p)
  | .whl _ c body p => .While (E.ast N c) (S.asts N body) [] (pos p)
  | .ite c a b p => .If (E.ast N c) (S.asts N a) (S.asts N b) (pos p)
  | .ret e p => .Return (some (E.ast N e)) (pos p)
  | .ret0 p => .Return none (pos p)
  | .exp e p => .Expr (E.ast N e) (pos p)
  | .pss p => .Pass (pos p)
  | .brk p => .Break (pos p)
  | .cnt p => .Continue (pos p)
  | .rse x m pn pm pc p => .Raise (some (.Call (.Name x (pos pn)) [.Constant (.str m) 0 (pos pm)] [] (pos pc))) none (pos p)
  | .setl o e p2 pt p => .Assign [.Subscript (E.ast N o) (.Slice none none none (pos p2)) (pos pt)] (E.ast N e) (pos p)
def S.asts (N : List Str) : List S → List Stmt
  | [] => []
  | s :: ss => S.ast N s :: S.asts N ss
end
noncomputable def forL (w : Wk) (t : T) (body : Lo → Mem → RS) : List D → Lo → Mem → RS
  | [], l, M => if stays w M = true then .next l M else .stuck
  | d :: ds, l, M => if stays w M = true then match setT t d l with
      | none => .stuck
      | some l2 => match body l2 M with
        | .next l' M' => forL w t body ds l' M'
        | .cnt l' M' => forL w t body ds l' M'
        | .brk l' M' => .next l' M'
        | .ret d M' => .ret d M'
        | .exc c l' M' => .exc c l' M'
        | .stuck => .stuck
    else .stuck
def whileL (c : Lo → Mem → R Bool) (body : Lo → Mem → RS) : Nat → Lo → Mem → RS
  | 0, _, _ => .stuck
  | n + 1, l, M => (c l M).to l fun k M1 => if k = true then match body l M1 with
      | .next l' M' => whileL c body n l' M'
      | .cnt l' M' => whileL c body n l' M'
      | .brk l' M' => .next l' M'
      | .ret d M' => .ret d M'
      | .exc c l' M' => .exc c l' M'
      | .stuck => .stuck
    else .next l M1
def setItS (o i v : D) (M : Mem) : Option Mem := match i with
  | .p (.int k) => match celL o M with
    | some (m, xs) => (ixN xs.length k).map fun j => M.set m (.lst (xs.set j v))
    | none => none
  | _ => none
def setIt (o i v : D) (M : Mem) : Option Mem := match celD o M with
  | some z => (keyD i).bind fun k => if z.2.length < sizeLine then some (M.set z.1 (.dct (putKD z.2 k v))) else none
  | none => setItS o i v M
/-- o[:] = v: what it does to the cells -/
def setAll (o v : D) (M : Mem) : Option Mem := match celL o M, celL v M with
  | some (m, xs), some (n, ys) => if m ≠ n ∧ xs.length + ys.length ≤ sizeLine then some (M.set m (.lst ys)) else none
  | _, _ => none
/-- a cell's item, for o[i] op= e -/
def ixG (x i : D) (M : Mem) : Option (D × Mem) := if ((celL x M).isSome || (celD x M).isSome) = true then ixD x i M else none
/-- x op= y for the names -/
def augD (op : Operator) (x y : D) (M : Mem) : Option (D × Mem) := match op, x, y with
  | .Add, .p (.int i), .p (.int j) => some (.p (.int (i + j)), M)
  | .Sub, .p (.int i), .p (.int j) => some (.p (.int (i - j)), M)
  | .Mult, .p (.int i), .p (.int j) => if i.natAbs.log2 + j.natAbs.log2 < 1000000 then some (.p (.int (i * j)), M) else none
  | .FloorDiv, .p (.int i), .p (.int j) => if 0 < j ∧ j.natAbs.log2 < 9000 then some (.p (.int (i / j)), M) else none
  | .Add, .p (.str a), .p (.str b) => if a.length + b.length ≤ sizeLine then some (.p (.str (a ++ b)), M) else none
  | .Add, .ref k, y => cel (fun m xs => cel (fun _ ys => if xs.length + ys.length ≤ sizeLine then some (.ref k, M.set m (.lst (xs ++ ys))) else none) y M) (.ref k) M
  | _, _, _ => none
mutual
noncomputable def execS (Γ : Wd) (xi : Str → Option Nat) : S → Lo → Mem → RS
  | .asg t e _ => fun l M => (evalE Γ e l M).to l fun d M1 => match setT t d l with
    | some l' => .next l' M1
    | none => .stuck
  | .asgc i _ e _ => fun l M => (evalE Γ e l M).to l fun d M1 => if i < l.length then .next (l.set i (some d)) M1 else .stuck
  | .par i j _ _ _ _ a b _ _ _ => fun l M => (evalE Γ a l M).to l fun x M1 => (evalE Γ b l M1).to l fun y M2 => if i < l.length ∧ j < l.length then .next ((l.set i (some x)).set j (some y)) M2 else .stuck
  | .par3 i j k _ _ _ _ _ a b c _ _ _ => fun l M => (evalE Γ a l M).to l fun x M1 => (evalE Γ b l M1).to l fun y M2 => (evalE Γ c l M2).to l fun z M3 => if i < l.length ∧ j < l.length ∧ k < l.length then .next (((l.set i (some x)).set j (some y)).set k (some z)) M3 else .stuck
  | .set o i e _ _ => fun l M => (evalE Γ e l M).to l fun v M1 => (evalE Γ o l M1).to l fun x M2 => (evalE Γ i l M2).to l fun y M3 => match setIt x y v M3 with
    | some M4 => .next l M4
    | none => .stuck
  | .aug i op e _ _ => fun l M => (getL l i M).to l fun x _ => (evalE Γ e l M).to l fun y M1 => (ofO (augD op x y M1)).to l fun z M2 => .next (l.set i (some z)) M2
  | .augs o i op e _ _ => fun l M => (evalE Γ o l M).to l fun x M1 => (evalE Γ i l M1).to l fun y M2 => (ofO (ixG x y M2)).to l fun v M3 => (evalE Γ e l M3).to l fun u M4 => (ofO (augD op v u M4)).to l fun z M5 => match setIt x y z M5 with
    | some M6 => .next l M6
    | none => .stuck
  | .for_ k its t body _ => fun l M => ((evalA Γ its l M).bind fun ds M1 => walkR k ds M1).to l fun r M1 => forL r.2 t (execB Γ xi body) r.1 l M1
  | .whl n c body _ => fun l M => whileL (fun l M => (evalE Γ c l M).bind tru) (execB Γ xi body) n l M
  | .ite c a b _ => fun l M => ((evalE Γ c l M).bind tru).to l fun k M1 => if k = true then execB Γ xi a l M1 else execB Γ xi b l M1
  | .ret e _ => fun l M => (evalE Γ e l M).to l fun d M1 => .ret d M1
  | .ret0 _ => fun _ M => .ret (.p .none) M
  | .exp e _ => fun l M => (evalE Γ e l M).to l fun _ M1 => .next l M1
  | .pss _ => fun l M => .next l M
  | .brk _ => fun l M => .brk l M
  | .cnt _ => fun l M => .cnt l M
  | .rse x _ _ _ _ _ => fun l M => match xi x with
    | some c => .exc c l M
    | none => .stuck
  | .setl o e _ _ _ => fun l M => (evalE Γ e l M).to l fun v M1 => (evalE Γ o l M1).to l fun x M2 => match setAll x v M2 with
    | some M3 => .next l M3
    | none => .stuck
noncomputable def execB (Γ : Wd) (xi : Str → Option Nat) : List S → Lo → Mem → RS
  | [] => fun l M => .next l M
  | s :: ss => fun l M => (execS Γ xi s l M).andThen fun l1 M1 => execB Γ xi ss l1 M1
end
/-- what is wanted behind a statement -/
def postS (K : PySem.W.Frag) (xc : Nat → Addr) (W : WX) (ρ : Rho) (M : Mem) (H : Hp) (Ds : Ends) : RS → Prop
  | .next l' M' => ∀ σ' ρ' H', Sim K ρ' l' M' σ' H' → Le (hd ρ M H) (hd ρ' M' H') ρ ρ' → Ds.nx σ' H'
  | .brk l' M' => ∀ σ' ρ' H', Sim K ρ' l' M' σ' H' → Le (hd ρ M H) (hd ρ' M' H') ρ ρ' → Ds.bk σ' H'
  | .cnt l' M' => ∀ σ' ρ' H', Sim K ρ' l' M' σ' H' → Le (hd ρ M H) (hd ρ' M' H') ρ ρ' → Ds.ct σ' H'
  | .ret d M' => ∀ v ρ' H', MemOk K ρ' M' H' → Le (hd ρ M H) (hd ρ' M' H') ρ ρ' → RelD K (hd ρ' M' H') ρ' d v → Ds.rt v H'
  | .exc c l' M' => ∀ σ' ρ' H', Sim K ρ' l' M' σ' H' → Le (hd ρ M H) (hd ρ' M' H') ρ ρ' → W (.ref (xc c)) none σ' H'
  | .stuck => False
def rdS (K : PySem.W.Frag) (xc : Nat → Addr) (W : WX) (f : Lo → Mem → RS) : TS := fun Ds σ H => ∃ ρ l M, Sim K ρ l M σ H ∧ postS K xc W ρ M H Ds (f l M)
section
variable {K : PySem.W.Frag} {xc : Nat → Addr} {W : WX} {ρ ρ1 : Rho} {l : Lo} {M M1 : Mem} {σ : L2.St} {H H1 : Hp} {Ds Ds' : Ends}
theorem postS.le {r : RS} (h : postS K xc W ρ M H Ds r) (le : Le (hd ρ M H) (hd ρ1 M1 H1) ρ ρ1) : postS K xc W ρ1 M1 H1 Ds r := by
  cases r with
  | next a m => exact fun v ρ' H' x k => h v ρ' H' x (le.trans k)
  | brk a m => exact fun v ρ' H' x k => h v ρ' H' x (le.trans k)
  | cnt a m => exact fun v ρ' H' x k => h v ρ' H' x (le.trans k)
  | ret d m => exact fun v ρ' H' x k r => h v ρ' H' x (le.trans k) r
  | exc c l m => exact fun v ρ' H' x k => h v ρ' H' x (le.trans k)
  | stuck => exact h
theorem runS {α β : Type} {Rel : Hp → Rho → α → β → Prop} {f : Lo → Mem → R α} {g : α → Mem → RS} (S : Sim K ρ l M σ H) (h : postS K xc W ρ M H Ds ((f l M).to l g)) :
    rd Rel K xc W f σ H fun x H1 => ∃ ρ1 M1 a, Sim K ρ1 l M1 σ H1 ∧ Rel (hd ρ1 M1 H1) ρ1 a x ∧ Le (hd ρ M H) (hd ρ1 M1 H1) ρ ρ1 ∧ postS K xc W ρ1 M1 H1 Ds (g a M1) := by
  refine ⟨ρ, l, M, S, ?_⟩
  cases e : f l M with
  | ok a m =>
    rw [e] at h
    exact fun v ρ' H' x k r => ⟨ρ', m, a, S.le x k, r, k, postS.le h k⟩
  | exc c m =>
    rw [e] at h
    exact fun ρ' H' x k => h σ ρ' H' (S.le x k) k
  | stuck =>
    rw [e] at h
    exact h
end
section
variable {X : Cx} {xc : Nat → Addr} {W : WX}
theorem mss_nil : PSs X [] (rdS X.K xc W fun l M => .next l M) := PSs.imp pss_nil fun Ds σ H ⟨ρ, l, M, S, h⟩ => h σ ρ H S (Le.refl _ _)
theorem mss_cons {st : Stmt} {rest : List Stmt} {f g : Lo → Mem → RS} (ha : PS X st (rdS X.K xc W f)) (hb : PSs X rest (rdS X.K xc W g)) : PSs X (st :: rest) (rdS X.K xc W fun l M => (f l M).andThen fun l1 M1 => g l1 M1) := by
  refine PSs.imp (pss_cons ha hb) ?_
  rintro Ds σ H ⟨ρ, l, M, S, h⟩
  refine ⟨ρ, l, M, S, ?_⟩
  simp only at h
  cases e : f l M with
  | next l1 M1 =>
    rw [e] at h
    exact fun σ' ρ' H' S' le => ⟨ρ', l1, M1, S', postS.le h le⟩
  | ret d m => rw [e] at h; exact h
  | brk a m => rw [e] at h; exact h
  | cnt a m => rw [e] at h; exact h
  | exc c a m => rw [e] at h; exact h
  | stuck => rw [e] at h; exact h
theorem ms_exp {e : Expr} {po : Pos} {f : Lo → Mem → R D} (he : PE X e (rdE X.K xc W f)) (hs : swapsWith e none po.line X.env = pure false) : PS X (.Expr e po) (rdS X.K xc W fun l M => (f l M).to l fun _ M1 => .next l M1) := by
  refine PS.imp (ps_expr he hs) ?_
  rintro Ds σ H ⟨ρ, l, M, S, h⟩
  obtain ⟨ρ0, l0, M0, S0, h0⟩ := runS (Rel := RelD X.K) S h
  refine ⟨ρ0, l0, M0, S0, h0.imp ?_⟩
  rintro x H1 ⟨ρ1, M1, d, S1, r1, k1, h1⟩
  exact h1 σ ρ1 H1 S1 (Le.refl _ _)
theorem ms_ret {e : Expr} {po : Pos} {f : Lo → Mem → R D} (he : PE X e (rdE X.K xc W f)) : PS X (.Return (some e) po) (rdS X.K xc W fun l M => (f l M).to l fun d M1 => .ret d M1) := by
  refine PS.imp (ps_ret he) ?_
  rintro Ds σ H ⟨ρ, l, M, S, h⟩
  obtain ⟨ρ0, l0, M0, S0, h0⟩ := runS (Rel := RelD X.K) S h
  refine ⟨ρ0, l0, M0, S0, h0.imp ?_⟩
  rintro x H1 ⟨ρ1, M1, d, S1, r1, k1, h1⟩
  exact h1 x ρ1 H1 S1.mem (Le.refl _ _) r1
theorem ms_if {c : Expr} {a b : List Stmt} {po : Pos} {fc : Lo → Mem → R Bool} {fa fb : Lo → Mem → RS} (hc : PT X c (rdT X.K xc W fc)) (ha : PSs X a (rdS X.K xc W fa)) (hb : PSs X b (rdS X.K xc W fb)) :
    PS X (.If c a b po) (rdS X.K xc W fun l M => (fc l M).to l fun k M1 => if k = true then fa l M1 else fb l M1) := by
  refine PS.imp (ps_if hc ha hb) ?_
  rintro Ds σ H ⟨ρ, l, M, S, h⟩
  obtain ⟨ρ0, l0, M0, S0, h0⟩ := runS (Rel := RelB) S h
  refine ⟨ρ0, l0, M0, S0, h0.imp ?_⟩
  rintro x H1 ⟨ρ1, M1, d, S1, r1, k1, h1⟩
  have r1 : d = x := r1
  subst r1
  cases d with
  | true => exact ⟨ρ1, l, M1, S1, h1⟩
  | false => exact ⟨ρ1, l, M1, S1, h1⟩
theorem ms_asg {tg e : Expr} {po : Pos} {t : T} {f : Lo → Mem → R D} (he : PE X e (rdE X.K xc W f)) (hg : PG X tg (rdG X.K (setT t) t.slots)) (hs : swapsWithSole [tg] e po.line X.env = pure false) (hw : swappedStores [tg] e X.env = pure none) (h1 : (assignEach [tg] X.env).map (·.2) = [assign tg X.env]) :
    PS X (.Assign [tg] e po) (rdS X.K xc W fun l M => (f l M).to l fun d M1 => match setT t d l with
    | some l' => .next l' M1
    | none => .stuck) := by
  refine PS.imp (ps_asg he hg hs hw h1) ?_
  rintro Ds σ H ⟨ρ, l, M, S, h⟩
  obtain ⟨ρ0, l0, M0, S0, h0⟩ := runS (Rel := RelD X.K) S h
  refine ⟨ρ0, l0, M0, S0, h0.imp ?_⟩
  rintro x H1 ⟨ρ1, M1, d, S1, r1, k1, h1⟩
  refine ⟨ρ1, l, M1, d, S1, r1, ?_⟩
  cases e1 : setT t d l with
  | none => simp only [e1] at h1; exact h1.elim
  | some l' =>
    simp only [e1] at h1
    exact fun σ' S' _ => h1 σ' ρ1 H1 S' (Le.refl _ _)
/-- a name gets a value, whatever the rule -/
theorem ms_name {st : Stmt} {i : Nat} {f : Lo → Mem → R D} (h : PS X st (tAsg (rdE X.K xc W f) (gName i))) : PS X st (rdS X.K xc W fun l M => (f l M).to l fun d M1 => if i < l.length then .next (l.set i (some d)) M1 else .stuck) := by
  refine PS.imp h ?_
  rintro Ds σ H ⟨ρ, l, M, S, h⟩
  obtain ⟨ρ0, l0, M0, S0, h0⟩ := runS (Rel := RelD X.K) S h
  refine ⟨ρ0, l0, M0, S0, h0.imp ?_⟩
  rintro x H1 ⟨ρ1, M1, d, S1, r1, k1, h1⟩
  split at h1
  · exact h1 _ ρ1 H1 (S1.set r1 i) (Le.refl _ _)
  · exact h1.elim
end
end Mini

/-! Mini, part s: loops, pairs, stores, raises. -/
namespace Mini
open PySem PySem.Spec PyProof.Rows L2

section
variable {X : Cx} {xc : Nat → Addr} {W : WX}
theorem ms_for {tg iter : Expr} {body : List Stmt} {po : Pos} {t : T} {fi : Lo → Mem → R (List D × Wk)} {fb : Lo → Mem → RS} (hp : PassesOwn (model X.prog X.w) X.A X.env X.xe) (hc : X.calm = true) (hi : PI X tg iter (rdI X.K xc W fi)) (hg : PG X tg (rdG X.K (setT t) t.slots)) (hb : PSs X body (rdS X.K xc W fb)) (hs : ∀ x, foldedSetIterable iter X.env x = pure x) :
    PS X (.For tg iter body [] po) (rdS X.K xc W fun l M => (fi l M).to l fun r M1 => forL r.2 t fb r.1 l M1) := by
  refine PS.imp (ps_for hp hc hi hg hb hs) ?_
  rintro Ds σ H ⟨ρ, l, M, S, h⟩
  refine ⟨ρ, l, M, S, ?_⟩
  cases e : fi l M with
  | stuck => simp only [e] at h; exact h.elim
  | exc cc m =>
    simp only [e] at h
    exact fun ρ' H' x k => h σ ρ' H' (S.le x k) k
  | ok r M1 =>
    obtain ⟨xs, w⟩ := r
    simp only [e] at h
    have h : postS X.K xc W ρ M H Ds (forL w t fb xs l M1) := h
    intro J ρ1 H1 m1 le1 wk
    have h := h.le le1
    let Iv : Nat → L2.St → Hp → Prop := fun i σ' H' => i ≤ xs.length ∧ ∃ (ρ' : Rho) (l' : Lo) (M' : Mem), Sim X.K ρ' l' M' σ' H' ∧ Le (hd ρ1 M1 H1) (hd ρ' M' H') ρ1 ρ' ∧ postS X.K xc W ρ1 M1 H1 Ds (forL w t fb (xs.drop i) l' M')
    refine ⟨fun i m σ' H' => m = xs.length - i ∧ Iv i σ' H', ⟨_, rfl, Nat.zero_le _, ρ1, l, M1, S.le m1 le1, Le.refl _ _, by simpa using h⟩, ?_⟩
    rintro i m σ' H' ⟨rfl, hi, ρ', l', M', S', le', hp⟩
    rcases Nat.lt_or_ge i xs.length with hlt | hge
    · have hd1 : xs.drop i = xs[i] :: xs.drop (i + 1) := by rw [List.drop_eq_getElem_cons hlt]
      rw [hd1] at hp
      simp only [forL] at hp
      by_cases st : stays w M' = true
      · rw [if_pos st] at hp
        obtain ⟨go, yl⟩ := wk.go i _ M' H' xs[i] S'.mem le'.w st (List.getElem?_eq_getElem hlt)
        refine .inr ⟨go, Iv (i + 1), fun σ2 H2 q => ⟨_, by omega, rfl, q⟩, fun x H2 y => ?_⟩
        obtain ⟨mm2, le2, rx⟩ := yl x H2 y
        refine ⟨ρ', l', M', xs[i], S'.le mm2 le2, rx, ?_⟩
        cases e2 : setT t xs[i] l' with
        | none => simp only [e2] at hp; exact hp.elim
        | some l2 =>
          simp only [e2] at hp
          intro σ2 S2 _
          refine ⟨ρ', l2, M', S2, ?_⟩
          have leA : Le (hd ρ1 M1 H1) (hd ρ' M' H2) ρ1 ρ' := le'.trans le2
          cases e3 : fb l2 M' with
          | next l3 M3 =>
            rw [e3] at hp
            exact fun σ3 ρ3 H3 S3 le3 => ⟨hlt, ρ3, l3, M3, S3, leA.trans le3, hp⟩
          | cnt l3 M3 =>
            rw [e3] at hp
            exact fun σ3 ρ3 H3 S3 le3 => ⟨hlt, ρ3, l3, M3, S3, leA.trans le3, hp⟩
          | brk l3 M3 =>
            rw [e3] at hp
            exact fun σ3 ρ3 H3 S3 le3 => hp σ3 ρ3 H3 S3 (leA.trans le3)
          | ret d M3 =>
            rw [e3] at hp
            exact fun v ρ3 H3 m3 le3 r => hp v ρ3 H3 m3 (leA.trans le3) r
          | exc c l3 M3 =>
            rw [e3] at hp
            exact fun σ3 ρ3 H3 S3 le3 => hp σ3 ρ3 H3 S3 (leA.trans le3)
          | stuck => rw [e3] at hp; exact hp.elim
      · rw [if_neg st] at hp; exact hp.elim
    · have hnil : xs.drop i = [] := List.drop_eq_nil_of_le hge
      rw [hnil] at hp
      simp only [forL] at hp
      by_cases st : stays w M' = true
      · rw [if_pos st] at hp
        exact .inl ⟨wk.stop i _ M' H' S'.mem le'.w st hge, hp σ' ρ' H' S' le'⟩
      · rw [if_neg st] at hp; exact hp.elim
theorem ms_whl {c : Expr} {body : List Stmt} {po : Pos} {n : Nat} {fc : Lo → Mem → R Bool} {fb : Lo → Mem → RS} (hp : PassesOwn (model X.prog X.w) X.A X.env X.xe) (hc : PT X c (rdT X.K xc W fc)) (hb : PSs X body (rdS X.K xc W fb)) :
    PS X (.While c body [] po) (rdS X.K xc W (whileL fc fb n)) := by
  refine PS.imp (ps_while hp hc hb) ?_
  rintro Ds σ H ⟨ρ, l, M, S, h⟩
  let Iv : Nat → L2.St → Hp → Prop := fun m σ' H' => ∃ (ρ' : Rho) (l' : Lo) (M' : Mem), Sim X.K ρ' l' M' σ' H' ∧ postS X.K xc W ρ' M' H' Ds (whileL fc fb m l' M')
  refine ⟨Iv, ⟨n, ρ, l, M, S, h⟩, ?_⟩
  rintro m σ' H' ⟨ρ', l', M', S', hp⟩
  cases m with
  | zero => exact hp.elim
  | succ m =>
    simp only [whileL] at hp
    obtain ⟨ρ0, l0, M0, S0, h0⟩ := runS (Rel := RelB) S' hp
    refine ⟨ρ0, l0, M0, S0, h0.imp ?_⟩
    rintro b H1 ⟨ρ1, M1, d, S1, r1, k1, h1⟩
    have r1 : d = b := r1
    subst r1
    cases d with
    | false => exact h1 σ' ρ1 H1 S1 (Le.refl _ _)
    | true =>
      refine ⟨Iv m, fun σ2 H2 h2 => ⟨m, Nat.lt_succ_self _, h2⟩, ρ1, l', M1, S1, ?_⟩
      rw [if_pos rfl] at h1
      cases e3 : fb l' M1 with
      | next l3 M3 =>
        rw [e3] at h1
        exact fun σ3 ρ3 H3 S3 le3 => ⟨ρ3, l3, M3, S3, h1.le le3⟩
      | cnt l3 M3 =>
        rw [e3] at h1
        exact fun σ3 ρ3 H3 S3 le3 => ⟨ρ3, l3, M3, S3, h1.le le3⟩
      | brk l3 M3 => rw [e3] at h1; exact h1
      | ret d M3 => rw [e3] at h1; exact h1
      | exc c l3 M3 => rw [e3] at h1; exact h1
      | stuck => rw [e3] at h1; exact h1.elim
end
end Mini

/-! Mini, part Li: xs[:] = ys of another list. -/
namespace Mini
open PySem PySem.Spec PyProof.Rows L2
section
variable {prog : Program} {w : World} {A : Around} {E : Value → Shared → Prop} {s : Shared}
set_option maxHeartbeats 1000000 in
theorem put_whole {l b sl : Addr} {old new : Array Value} {n n2 : Nat} {Q : Unit → Shared → Prop}
    (e : s.heap.get? l = some { cls := .type "list", data := .seq old n }) (e2 : s.heap.get? b = some { cls := .type "list", data := .seq new n2 }) (hne : l ≠ b) (hs : s.heap.IsSliceOf sl .none .none .none) (hsz : old.size + new.size ≤ sizeLine)
    (h : Q () { s with heap := s.heap.update l (Obj.mapSeq fun xs => xs.extract 0 0 ++ new ++ xs.extract old.size xs.size) }) : wpAny (model prog w) A (setItem (.ref l) (.ref sl) (.ref b)) Q E s := by
  have tl := (PySem.IsL.isList e).typeIs
  have tb := (PySem.IsL.isList e2).typeIs
  obtain ⟨os, ho, hc, hd⟩ := id hs
  have ts : s.TypeIs (.ref sl) "slice" := ⟨os, ho, hc⟩
  have hm : (max (0 : Int) (old.size : Int)).toNat = old.size := by omega
  have hz' : ((fun xs : Array Value => xs.extract 0 0 ++ new ++ xs.extract old.size xs.size) old).size ≤ sizeLine + 1 := by
    simp only [Array.size_append, Array.size_extract]; omega
  have bs : sliceIndices (rawPart none) (rawPart none) (rawPart none) old.size = (pure (0, (old.size : Int), 1) : Sem (Int × Int × Int)) := (sliceIndices_raw none none none old.size (by simp)).trans (congrArg pure (by simp [sliceBounds]))
  have same : Builtin.List.listSameRef (.ref l) (.ref b) = false := by unfold Builtin.List.listSameRef; exact beq_eq_false_iff_ne.mpr hne
  unfold setItem
  refine wpAny_holding (wpAny_bind (wpAny_sequenceKey tl (by decide) (wpAny_bind (wpAny_callSpecial?_slot (name := Str.ofString "__setitem__") tl slot_list_setitem (wpAny_call_entry slot_list_setitem tl entry_list_setitem ?_ (args_list_setitem _ _ _))))))
  show wpAny _ _ (Builtin.List.listSubscript? (.ref sl) >>= _) _ _ s
  have noIx : wpAny (model prog w) A.in1 (Builtin.List.listSubscript? (.ref sl)) (fun r s' => r = none ∧ s' = s) (fun _ _ => False) s := by
    unfold Builtin.List.listSubscript?
    refine wpAny_bind (wpAny_specialOf ts slice_no_index ?_)
    simp only [Option.isNone_none, if_true]
    exact wpAny_pure ⟨rfl, rfl⟩
  refine wpAny_bind (wpAny_mono noIx (fun r s' hr => ?_) fun _ _ z => z.elim)
  obtain ⟨rfl, rfl⟩ := hr
  show wpAny _ _ (typeOf (.ref sl) >>= _) _ _ s'
  refine wpAny_bind (wpAny_typeOf ts ?_)
  first | rw [if_neg (by decide)] | refine PySem.W.KFB.if_not (by decide) ?_
  rw [listSliceParts_eq]
  have parts : ∀ {Q' : Value × Value × Value → Shared → Prop} {E' : Value → Shared → Prop}, Q' (rawPart none, rawPart none, rawPart none) s' → wpAny (model prog w) A.in1 (do
      let x ← field (Value.ref sl) 2
      let st ← listPart x
      if (st == rawInt 0) = true then do
        rule "list.slice.step-zero"
        let _ ← (raiseErrorWords "ValueError" "slice step cannot be zero" : Sem Unit)
      let y ← field (Value.ref sl) 0
      let lo ← listPart y
      let z ← field (Value.ref sl) 1
      let hi ← listPart z
      pure (lo, hi, st)) Q' E' s' := fun {Q' E'} hq => by
    refine wpAny_bind (wpAny_field ho hd (x := .none) rfl (wpAny_bind (wpAny_listPart .none ?_)))
    rw [if_neg (show ¬ ((rawPart none == rawInt 0) = true) from Bool.false_ne_true)]
    exact wpAny_bind (wpAny_field ho hd (x := .none) rfl (wpAny_bind (wpAny_listPart .none (wpAny_bind (wpAny_field ho hd (x := .none) rfl (wpAny_bind (wpAny_listPart .none (wpAny_pure hq))))))))
  refine wpAny_bind (parts ?_)
  dsimp only
  rw [if_neg (by rw [same]; exact Bool.false_ne_true)]
  have items : ∀ {Q' : Array Value → Shared → Prop} {E' : Value → Shared → Prop}, Q' new s' → wpAny (model prog w) A.in1 (Builtin.List.listAllItems (.ref b) "must assign iterable to extended slice") Q' E' s' := fun {Q' E'} hq => by
    unfold Builtin.List.listAllItems
    refine wpAny_bind (wpAny_typeOf tb ?_)
    first | refine PySem.W.KFB.if_so (by decide) ?_ | rw [if_pos (by decide)]
    unfold Builtin.List.listItems
    exact wpAny_bind (wpAny_seqItems e2 rfl (wpAny_pure hq))
  refine wpAny_bind (items ?_)
  have olds : ∀ {Q' : Array Value → Shared → Prop} {E' : Value → Shared → Prop}, Q' old s' → wpAny (model prog w) A.in1 (Builtin.List.listItems (.ref l)) Q' E' s' := fun {Q' E'} hq => by
    unfold Builtin.List.listItems
    exact wpAny_bind (wpAny_seqItems e rfl (wpAny_pure hq))
  refine wpAny_bind (olds (wpAny_bind (wpAny_of_eq bs ?_)))
  dsimp only
  rw [if_pos (by decide)]
  refine wpAny_bind (wpAny_rule ?_)
  first | refine PySem.W.KFB.if_not (notLongL hsz) ?_ | rw [if_neg (by rw [notLongL hsz]; exact Bool.false_ne_true)]
  first | refine wpAny_bind (wpAny_pure ?_) | skip
  show wpAny _ _ (updateSeq l (fun xs => xs.extract 0 (0 : Int).toNat ++ new ++ xs.extract (max (0 : Int) (old.size : Int)).toNat xs.size) >>= _) _ _ s'
  rw [hm, show (0 : Int).toNat = 0 from rfl]
  refine wpAny_bind (wpAny_updateSeq (hz := Nat.le_trans (Nat.le_add_right _ _) hsz) (_hz' := hz') e rfl (wpAny_bind (wpAny_letGo ?_)))
  first
    | exact wpAny_bind (wpAny_pure (wpAny_pure ⟨.none, rfl, wpAny_pure h⟩))
    | exact wpAny_pure ⟨.none, rfl, wpAny_pure h⟩
end
section
variable {X : Cx}
/-- xs[:] = ys: the new items -/
theorem set_whole {pins : List (Addr × Obj)} {s : Shared} {σ : L2.St} {H : Hp} {l b sl : Addr} {xs ys : List V} {Q : Unit → Shared → Prop} (I : Inv X pins σ H s) (hH : H l = some (.lst xs)) (hB : H b = some (.lst ys)) (hne : l ≠ b) (hs : s.heap.IsSliceOf sl .none .none .none)
    (hz : xs.length + ys.length ≤ sizeLine) (h : ∀ s', Inv X pins σ (upd H l (.lst ys)) s' → Q () s') : wpAny (model X.prog X.w) X.A (setItem (.ref l) (.ref sl) (.ref b)) Q X.xe s := by
  obtain ⟨_, its, n, r, hl, e⟩ := I.lstM hH
  obtain ⟨_, its2, n2, r2, hl2, e2⟩ := I.lstM hB
  refine put_whole e e2 hne hs (by rw [List.size_toArray, List.size_toArray]; omega) (h _ ?_)
  refine I.lset (its' := its2) (t' := s.toks) hH e ?_ r2 (by omega)
  simp
/-- o[:] = v -/
theorem pg_whole {o : Expr} {to : TE} {p2 pt : Pos} (ho : PE X o to) : PG X (.Subscript o (.Slice none none none p2) pt) (fun v σ H Q => to σ H fun x H1 => ∃ l b xs ys, x = .ref l ∧ v = .ref b ∧ H1 l = some (.lst xs) ∧ H1 b = some (.lst ys) ∧ l ≠ b ∧ xs.length + ys.length ≤ sizeLine ∧ Q σ (upd H1 l (.lst ys))) := by
  refine ⟨fun pins s σ H v u Q I r h => ?_⟩
  show wpAny _ _ (do
    let ov ← holding [u] (eval o X.env)
    let iv ← holding [u, ov] (eval (.Slice none none none p2) X.env)
    standAt pt
    holding [u, ov, iv] (setItem ov iv u)
    release [iv, u, ov] []) _ _ _
  refine wpAny_bind (wpAny_holding (thn (ho.run pins s σ H _ I h) fun ov s1 ⟨x, H1, I1, r1, q⟩ => ?_))
  obtain ⟨l, b, xs, ys, rfl, rfl, h1, h2, hne, hz, q⟩ := q
  cases r
  cases r1
  refine wpAny_bind (wpAny_holding (wpAny_Slice (wpAny_pure (wpAny_pure (wpAny_pure ?_)))))
  have I2 : Inv X pins σ H1 { s1 with heap := s1.heap.push { cls := .type "slice", data := .fields #[.none, .none, .none] } } := I1.kept (t' := s1.toks) fun b ob q => Heap.get?_push_of_some _ q
  refine wpAny_bind (wpAny_standAt (wpAny_bind (wpAny_holding (set_whole I2 h1 h2 hne (Heap.IsSliceOf.new ..) hz fun s3 I3 => ?_))))
  exact wpAny_release ⟨σ, _, I3, q⟩
end
section
variable {X : Cx} {xc : Nat → Addr} {W : WX}
theorem celL_inv {K : PySem.W.Frag} {ρ : Rho} {M : Mem} {H : Hp} {d : D} {v : V} {m : Nat} {xs : List D} (mm : MemOk K ρ M H) (r : RelD K (hd ρ M H) ρ d v) (e : celL d M = some (m, xs)) : ∃ a vs, M[m]? = some (.lst xs) ∧ ρ.c[m]? = some a ∧ v = .ref a ∧ H a = some (.lst vs) ∧ RelDs K (hd ρ M H) ρ xs vs := by
  unfold celL at e
  split at e
  · rename_i k
    split at e
    · rename_i ys e1
      cases e
      obtain ⟨a, vs, h1, h2, h3⟩ := mm.at e1
      unfold RelD at r
      obtain ⟨a', h4, h5⟩ := r
      rw [h1] at h4
      cases h4
      exact ⟨a, vs, e1, h1, h5, h2, h3⟩
    · cases e
  · cases e
theorem ms_setl {o e : Expr} {p2 pt po : Pos} {fo fe : Lo → Mem → R D} (ho : PE X o (rdE X.K xc W fo)) (he : PE X e (rdE X.K xc W fe)) (hs : swapsWithSole [.Subscript o (.Slice none none none p2) pt] e po.line X.env = pure false) :
    PS X (.Assign [.Subscript o (.Slice none none none p2) pt] e po) (rdS X.K xc W fun l M => (fe l M).to l fun v M1 => (fo l M1).to l fun x M2 => match setAll x v M2 with
      | some M3 => .next l M3
      | none => .stuck) := by
  refine PS.imp (ps_asg he (pg_whole ho) hs) ?_
  rintro Ds σ H ⟨ρ, l, M, S, h⟩
  obtain ⟨ρ0, l0, M0, S0, h0⟩ := runS (Rel := RelD X.K) S h
  refine ⟨ρ0, l0, M0, S0, h0.imp ?_⟩
  rintro u H1 ⟨ρ1, M1, d, S1, r1, k1, h1⟩
  obtain ⟨ρ2, l2, M2, S2, h2⟩ := runS (Rel := RelD X.K) S1 h1
  refine ⟨ρ2, l2, M2, S2, h2.imp ?_⟩
  rintro u2 H2 ⟨ρ3, M3, d3, S3, r3, k3, h3⟩
  unfold setAll at h3
  cases e1 : celL d3 M3 with
  | none => simp only [e1] at h3; exact h3.elim
  | some z =>
    obtain ⟨m, xs⟩ := z
    cases e2 : celL d M3 with
    | none => simp only [e1, e2] at h3; exact h3.elim
    | some z2 =>
      obtain ⟨n, ys⟩ := z2
      simp only [e1, e2] at h3
      split at h3
      · rename_i M4 e3
        split at e3
        · rename_i hc
          cases e3
          obtain ⟨a, vs, c1, c2, rfl, c3, c4⟩ := celL_inv S3.mem r3 e1
          obtain ⟨b, ws, b1, b2, rfl, b3, b4⟩ := celL_inv S3.mem (r1.mono k3) e2
          have hab : a ≠ b := fun z => by
            subst z
            exact hc.1 (S3.mem.inj m n a c2 b2 ⟨_, c1, by intro z; cases z⟩ ⟨_, b1, by intro z; cases z⟩)
          refine ⟨a, b, vs, ws, rfl, rfl, c3, b3, hab, by rw [← c4.length, ← b4.length]; exact hc.2, ?_⟩
          obtain ⟨m', le⟩ := S3.mem.setLst (xs := ys) c1 c2 b4
          exact h3 σ ρ3 _ (S3.le m' le) le
        · cases e3
      · exact h3.elim
theorem get_D (hu : X.A.units + 150 < cLine) : PGet X (rop2 X.K ixG) := by
  intro pins s σ H x y v u Q I rx ry hq
  obtain ⟨ρ, M, d, e, m, r1, r2, q⟩ := hq
  unfold ixG at q
  split at q
  · rename_i hc
    unfold ixD at q
    cases hcd : celD d M with
    | none =>
      rw [hcd] at q
      simp only [hcd, Option.isSome_none, Bool.or_false] at hc
      obtain ⟨⟨k, xs⟩, ec⟩ := Option.isSome_iff_exists.mp hc
      obtain ⟨a, vs, c1, c2, rfl, c3, c4⟩ := celL_inv m r1 ec
      unfold ixS at q
      cases e with
      | ref _ => exact q.elim
      | tr _ => exact q.elim
      | p y2 =>
        cases y2 with
        | int i =>
          cases relP r2
          have ed : seqD M d = some xs := by
            unfold celL at ec
            split at ec
            · split at ec
              · rename_i e9
                cases ec
                simp only [seqD, e9]
              · cases ec
            · cases ec
          cases d with
          | tr _ => simp [celL] at ec
          | p _ => simp [celL] at ec
          | ref j =>
            simp only [ed] at q
            cases ea : atI xs i with
            | none => simp only [ea] at q; exact q.elim
            | some d' =>
              simp only [ea] at q
              cases rx
              obtain ⟨t, rfl⟩ := ry
              have sq : SqL X.K H a vs := SqL.of c3
              obtain ⟨its, r, pl, hz⟩ := I.list sq
              obtain ⟨jj, h1, h2, h3, h4, h5⟩ := atI_get ea
              obtain ⟨w0, ew0, rw0⟩ := c4.get h2
              obtain ⟨w, ew, rww⟩ := r.get ew0
              have hl := r.length
              have hl2 := c4.length
              have hn := line63
              have fin : EP X pins σ Q w s := ⟨w0, H, I, rww, q w0 ρ H m (Le.refl _ _) rw0⟩
              by_cases h0 : 0 ≤ i
              · have hj : i.toNat = jj := by
                  rw [seqIndex_of h0 h5] at h1
                  exact Option.some.inj h1
                exact wpAny_getItem_list (Q := EP X pins σ Q) pl.isList h0 (by omega) (by rw [hj]; simpa using ew) fin
              · have hj : (i + (its.toArray.size : Int)).toNat = jj := by
                  rw [seqIndex_neg (by omega) h4] at h1
                  rw [List.size_toArray, ← hl, ← hl2]
                  exact Option.some.inj h1
                exact wpAny_getItem_list_neg (Q := EP X pins σ Q) pl.isList (by omega) (by rw [List.size_toArray] <;> omega) (by omega) (by rw [hj]; simpa using ew) fin
        | _ => exact q.elim
    | some z =>
      rw [hcd] at q
      simp only at q
      obtain ⟨a, vs, _, _, rfl, hH, rr⟩ := celD_inv m r1 hcd
      cases hk : keyD e with
      | none => rw [hk] at q; exact q.elim
      | some k =>
        rw [hk] at q
        cases hg : getKD z.2 k with
        | none => simp only [Option.bind_some, hg] at q; exact q.elim
        | some g =>
          simp only [Option.bind_some, hg] at q
          have ey := keyD_rel r2 hk
          subst ey
          obtain ⟨w, h1, h2⟩ := getKD_rel rr hg
          cases rx
          have g' : DGet H a (kV k) (some w) := .inl ⟨_, k, .inl hH, rfl, h1.symm⟩
          exact d_getItem (by omega) I g' ry fun w' s' I' rw' => ⟨w, H, I', rw', q w ρ H m (Le.refl _ _) h2⟩
  · exact q.elim
end
end Mini

/-! Mini, part t: pairs, stores, x op= y, raises. -/
namespace Mini
open PySem PySem.Spec PyProof.Rows L2

/-! ### pairs -/
def isStar : Expr → Bool
  | .Starred .. => true
  | _ => false
theorem noStar {l : List Expr} (h : ∀ a ∈ l, isStar a = false) (f : Expr → Bool) (e : f = isStar) : l.any f = false := by
  subst e
  exact Bool.eq_false_iff.mpr fun z => by
    obtain ⟨a, m, k⟩ := List.any_eq_true.mp z
    rw [h a m] at k
    cases k
theorem sw2 {x y : Str} {p1 p2 pt : Pos} {kt k2} {a b : Expr} {po : Pos} {env : Env} (hk : env.blockKind = .function) (hf : [a, b].all (foldedForSure 8) = false) (ha : [a, b].all (constantsAlone 8) = false)
    (hx : env.scope.names.lookup x = some .local) (hy : env.scope.names.lookup y = some .local) (hl : p2.line = p1.line) (hxy : x ≠ y) (s : ∀ e ∈ [a, b], isStar e = false) :
    swappedStores [.Tuple [.Name x p1, .Name y p2] kt pt] (.Tuple [a, b] k2 po) env = pure (some [x, y]) := by
  have h1 : (env.kindOf x == some NameKind.local) = true := by unfold Env.kindOf; rw [hx]; rfl
  have h2 : (env.kindOf y == some NameKind.local) = true := by unfold Env.kindOf; rw [hy]; rfl
  have e1 : (p1.line == p1.line) = true := by simp
  have e2 : (p2.line == p1.line) = true := by rw [hl]; simp
  have dd : [x, y].eraseDups = [x, y] := by
    simp [List.eraseDups_cons, Ne.symm hxy]
  unfold swappedStores
  simp only [List.length_cons, List.length_nil, hk, List.head?_cons, Option.map_some, Option.getD_some, Expr.pos, List.filterMap_cons, List.filterMap_nil, h1, h2, e1, e2, Bool.and_self, if_true, dd, hf, ha]
  refine (if_neg (by decide)).trans ((if_neg fun h => ?_).trans rfl)
  exact Bool.noConfusion ((noStar s _ (by funext x; cases x <;> rfl)).symm.trans h)
theorem sw3 {x y z : Str} {p1 p2 p3 pt : Pos} {kt k2} {a b c : Expr} {po : Pos} {env : Env} (hk : env.blockKind = .function) (hf : [a, b, c].all (foldedForSure 8) = false) (ha : [a, b, c].all (constantsAlone 8) = false)
    (hx : env.scope.names.lookup x = some .local) (hy : env.scope.names.lookup y = some .local) (hz : env.scope.names.lookup z = some .local) (hl : p2.line = p1.line) (hl3 : p3.line = p1.line) (hxy : x ≠ y) (hxz : x ≠ z) (hyz : y ≠ z) (s : ∀ e ∈ [a, b, c], isStar e = false) :
    swappedStores [.Tuple [.Name x p1, .Name y p2, .Name z p3] kt pt] (.Tuple [a, b, c] k2 po) env = pure (some [x, y, z]) := by
  have h1 : (env.kindOf x == some NameKind.local) = true := by unfold Env.kindOf; rw [hx]; rfl
  have h2 : (env.kindOf y == some NameKind.local) = true := by unfold Env.kindOf; rw [hy]; rfl
  have h3 : (env.kindOf z == some NameKind.local) = true := by unfold Env.kindOf; rw [hz]; rfl
  have e1 : (p1.line == p1.line) = true := by simp
  have e2 : (p2.line == p1.line) = true := by rw [hl]; simp
  have e3 : (p3.line == p1.line) = true := by rw [hl3]; simp
  have dd : [x, y, z].eraseDups = [x, y, z] := by
    simp [List.eraseDups_cons, Ne.symm hxy, Ne.symm hxz, Ne.symm hyz]
  unfold swappedStores
  simp only [List.length_cons, List.length_nil, hk, List.head?_cons, Option.map_some, Option.getD_some, Expr.pos, List.filterMap_cons, List.filterMap_nil, h1, h2, h3, e1, e2, e3, Bool.and_self, if_true, dd, hf, ha]
  refine (if_neg (by decide)).trans ((if_neg fun h => ?_).trans rfl)
  exact Bool.noConfusion ((noStar s _ (by funext x; cases x <;> rfl)).symm.trans h)
section
variable {X : Cx} {xc : Nat → Addr} {W : WX}
theorem ms_par {i j : Nat} {x y : Str} {a b : Expr} {px py pt po : Pos} {kt k2 p2} {fa fb : Lo → Mem → R D} (hc : X.calm = true) (hN : X.N.Nodup) (hi : X.N[i]? = some x) (hj : X.N[j]? = some y) (hij : i ≠ j)
    (hx : X.env.scope.names.lookup x = some .local) (hy : X.env.scope.names.lookup y = some .local) (ha : PE X a (rdE X.K xc W fa)) (hb : PE X b (rdE X.K xc W fb))
    (sa : starEach [a, b] X.env = (false, eval a X.env) :: starEach [b] X.env) (sb : starEach [b] X.env = (false, eval b X.env) :: starEach [] X.env)
    (hw : swappedStores [.Tuple [.Name x px, .Name y py] kt pt] (.Tuple [a, b] k2 p2) X.env = pure (some [x, y])) (hs : swapsWithSole [.Tuple [.Name x px, .Name y py] kt pt] (.Tuple [a, b] k2 p2) po.line X.env = pure false) :
    PS X (.Assign [.Tuple [.Name x px, .Name y py] kt pt] (.Tuple [a, b] k2 p2) po) (rdS X.K xc W fun l M => (fa l M).to l fun u M1 => (fb l M1).to l fun v M2 => if i < l.length ∧ j < l.length then .next ((l.set i (some u)).set j (some v)) M2 else .stuck) := by
  refine PS.imp (ps_par hc hN hi hj hij hx hy (pa_cons ha (pa_cons hb pa_nil sb) sa) hw hs) ?_
  rintro Ds σ H ⟨ρ, l, M, S, h⟩
  obtain ⟨ρ0, l0, M0, S0, h0⟩ := runS (Rel := RelD X.K) S h
  refine ⟨ρ0, l0, M0, S0, h0.imp ?_⟩
  rintro u H1 ⟨ρ1, M1, d, S1, r1, k1, h1⟩
  obtain ⟨ρ2, l2, M2, S2, h2⟩ := runS (Rel := RelD X.K) S1 h1
  refine ⟨ρ2, l2, M2, S2, h2.imp ?_⟩
  rintro v H2 ⟨ρ3, M3, d3, S3, r3, k3, h3⟩
  refine ⟨u, v, rfl, ?_⟩
  split at h3
  · exact h3 _ ρ3 H2 ((S3.set (r1.mono k3) i).set r3 j) (Le.refl _ _)
  · exact h3.elim
theorem ms_par3 {i j k : Nat} {x y z : Str} {a b c : Expr} {px py pz pt po : Pos} {kt k2 p2} {fa fb fc : Lo → Mem → R D} (hc : X.calm = true) (hN : X.N.Nodup) (hi : X.N[i]? = some x) (hj : X.N[j]? = some y) (hk : X.N[k]? = some z) (hij : i ≠ j) (hik : i ≠ k) (hjk : j ≠ k)
    (hx : X.env.scope.names.lookup x = some .local) (hy : X.env.scope.names.lookup y = some .local) (hz : X.env.scope.names.lookup z = some .local) (ha : PE X a (rdE X.K xc W fa)) (hb : PE X b (rdE X.K xc W fb)) (hcc : PE X c (rdE X.K xc W fc))
    (sa : starEach [a, b, c] X.env = (false, eval a X.env) :: starEach [b, c] X.env) (sb : starEach [b, c] X.env = (false, eval b X.env) :: starEach [c] X.env) (sc : starEach [c] X.env = (false, eval c X.env) :: starEach [] X.env)
    (hw : swappedStores [.Tuple [.Name x px, .Name y py, .Name z pz] kt pt] (.Tuple [a, b, c] k2 p2) X.env = pure (some [x, y, z])) (hs : swapsWithSole [.Tuple [.Name x px, .Name y py, .Name z pz] kt pt] (.Tuple [a, b, c] k2 p2) po.line X.env = pure false) :
    PS X (.Assign [.Tuple [.Name x px, .Name y py, .Name z pz] kt pt] (.Tuple [a, b, c] k2 p2) po) (rdS X.K xc W fun l M => (fa l M).to l fun u M1 => (fb l M1).to l fun v M2 => (fc l M2).to l fun w M3 => if i < l.length ∧ j < l.length ∧ k < l.length then .next (((l.set i (some u)).set j (some v)).set k (some w)) M3 else .stuck) := by
  refine PS.imp (ps_par3 hc hN hi hj hk hij hik hjk hx hy hz (pa_cons ha (pa_cons hb (pa_cons hcc pa_nil sc) sb) sa) hw hs) ?_
  rintro Ds σ H ⟨ρ, l, M, S, h⟩
  obtain ⟨ρ0, l0, M0, S0, h0⟩ := runS (Rel := RelD X.K) S h
  refine ⟨ρ0, l0, M0, S0, h0.imp ?_⟩
  rintro u H1 ⟨ρ1, M1, d, S1, r1, k1, h1⟩
  obtain ⟨ρ2, l2, M2, S2, h2⟩ := runS (Rel := RelD X.K) S1 h1
  refine ⟨ρ2, l2, M2, S2, h2.imp ?_⟩
  rintro v H2 ⟨ρ3, M3, d3, S3, r3, k3, h3⟩
  obtain ⟨ρ4, l4, M4, S4, h4⟩ := runS (Rel := RelD X.K) S3 h3
  refine ⟨ρ4, l4, M4, S4, h4.imp ?_⟩
  rintro w H3 ⟨ρ5, M5, d5, S5, r5, k5, h5⟩
  refine ⟨u, v, w, rfl, ?_⟩
  split at h5
  · exact h5 _ ρ5 H3 (((S5.set ((r1.mono k3).mono k5) i).set (r3.mono k5) j).set r5 k) (Le.refl _ _)
  · exact h5.elim

/-! ### o[i] = v -/
def postO' (K : PySem.W.Frag) (ρ : Rho) (M : Mem) (H : Hp) (Q : Hp → Prop) : Option Mem → Prop
  | some M' => ∀ ρ' H', MemOk K ρ' M' H' → Le (hd ρ M H) (hd ρ' M' H') ρ ρ' → Q H'
  | none => False
def rop3S (K : PySem.W.Frag) : TSet := fun o i v H Q => ∃ ρ M x y z, MemOk K ρ M H ∧ RelD K (hd ρ M H) ρ x o ∧ RelD K (hd ρ M H) ρ y i ∧ RelD K (hd ρ M H) ρ z v ∧ postO' K ρ M H Q (setItS x y z M)
def rop3 (K : PySem.W.Frag) : TSet := fun o i v H Q => ∃ ρ M x y z, MemOk K ρ M H ∧ RelD K (hd ρ M H) ρ x o ∧ RelD K (hd ρ M H) ρ y i ∧ RelD K (hd ρ M H) ρ z v ∧ postO' K ρ M H Q (setIt x y z M)
theorem set_S : PSet X (rop3S X.K) := by
  intro pins s σ H o i v ov iv u Q I ro ri rv hq
  obtain ⟨ρ, M, x, y, z, m, rx, ry, rz, q⟩ := hq
  unfold setItS celL at q
  split at q
  · rename_i k
    cases relP ry
    cases x with
    | p _ => exact q.elim
    | tr _ => exact q.elim
    | ref n =>
      simp only at q
      cases e : M[n]? with
      | none => rw [e] at q; exact q.elim
      | some c =>
        rw [e] at q
        cases c with
        | dead => exact q.elim
        | dct _ => exact q.elim
        | lst xs =>
          obtain ⟨a, vs, h1, h2, h3⟩ := m.at e
          unfold RelD at rx
          obtain ⟨a', h4, h5⟩ := rx
          rw [h1] at h4
          cases h4
          simp only at q
          cases e2 : ixN xs.length k with
          | none => rw [e2] at q; exact q.elim
          | some j =>
            rw [e2] at q
            obtain ⟨m', le⟩ := m.setLst e h1 (h3.set rz j)
            refine set_list pins s σ H _ _ _ ov iv u Q I ro ri rv ⟨a, vs, k, j, h5, rfl, h2, by rw [← h3.length]; exact e2, q ρ _ m' le⟩
  · exact q.elim

theorem set_D (hu : X.A.units + 150 < cLine) : PSet X (rop3 X.K) := by
  intro pins s σ H o i v ov iv u Q I ro ri rv hq
  obtain ⟨ρ, M, x, y, z, m, rx, ry, rz, q⟩ := hq
  unfold setIt at q
  cases hc : celD x M with
  | none => rw [hc] at q; exact set_S pins s σ H o i v ov iv u Q I ro ri rv ⟨ρ, M, x, y, z, m, rx, ry, rz, q⟩
  | some w =>
    rw [hc] at q
    simp only at q
    obtain ⟨a, vs, e, ha, rfl, hH, rr⟩ := celD_inv m rx hc
    cases hk : keyD y with
    | none => rw [hk] at q; exact q.elim
    | some k =>
      rw [hk] at q
      simp only [Option.bind_some] at q
      split at q
      · rename_i hz
        have ei := keyD_rel ry hk
        subst ei
        obtain ⟨ws, e1, e2⟩ := putKD_rel (k := k) rz rr
        obtain ⟨m', le⟩ := m.setDct e ha e2
        cases ro
        have hl := rr.length
        rw [List.length_map] at hl
        refine d_setItem (by omega) I (.inl ⟨_, k, hH, rfl, by rw [List.length_zip, List.length_map, ← hl, Nat.min_self]; exact hz, rfl⟩) ri rv fun s' I' => ⟨_, I', ?_⟩
        rw [e1]
        exact q ρ _ m' le
      · exact q.elim
/-! ### x op= y -/
theorem aug_D (op : Operator) : PIp X op (rop2 X.K (augD op)) := by
  intro pins s σ H x y v u Q I rx ry hq
  obtain ⟨ρ, M, d, e, m, r1, r2, q⟩ := hq
  unfold augD at q
  split at q
  · cases relP r1; cases relP r2
    exact iop_add pins s σ H _ _ v u Q I rx ry ⟨_, _, rfl, rfl, q _ ρ H m (Le.refl _ _) (Pr (.int _))⟩
  · cases relP r1; cases relP r2
    exact iop_sub pins s σ H _ _ v u Q I rx ry ⟨_, _, rfl, rfl, q _ ρ H m (Le.refl _ _) (Pr (.int _))⟩
  · cases relP r1; cases relP r2
    split at q
    · rename_i hl
      obtain ⟨t, rfl⟩ := rx
      obtain ⟨t', rfl⟩ := ry
      refine imul_int ⟨.int _, H, I.tok _, ⟨_, rfl⟩, q _ ρ H m (Le.refl _ _) (Pr (.int _))⟩ (CMulW.ok hl)
    · exact q.elim
  · cases relP r1; cases relP r2
    split at q
    · rename_i hl
      exact iop_fdivW pins s σ H _ _ v u Q I rx ry ⟨_, _, rfl, rfl, hl, q _ ρ H m (Le.refl _ _) (Pr (.int _))⟩
    · exact q.elim
  · cases relP r1; cases relP r2
    split at q
    · rename_i hl
      exact iop_add_str pins s σ H _ _ v u Q I rx ry ⟨_, _, rfl, rfl, hl, q _ ρ H m (Le.refl _ _) (Pr (.str _))⟩
    · exact q.elim
  · obtain ⟨k, xs, a, vs, e, ha, rfl, hH, rr, q⟩ := cel_inv m r1 q
    obtain ⟨k2, ys, b, ws, e2, hb, rfl, hB, rr2, q⟩ := cel_inv m r2 q
    split at q
    · rename_i hz
      rw [rr.length, rr2.length] at hz
      exact iop_ext pins s σ H _ _ v u Q I rx ry ⟨a, b, vs, ws, rfl, rfl, hH, hB, hz, set_out m e ha (rr.append rr2) r1 q⟩
    · exact q.elim
  · exact q.elim
theorem ms_aug {i : Nat} {x : Str} {e : Expr} {op : Operator} {p po : Pos} {fe : Lo → Mem → R D} (hN : X.N.Nodup) (hi : X.N[i]? = some x) (hx : Loc X.env.scope x) (hf : X.fn x = true ∨ X.env.scope.names.lookup x = some .local) (he : PE X e (rdE X.K xc W fe)) :
    PS X (.AugAssign (.Name x p) op e po) (rdS X.K xc W fun l M => (getL l i M).to l fun x _ => (fe l M).to l fun y M1 => (ofO (augD op x y M1)).to l fun z M2 => .next (l.set i (some z)) M2) := by
  refine PS.imp (ps_aug hN hi hx he (aug_D op) hf) ?_
  rintro Ds σ H ⟨ρ, l, M, S, h⟩
  have h : postS X.K xc W ρ M H Ds ((getL l i M).to l fun x _ => (fe l M).to l fun y M1 => (ofO (augD op x y M1)).to l fun z M2 => .next (l.set i (some z)) M2) := h
  unfold getL at h
  cases e1 : l[i]? with
  | none => rw [e1] at h; exact h.elim
  | some o =>
    cases o with
    | none => rw [e1] at h; exact h.elim
    | some d =>
      rw [e1] at h
      obtain ⟨v, h1, h2⟩ := S.loc i d e1
      refine ⟨v, h1, ?_⟩
      have h : postS X.K xc W ρ M H Ds ((fe l M).to l fun y M1 => (ofO (augD op d y M1)).to l fun z M2 => .next (l.set i (some z)) M2) := h
      obtain ⟨ρ0, l0, M0, S0, h0⟩ := runS (Rel := RelD X.K) S h
      refine ⟨ρ0, l0, M0, S0, h0.imp ?_⟩
      rintro u H1 ⟨ρ1, M1, y, S1, r1, k1, h3⟩
      refine ⟨ρ1, M1, d, y, S1.mem, h2.mono k1, r1, ?_⟩
      cases e2 : augD op d y M1 with
      | none => rw [e2] at h3; exact h3.elim
      | some zz =>
        obtain ⟨z, M2⟩ := zz
        rw [e2] at h3
        exact fun w ρ2 H2 m2 le2 r2 => h3 _ ρ2 H2 ((S1.le m2 le2).set r2 i) le2

theorem ms_set {o i e : Expr} {pt po : Pos} {fo fi fe : Lo → Mem → R D} (hu : X.A.units + 150 < cLine) (ho : PE X o (rdE X.K xc W fo)) (hi : PE X i (rdE X.K xc W fi)) (he : PE X e (rdE X.K xc W fe))
    (hs : swapsWithSole [.Subscript o i pt] e po.line X.env = pure false) (ha : ∀ v, assign (.Subscript o i pt) X.env v = (do
      let ov ← holding [v] (eval o X.env)
      let iv ← holding [v, ov] (eval i X.env)
      standAt pt
      holding [v, ov, iv] (setItem ov iv v)
      release [v, ov, iv] [])) :
    PS X (.Assign [.Subscript o i pt] e po) (rdS X.K xc W fun l M => (fe l M).to l fun v M1 => (fo l M1).to l fun x M2 => (fi l M2).to l fun y M3 => match setIt x y v M3 with
      | some M4 => .next l M4
      | none => .stuck) := by
  refine PS.imp (ps_asg he (pg_sub ho hi (set_D hu) ha) hs) ?_
  rintro Ds σ H ⟨ρ, l, M, S, h⟩
  obtain ⟨ρ0, l0, M0, S0, h0⟩ := runS (Rel := RelD X.K) S h
  refine ⟨ρ0, l0, M0, S0, h0.imp ?_⟩
  rintro u H1 ⟨ρ1, M1, d, S1, r1, k1, h1⟩
  obtain ⟨ρ2, l2, M2, S2, h2⟩ := runS (Rel := RelD X.K) S1 h1
  refine ⟨ρ2, l2, M2, S2, h2.imp ?_⟩
  rintro u2 H2 ⟨ρ3, M3, d3, S3, r3, k3, h3⟩
  obtain ⟨ρ4, l4, M4, S4, h4⟩ := runS (Rel := RelD X.K) S3 h3
  refine ⟨ρ4, l4, M4, S4, h4.imp ?_⟩
  rintro u3 H3 ⟨ρ5, M5, d5, S5, r5, k5, h5⟩
  refine ⟨ρ5, M5, d3, d5, d, S5.mem, r3.mono k5, r5, (r1.mono k3).mono k5, ?_⟩
  cases e2 : setIt d3 d5 d M5 with
  | none => rw [e2] at h5; exact h5.elim
  | some M6 =>
    rw [e2] at h5
    exact fun ρ6 H6 m6 le6 => h5 _ ρ6 H6 (S5.le m6 le6) le6

/-! ### o[i] op= e -/
theorem ms_augs {o i e : Expr} {op : Operator} {pt po : Pos} {fo fi fe : Lo → Mem → R D} (hu : X.A.units + 150 < cLine) (ho : PE X o (rdE X.K xc W fo)) (hi : PE X i (rdE X.K xc W fi)) (he : PE X e (rdE X.K xc W fe))
    (ha : ∀ ov iv new, augStore i ov iv new = (do holding [new, ov, iv] (setItem ov iv new); release [new, ov, iv] []; pure .next)) :
    PS X (.AugAssign (.Subscript o i pt) op e po) (rdS X.K xc W fun l M => (fo l M).to l fun x M1 => (fi l M1).to l fun y M2 => (ofO (ixG x y M2)).to l fun v M3 => (fe l M3).to l fun u M4 => (ofO (augD op v u M4)).to l fun z M5 => match setIt x y z M5 with
      | some M6 => .next l M6
      | none => .stuck) := by
  refine PS.imp (ps_augS ho hi (get_D hu) he (aug_D op) (set_D hu) ha) ?_
  rintro Ds σ H ⟨ρ, l, M, S, h⟩
  obtain ⟨ρ0, l0, M0, S0, h0⟩ := runS (Rel := RelD X.K) S h
  refine ⟨ρ0, l0, M0, S0, h0.imp ?_⟩
  rintro u1 H1 ⟨ρ1, M1, x, S1, r1, k1, h1⟩
  obtain ⟨ρ2, l2, M2, S2, h2⟩ := runS (Rel := RelD X.K) S1 h1
  refine ⟨ρ2, l2, M2, S2, h2.imp ?_⟩
  rintro u2 H2 ⟨ρ3, M3, y, S3, r3, k3, h3⟩
  refine ⟨ρ3, M3, x, y, S3.mem, r1.mono k3, r3, ?_⟩
  cases e3 : ixG x y M3 with
  | none => rw [e3] at h3; exact h3.elim
  | some z =>
    obtain ⟨v, M4⟩ := z
    rw [e3] at h3
    intro w ρ4 H4 m4 le4 r4
    have h3 := postS.le h3 le4
    obtain ⟨ρ5, l5, M5, S5, h5⟩ := runS (Rel := RelD X.K) (S3.le m4 le4) h3
    refine ⟨ρ5, l5, M5, S5, h5.imp ?_⟩
    rintro u6 H6 ⟨ρ6, M6, u, S6, r6, k6, h6⟩
    refine ⟨ρ6, M6, v, u, S6.mem, r4.mono k6, r6, ?_⟩
    cases e7 : augD op v u M6 with
    | none => rw [e7] at h6; exact h6.elim
    | some z7 =>
      obtain ⟨z7, M7⟩ := z7
      rw [e7] at h6
      intro w8 ρ8 H8 m8 le8 r8
      have h6 := postS.le h6 le8
      refine ⟨ρ8, M7, x, y, z7, m8, (((r1.mono k3).mono le4).mono k6).mono le8, ((r3.mono le4).mono k6).mono le8, r8, ?_⟩
      have h6 : postS X.K xc W ρ8 M7 H8 Ds (match setIt x y z7 M7 with
        | some M6 => .next l M6
        | none => .stuck) := h6
      cases e9 : setIt x y z7 M7 with
      | none => rw [e9] at h6; exact h6.elim
      | some M9 =>
        rw [e9] at h6
        exact fun ρ9 H9 m9 le9 => h6 σ ρ9 H9 ((S6.le m8 le8).le m9 le9) le9
/-! ### raise C('m') -/
/-- the name x is a class of exceptions, number c -/
def ExcAt (X : Cx) (xc : Nat → Addr) (x : Str) (c : Nat) : Prop := X.mg x = some (.ref (xc c)) ∧ PySem.W.keepIn X.K (.ref (xc c)) = true ∧ Raises X (.ref (xc c)) ∧ ∃ B newId initId bmB, ExcBaseFacts B newId initId bmB ∧ PySem.W.excIn X.K (xc c) bmB newId = true
theorem ms_rse {x m : Str} {c : Nat} {j} {pn pm pc po : Pos} (hc : X.calm = true) (tk : Takes X W) (hx : ExcAt X xc x c) (hg : Gl X x) (hdb : (x == ("__debug__" : Str)) = false) :
    PS X (.Raise (some (.Call (.Name x pn) [.Constant (.str m) j pm] [] pc)) none po) (rdS X.K xc W fun l M => .exc c l M) := by
  obtain ⟨h1, h2, h3, B, newId, initId, bmB, F, q⟩ := hx
  refine PS.imp (ps_raise hc tk (pmk_own F q h1 h2 h3 hg hdb)) ?_
  rintro Ds σ H ⟨ρ, l, M, S, h⟩
  exact h σ ρ H S (Le.refl _ _)
end
end Mini

/-! Mini, part u: every statement holds. -/
namespace Mini
open PySem PySem.Spec PyProof.Rows L2

def E.isTup : E → Bool
  | .tup _ _ _ => true
  | .frz a => a.isTup
  | _ => false
def E.isLc : E → Bool
  | .lc _ _ _ _ _ _ _ _ _ => true
  | .dcp _ _ _ _ _ _ _ _ _ => true
  | .frz a => a.isLc
  | _ => false
def swB (sc : Scope) (x : Str) (pn : Nat) : E → Bool
  | .lc _ _ _ _ _ _ ns _ p => (sc.names.lookup x == some .local) && (pos pn).line == (pos p).line && !(ns.any fun (n, k) => n == x && (k == .local || k == .cell))
  | .dcp _ _ _ _ _ _ ns _ p => (sc.names.lookup x == some .local) && (pos pn).line == (pos p).line && !(ns.any fun (n, k) => n == x && (k == .local || k == .cell))
  | .frz a => swB sc x pn a
  | _ => false
section
variable {N : List Str} {env : Env}
theorem sw_name (hk : env.blockKind = .function) (x : Str) (pn line : Nat) : ∀ e : E, swapsWith (E.ast N e) (some (.Name x (pos pn))) line env = pure (swB env.scope x pn e)
  | .frz a => sw_name hk x pn line a
  | .lc c k its t ifs elt ns own p => by
    show (pure (env.blockKind == .function && env.kindOf x == some .local && (pos pn).line == (pos p).line && !(ns.any fun (n, k) => n == x && (k == .local || k == .cell))) : Sem Bool) = _
    rw [hk]
    rfl
  | .dcp k its t ifs ke ve ns own p => by
    show (pure (env.blockKind == .function && env.kindOf x == some .local && (pos pn).line == (pos p).line && !(ns.any fun (n, k) => n == x && (k == .local || k == .cell))) : Sem Bool) = _
    rw [hk]
    rfl
  | .sls _ _ _ _ _ _ _ => rfl
  | .fmt _ _ => rfl
  | .fst _ _ _ _ => rfl
  | .nop => rfl
  | .non _ => rfl
  | .bl _ _ => rfl
  | .int _ _ => rfl
  | .str _ _ => rfl
  | .var _ _ => rfl
  | .glb _ _ => rfl
  | .tup _ _ _ => rfl
  | .lst _ _ _ => rfl
  | .bin _ _ _ _ _ => rfl
  | .neg _ _ => rfl
  | .not _ _ => rfl
  | .cmp _ _ _ _ => rfl
  | .chn _ _ _ _ _ _ => rfl
  | .and _ _ => rfl
  | .or _ _ => rfl
  | .ife _ _ _ _ => rfl
  | .ix _ _ _ => rfl
  | .sl _ _ _ _ _ _ => rfl
  | .cal _ _ _ _ => rfl
  | .blt _ _ _ _ _ => rfl
  | .isi _ _ _ _ _ => rfl
  | .isiT _ _ _ _ _ _ => rfl
  | .mth _ _ _ _ _ _ => rfl
  | .dc0 _ => rfl
  | .lrg _ _ _ _ _ _ => rfl
  | .ssc _ _ _ _ _ _ _ _ _ _ _ => rfl
  | .sst _ _ _ _ _ _ => rfl
  | .nst _ _ _ _ _ => rfl
  | .ext .fm4 _ _ => rfl
  | .ext (.calk _ _ _) _ _ => rfl
theorem sw_tup (es : List Expr) (k) (p : Pos) (line : Nat) (e : E) : swapsWith (E.ast N e) (some (.Tuple es k p)) line env = pure false := by
  cases e with
  | frz a => exact sw_tup es k p line a
  | ext x es ps => cases x <;> rfl
  | _ => rfl
theorem sw_sub (a b : Expr) (p : Pos) (line : Nat) (e : E) : swapsWith (E.ast N e) (some (.Subscript a b p)) line env = pure false := by
  cases e with
  | frz a' => exact sw_sub a b p line a'
  | ext x es ps => cases x <;> rfl
  | _ => rfl
theorem sw_none (line : Nat) (e : E) (h : e.isLc = false) : swapsWith (E.ast N e) none line env = pure false := by
  cases e with
  | frz a => exact sw_none line a h
  | lc c k its t ifs elt ns own p => cases h
  | dcp k its t ifs ke ve ns own p => cases h
  | ext x es ps => cases x <;> rfl
  | _ => rfl
theorem ss_tup (ts : List Expr) (k) (p : Pos) (e : E) (h : (e.isTup = false) ∨ (ts.length == 2 || ts.length == 3) = false) : swappedStores [.Tuple ts k p] (E.ast N e) env = pure none := by
  cases e with
  | frz a => exact ss_tup ts k p a h
  | tup es k2 p2 =>
    rcases h with h | h
    · cases h
    · refine (if_pos ?_).trans rfl
      rw [h]; rfl
  | ext x es ps => cases x <;> rfl
  | _ => rfl
/-- a name that is not a plain local one -/
def farT (sc : Scope) (N : List Str) : T → Bool
  | .nm i _ => !(sc.names.lookup (N.getD i "") == some .local)
  | _ => false
theorem fm_le {α β : Type} (f : α → Option β) : ∀ l : List α, (l.filterMap f).length ≤ l.length
  | [] => Nat.le_refl _
  | a :: l => by
    have := fm_le f l
    rw [List.filterMap_cons]
    cases f a <;> simp <;> omega
theorem fm_lt {α β : Type} (f : α → Option β) : ∀ {l : List α} {a : α}, a ∈ l → f a = none → (l.filterMap f).length < l.length
  | b :: l, a, h, e => by
    rw [List.filterMap_cons]
    rcases List.mem_cons.mp h with h | h
    · subst h
      have := fm_le f l
      rw [e]
      simp
      omega
    · have := fm_lt f h e
      cases f b with
      | none => exact Nat.lt_succ_of_lt this
      | some c => exact Nat.succ_lt_succ this
theorem asts_mem (N : List Str) : ∀ {ts : List T} {t : T}, t ∈ ts → T.ast N t ∈ T.asts N ts
  | u :: ts, t, h => by
    rw [T.asts]
    rcases List.mem_cons.mp h with h | h
    · rw [h]; exact List.mem_cons_self
    · exact List.mem_cons_of_mem _ (asts_mem N h)
theorem ss_far (ts : List T) (k) (p : Pos) (e : E) (h : ts.any (farT env.scope N) = true) : swappedStores [.Tuple (T.asts N ts) k p] (E.ast N e) env = pure none := by
  cases e with
  | frz a => exact ss_far ts k p a h
  | tup es k2 p2 =>
    obtain ⟨t, ht, hf⟩ := List.any_eq_true.mp h
    have am := asts_mem N ht
    cases t with
    | tp _ _ _ => cases hf
    | nm i q =>
      have nl : (env.kindOf (N.getD i "") == some NameKind.local) = false := by
        unfold farT at hf
        unfold Env.kindOf
        simpa using hf
      unfold swappedStores
      rw [E.ast]
      simp only []
      split
      · rfl
      · split
        · rfl
        · refine (if_pos ?_).trans rfl
          rw [Bool.or_eq_true]
          left
          have lt := fm_lt (fun x : Expr => match x with
            | .Name id pos => if (env.kindOf id == some NameKind.local && pos.line == ((T.asts N ts).head?.map (·.pos.line)).getD 0) = true then some id else none
            | _ => none) am (by
              rw [T.ast]
              simp only []
              rw [nl, Bool.false_and]
              rfl)
          rw [bne_iff_ne]
          exact Nat.ne_of_lt lt
  | ext x es ps => cases x <;> rfl
  | _ => rfl
theorem ss_name (x : Str) (p : Pos) (e : E) : swappedStores [.Name x p] (E.ast N e) env = pure none := rfl
theorem ss_sub (a b : Expr) (p : Pos) (e : E) : swappedStores [.Subscript a b p] (E.ast N e) env = pure none := rfl
theorem starT (e : E) : isStar (E.ast N e) = false := by
  cases e with
  | frz a => exact starT a
  | ext x es ps => cases x <;> rfl
  | _ => rfl
theorem setT_ix (o i : E) (pt : Pos) (v : Value) : assign (.Subscript (E.ast N o) (E.ast N i) pt) env v = (do
      let ov ← holding [v] (eval (E.ast N o) env)
      let iv ← holding [v, ov] (eval (E.ast N i) env)
      standAt pt
      holding [v, ov, iv] (setItem ov iv v)
      release [v, ov, iv] []) := by
  cases i with
  | frz a => exact setT_ix o a pt v
  | ext x es ps => cases x <;> rfl
  | _ => rfl
theorem augT_ix (i : E) (ov iv new : Value) : augStore (E.ast N i) ov iv new = (do holding [new, ov, iv] (setItem ov iv new); release [new, ov, iv] []; pure .next) := by
  cases i with
  | frz a => exact augT_ix a ov iv new
  | ext x es ps => cases x <;> rfl
  | _ => rfl
end

mutual
def S.ok (fns : List (Str × List Str)) (xi : Str → Option Nat) (N : List Str) (sc : Scope) : S → Bool
  | .asg t e p => E.ok fns N e sc && T.ok (locB sc) N t && (match t with
    | .nm i pn => !swB sc (N.getD i "") pn e
    | .tp ts _ _ => !e.isTup || !(ts.length == 2 || ts.length == 3) || ts.any (farT sc N))
  | .asgc i pn e p => (match N[i]?, e with
    | some x, .lc c k its t ifs elt ns own p2 => (sc.names.lookup x == some .local) && swB sc x pn (.lc c k its t ifs elt ns own p2) && E.ok fns N (.lc c k its t ifs elt ns own p2) sc
    | _, _ => false)
  | .par i j pi pj kt pt a b k2 p2 p => (match N[i]?, N[j]? with
    | some x, some y => (sc.names.lookup x == some .local) && (sc.names.lookup y == some .local) && i != j && x != y && (pos pj).line == (pos pi).line && !([E.ast N a, E.ast N b].all (foldedForSure 8)) && !([E.ast N a, E.ast N b].all (constantsAlone 8)) && E.ok fns N a sc && E.ok fns N b sc
    | _, _ => false)
  | .par3 i j l pi pj pl kt pt a b c k2 p2 p => (match N[i]?, N[j]?, N[l]? with
    | some x, some y, some z => (sc.names.lookup x == some .local) && (sc.names.lookup y == some .local) && (sc.names.lookup z == some .local) && i != j && i != l && j != l && x != y && x != z && y != z && (pos pj).line == (pos pi).line && (pos pl).line == (pos pi).line &&
      !([E.ast N a, E.ast N b, E.ast N c].all (foldedForSure 8)) && !([E.ast N a, E.ast N b, E.ast N c].all (constantsAlone 8)) && E.ok fns N a sc && E.ok fns N b sc && E.ok fns N c sc
    | _, _, _ => false)
  | .set o i e pt p => E.ok fns N o sc && E.ok fns N i sc && E.ok fns N e sc
  | .aug i op e pn p => (match N[i]? with
    | some x => locB sc x && E.ok fns N e sc
    | none => false)
  | .augs o i op e pt p => E.ok fns N o sc && E.ok fns N i sc && E.ok fns N e sc
  | .for_ k its t body p => E.oks fns N its sc && kindOk sc k its.length t && T.ok (locB sc) N t && S.oks fns xi N sc body
  | .whl n c body p => E.ok fns N c sc && S.oks fns xi N sc body
  | .ite c a b p => E.ok fns N c sc && S.oks fns xi N sc a && S.oks fns xi N sc b
  | .ret e p => E.ok fns N e sc
  | .ret0 p => true
  | .exp e p => E.ok fns N e sc && !e.isLc
  | .pss p => true
  | .brk p => true
  | .cnt p => true
  | .rse x m pn pm pc p => glB sc x && (xi x).isSome
  | .setl o e p2 pt p => E.ok fns N o sc && E.ok fns N e sc
def S.oks (fns : List (Str × List Str)) (xi : Str → Option Nat) (N : List Str) (sc : Scope) : List S → Bool
  | [] => true
  | s :: ss => S.ok fns xi N sc s && S.oks fns xi N sc ss
end
structure CtxS (Γ : Wd) (fns : List (Str × List Str)) (xi : Str → Option Nat) (xc : Nat → Addr) (W : WX) (X : Cx) : Prop extends Ctx Γ fns xc W X where
  po : PassesOwn (model X.prog X.w) X.A X.env X.xe
  kd : X.env.scope.kind = .function
  ft : ∀ x, X.fn x = true
  xs : ∀ x c, xi x = some c → ExcAt X xc x c
section
variable {Γ : Wd} {fns : List (Str × List Str)} {xi : Str → Option Nat} {xc : Nat → Addr} {W : WX} {X : Cx}
theorem CtxS.bk (C : CtxS Γ fns xi xc W X) : X.env.blockKind = .function := by unfold Env.blockKind; rw [C.kd]; rfl
theorem CtxS.lc (C : CtxS Γ fns xi xc W X) (x : Str) (h : locB X.env.scope x = true) : Loc X.env.scope x ∧ (X.fn x = true ∨ X.env.scope.names.lookup x = some .local) := by
  refine ⟨?_, .inl (C.ft x)⟩
  unfold locB at h
  split at h
  · rename_i e; exact .inl e
  · rename_i e; exact .inr e
  · cases h
theorem eq_lk {sc : Scope} {x : Str} {k : NameKind} (h : (sc.names.lookup x == some k) = true) : sc.names.lookup x = some k := by simpa using h
mutual
theorem sndS (C : CtxS Γ fns xi xc W X) : ∀ s : S, s.ok fns xi X.N X.env.scope = true → PS X (s.ast X.N) (rdS X.K xc W (execS Γ xi s))
  | .asg (.nm i pn) e p, h => by
    simp only [S.ok, Bool.and_eq_true, Bool.not_eq_true'] at h
    obtain ⟨⟨h1, h2⟩, h3⟩ := h
    refine ms_asg ((sndB C.toCtx e h1).1) (mg_T C.nd C.calm C.lc _ h2) ?_ (ss_name _ _ e) rfl
    show swapsWith (E.ast X.N e) (some (.Name (X.N.getD i "") (pos pn))) (pos p).line X.env = pure false
    rw [sw_name C.bk, h3]
  | .asg (.tp ts k2 p2) e p, h => by
    simp only [S.ok, Bool.and_eq_true, Bool.or_eq_true, Bool.not_eq_true'] at h
    obtain ⟨⟨h1, h2⟩, h3⟩ := h
    have lt : ∀ ts : List T, (T.asts X.N ts).length = ts.length := fun ts => by
      induction ts with
      | nil => rfl
      | cons t ts ih => rw [T.asts, List.length_cons, List.length_cons, ih]
    have hs : swapsWithSole [T.ast X.N (.tp ts k2 p2)] (E.ast X.N e) (pos p).line X.env = pure false := sw_tup (env := X.env) (T.asts X.N ts) k2 (pos p2) (pos p).line e
    have hw : swappedStores [T.ast X.N (.tp ts k2 p2)] (E.ast X.N e) X.env = pure none := by
      rcases h3 with h4 | h4
      · have h4 : e.isTup = false ∨ ((T.asts X.N ts).length == 2 || (T.asts X.N ts).length == 3) = false := by rw [lt]; exact h4
        exact ss_tup (T.asts X.N ts) k2 (pos p2) e h4
      · exact ss_far ts k2 (pos p2) e h4
    exact ms_asg ((sndB C.toCtx e h1).1) (mg_T C.nd C.calm C.lc (.tp ts k2 p2) h2) hs hw rfl
  | .asgc i pn e p, h => by
    simp only [S.ok] at h
    split at h
    · rename_i x c k its t ifs elt ns own p2 e1
      simp only [Bool.and_eq_true, E.ok, decide_eq_true_eq, List.all_eq_true, List.contains_iff_mem] at h
      obtain ⟨⟨h0, hsw⟩, ⟨⟨⟨⟨⟨⟨⟨h1, h2⟩, h3⟩, h4⟩, h5⟩, h6⟩, h7⟩, h8⟩⟩ := h
      have hi := sndI C.toCtx k its t (sndAll C.toCtx its h1) (sndA C.toCtx its h1) h2 h1
      have ex : X.N.getD i "" = x := by rw [List.getD_eq_getElem?_getD, e1]; rfl
      have r := ps_setLc (X := X) (spos := pos p) (pos := pos p2) (py := pos pn) C.calm C.nd e1 (eq_lk h0) (by
          have := (sw_name (N := X.N) C.bk x pn (pos p).line (.lc c k its t ifs elt ns own p2)).trans (by rw [hsw])
          exact this) hi (blkOk_by h3) (g := rdG X.K (setT t) t.slots) (tt := rdT X.K xc WF (evalTs Γ ifs)) (te := rdE X.K xc WF (evalE Γ elt)) (fun s H Cc cl fp => ?_) (fun s H Cc cl fp => ?_) (fun s H Cc cl fp => ?_) (foldK k its X.env)
      · rw [S.ast, ex]
        refine ms_name (PS.imp r fun Ds σ H q => ?_)
        exact lc_read h4 q
      · refine mg_T (X := X.blk s H (scopeOf ns) (compEnvC (scopeOf ns) cl Cc X.env) fp) C.nd C.calm (fun x hx => ?_) t h5
        rcases locB_ok (N := X.N) (sc := X.env.scope) hx with e | e
        · have e2 := relabel_loc (X := X) (ns := ns) (k := .local) (by decide) e
          exact ⟨.inl e2, .inr e2⟩
        · have e2 := relabel_loc (X := X) (ns := ns) (k := .cell) (by decide) e
          refine ⟨.inr e2, .inl ?_⟩
          show ((scopeOf ns).names.lookup x == some .cell) = true
          rw [show (scopeOf ns).names.lookup x = some .cell from e]; rfl
      · exact sndTs (C.toCtx.blk s H (scopeOf ns) (compEnvC (scopeOf ns) cl Cc X.env) fp) ifs h7
      · exact (sndB (C.toCtx.blk s H (scopeOf ns) (compEnvC (scopeOf ns) cl Cc X.env) fp) elt h8).1
    · cases h
  | .par i j pi pj kt pt a b k2 p2 p, h => by
    simp only [S.ok] at h
    split at h
    · rename_i x y e1 e2
      simp only [Bool.and_eq_true, Bool.not_eq_true', bne_iff_ne, ne_eq, beq_iff_eq] at h
      obtain ⟨⟨⟨⟨⟨⟨⟨⟨h1, h2⟩, h3⟩, h4⟩, h5⟩, h6⟩, h7⟩, h8⟩, h9⟩ := h
      have ex : X.N.getD i "" = x := by rw [List.getD_eq_getElem?_getD, e1]; rfl
      have ey : X.N.getD j "" = y := by rw [List.getD_eq_getElem?_getD, e2]; rfl
      rw [S.ast, ex, ey]
      refine ms_par C.calm C.nd e1 e2 h3 h1 h2 ((sndB C.toCtx a h8).1) ((sndB C.toCtx b h9).1) (starE a [E.ast X.N b] X.env) (starE b [] X.env) (sw2 C.bk h6 h7 h1 h2 h5 h4 fun z hz => ?_) rfl
      simp only [List.mem_cons, List.not_mem_nil, or_false] at hz
      rcases hz with rfl | rfl <;> exact starT _
    · cases h
  | .par3 i j l pi pj pl kt pt a b c k2 p2 p, h => by
    simp only [S.ok] at h
    split at h
    · rename_i x y z e1 e2 e3
      simp only [Bool.and_eq_true, Bool.not_eq_true', bne_iff_ne, ne_eq, beq_iff_eq] at h
      obtain ⟨⟨⟨⟨⟨⟨⟨⟨⟨⟨⟨⟨⟨⟨⟨h1, h2⟩, h3⟩, h4⟩, h5⟩, h6⟩, h7⟩, h8⟩, h9⟩, l1⟩, l2⟩, f1⟩, f2⟩, g1⟩, g2⟩, g3⟩ := h
      have ex : X.N.getD i "" = x := by rw [List.getD_eq_getElem?_getD, e1]; rfl
      have ey : X.N.getD j "" = y := by rw [List.getD_eq_getElem?_getD, e2]; rfl
      have ez : X.N.getD l "" = z := by rw [List.getD_eq_getElem?_getD, e3]; rfl
      rw [S.ast, ex, ey, ez]
      refine ms_par3 C.calm C.nd e1 e2 e3 h4 h5 h6 h1 h2 h3 ((sndB C.toCtx a g1).1) ((sndB C.toCtx b g2).1) ((sndB C.toCtx c g3).1) (starE a [E.ast X.N b, E.ast X.N c] X.env) (starE b [E.ast X.N c] X.env) (starE c [] X.env) (sw3 C.bk f1 f2 h1 h2 h3 l1 l2 h7 h8 h9 fun z hz => ?_) rfl
      simp only [List.mem_cons, List.not_mem_nil, or_false] at hz
      rcases hz with rfl | rfl | rfl <;> exact starT _
    · cases h
  | .set o i e pt p, h => by
    simp only [S.ok, Bool.and_eq_true] at h
    obtain ⟨⟨h1, h2⟩, h3⟩ := h
    exact ms_set C.hu ((sndB C.toCtx o h1).1) ((sndB C.toCtx i h2).1) ((sndB C.toCtx e h3).1) (sw_sub (N := X.N) (env := X.env) (E.ast X.N o) (E.ast X.N i) (pos pt) (pos p).line e) (setT_ix o i _)
  | .aug i op e pn p, h => by
    simp only [S.ok] at h
    split at h
    · rename_i x e1
      simp only [Bool.and_eq_true] at h
      have ex : X.N.getD i "" = x := by rw [List.getD_eq_getElem?_getD, e1]; rfl
      rw [S.ast, ex]
      exact ms_aug C.nd e1 (C.lc x h.1).1 (C.lc x h.1).2 ((sndB C.toCtx e h.2).1)
    · cases h
  | .augs o i op e pt p, h => by
    simp only [S.ok, Bool.and_eq_true] at h
    obtain ⟨⟨h1, h2⟩, h3⟩ := h
    exact ms_augs C.hu ((sndB C.toCtx o h1).1) ((sndB C.toCtx i h2).1) ((sndB C.toCtx e h3).1) (augT_ix i)
  | .setl o e p2 pt p, h => by
    simp only [S.ok, Bool.and_eq_true] at h
    exact ms_setl ((sndB C.toCtx o h.1).1) ((sndB C.toCtx e h.2).1) (sw_sub (N := X.N) (env := X.env) (E.ast X.N o) (.Slice none none none (pos p2)) (pos pt) (pos p).line e)
  | .for_ k its t body p, h => by
    simp only [S.ok, Bool.and_eq_true] at h
    obtain ⟨⟨⟨h1, h2⟩, h3⟩, h4⟩ := h
    have hi := sndI C.toCtx k its t (sndAll C.toCtx its h1) (sndA C.toCtx its h1) h2 h1
    exact ms_for C.po C.calm hi (mg_T C.nd C.calm C.lc _ h3) (sndSs C body h4) (foldK k its X.env)
  | .whl n c body p, h => by
    simp only [S.ok, Bool.and_eq_true] at h
    exact ms_whl C.po ((sndB C.toCtx c h.1).2) (sndSs C body h.2)
  | .ite c a b p, h => by
    simp only [S.ok, Bool.and_eq_true] at h
    exact ms_if ((sndB C.toCtx c h.1.1).2) (sndSs C a h.1.2) (sndSs C b h.2)
  | .ret e p, h => by
    simp only [S.ok] at h
    exact ms_ret ((sndB C.toCtx e h).1)
  | .ret0 p, h => PS.imp ps_retN fun Ds σ H ⟨ρ, l, M, S, q⟩ => q _ ρ H S.mem (Le.refl _ _) (Pr .non)
  | .exp e p, h => by
    simp only [S.ok, Bool.and_eq_true, Bool.not_eq_true'] at h
    exact ms_exp ((sndB C.toCtx e h.1).1) (sw_none (N := X.N) (env := X.env) (pos p).line e h.2)
  | .pss p, h => PS.imp ps_pass fun Ds σ H ⟨ρ, l, M, S, q⟩ => q σ ρ H S (Le.refl _ _)
  | .brk p, h => PS.imp ps_break fun Ds σ H ⟨ρ, l, M, S, q⟩ => q σ ρ H S (Le.refl _ _)
  | .cnt p, h => PS.imp ps_continue fun Ds σ H ⟨ρ, l, M, S, q⟩ => q σ ρ H S (Le.refl _ _)
  | .rse x m pn pm pc p, h => by
    simp only [S.ok, Bool.and_eq_true] at h
    obtain ⟨g1, g2, g3⟩ := glB_ok h.1
    cases e : xi x with
    | none => rw [e] at h; cases h.2
    | some c =>
      refine PS.imp (ms_rse C.calm C.tk (C.xs x c e) g1 g2) fun Ds σ H ⟨ρ, l, M, S, q⟩ => ⟨ρ, l, M, S, ?_⟩
      simp only [execS, e] at q
      exact q
theorem sndSs (C : CtxS Γ fns xi xc W X) : ∀ ss : List S, S.oks fns xi X.N X.env.scope ss = true → PSs X (S.asts X.N ss) (rdS X.K xc W (execB Γ xi ss))
  | [], h => mss_nil
  | s :: ss, h => by
    simp only [S.oks, Bool.and_eq_true] at h
    exact mss_cons (sndS C s h.1) (sndSs C ss h.2)
end
end
end Mini

/-! Mini, part v: a call forgets the cells it left behind. -/
namespace Mini
open PySem PySem.Spec PyProof.Rows L2

section
variable {K : PySem.W.Frag} {G G' : Hp} {ρ ρ' : Rho} {n : Nat}
mutual
theorem bd_of : ∀ {d : D} {v : V}, RelD K G ρ d v → d.bd ρ.c.length = true
  | .p d, v, r => by unfold D.bd; rfl
  | .ref m, v, r => by
    unfold RelD at r
    obtain ⟨a, e, _⟩ := r
    unfold D.bd
    exact decide_eq_true (List.getElem?_eq_some_iff.mp e).1
  | .tr ds, v, r => by
    unfold RelD at r
    obtain ⟨a, vs, _, _, q⟩ := r
    unfold D.bd
    exact bds_of q
theorem bds_of : ∀ {ds : List D} {vs : List V}, RelDs K G ρ ds vs → D.bds ρ.c.length ds = true
  | [], vs, r => by unfold D.bds; rfl
  | d :: ds, vs, r => by
    unfold RelDs at r
    obtain ⟨v, w, _, q, q'⟩ := r
    unfold D.bds
    rw [bd_of q, bds_of q']
    rfl
end
mutual
theorem cutD (hg : ∀ a o, G a = some o → G' a = some o) (hr : ∀ m a, m < n → ρ.c[m]? = some a → ρ'.c[m]? = some a) : ∀ {d : D} {v : V}, d.bd n = true → RelD K G ρ d v → RelD K G' ρ' d v
  | .p d, v, b, r => by unfold RelD at r ⊢; exact dp_mono hg r
  | .ref m, v, b, r => by
    unfold RelD at r ⊢
    unfold D.bd at b
    obtain ⟨a, e, q⟩ := r
    exact ⟨a, hr m a (of_decide_eq_true b) e, q⟩
  | .tr ds, v, b, r => by
    unfold RelD at r ⊢
    unfold D.bd at b
    obtain ⟨a, vs, e, s, q⟩ := r
    exact ⟨a, vs, e, sqT_mono hg s, cutDs hg hr b q⟩
theorem cutDs (hg : ∀ a o, G a = some o → G' a = some o) (hr : ∀ m a, m < n → ρ.c[m]? = some a → ρ'.c[m]? = some a) : ∀ {ds : List D} {vs : List V}, D.bds n ds = true → RelDs K G ρ ds vs → RelDs K G' ρ' ds vs
  | [], vs, b, r => by unfold RelDs at r ⊢; exact r
  | d :: ds, vs, b, r => by
    unfold RelDs at r ⊢
    unfold D.bds at b
    rw [Bool.and_eq_true] at b
    obtain ⟨v, w, e, q, q'⟩ := r
    exact ⟨v, w, e, cutD hg hr b.1 q, cutDs hg hr b.2 q'⟩
end
theorem cut_ok {M M' : Mem} {H H' : Hp} {d : D} {v : V} (m : MemOk K ρ M H) (m' : MemOk K ρ' M' H') (le : Le (hd ρ M H) (hd ρ' M' H') ρ ρ') (r : RelD K (hd ρ' M' H') ρ' d v) (g : gcOk M d M') :
    ∃ ρ2 : Rho, MemOk K ρ2 (M'.take M.length) H' ∧ Le (hd ρ M H) (hd ρ2 (M'.take M.length) H') ρ ρ2 ∧ RelD K (hd ρ2 (M'.take M.length) H') ρ2 d v := by
  have nl : M.length ≤ M'.length := by
    rcases Nat.lt_or_ge M'.length M.length with h | h
    · have h1 : M'.length < ρ.c.length := by rw [m.len]; exact h
      have := le.r M'.length _ (List.getElem?_eq_getElem h1)
      have := (List.getElem?_eq_some_iff.mp this).1
      rw [m'.len] at this
      omega
    · exact h
  have tk : ∀ i, i < M.length → (ρ'.c.take M.length)[i]? = ρ'.c[i]? := fun i hi => List.getElem?_take_of_lt hi
  have tc : ∀ i a, (ρ'.c.take M.length)[i]? = some a → i < M.length ∧ ρ'.c[i]? = some a := fun i a e => by
    have h1 := (List.getElem?_eq_some_iff.mp e).1
    rw [List.length_take] at h1
    have h2 : i < M.length := by omega
    exact ⟨h2, (tk i h2) ▸ e⟩
  have lv : ∀ i, live (M'.take M.length) i → live M' i := fun i ⟨c, e, hn⟩ => by
    have h1 := (List.getElem?_eq_some_iff.mp e).1
    rw [List.length_take] at h1
    rw [List.getElem?_take_of_lt (by omega)] at e
    exact ⟨c, e, hn⟩
  have gg : ∀ a o, hd ρ' M' H' a = some o → hd ⟨ρ'.c.take M.length, ρ'.z⟩ (M'.take M.length) H' a = some o := fun a o e => by
    have hn := hd_not e
    rw [hd_off (fun h => by
      rcases h with ⟨k, k1, k2⟩ | h
      · exact hn (.inl ⟨k, (tc k a k1).2, lv k k2⟩)
      · exact hn (.inr h))]
    exact hd_some e
  have rr : ∀ i a, i < M.length → ρ'.c[i]? = some a → (ρ'.c.take M.length)[i]? = some a := fun i a hi e => (tk i hi).trans e
  refine ⟨⟨ρ'.c.take M.length, ρ'.z⟩, ⟨?_, fun i j a h1 h2 l1 l2 => m'.inj i j a (tc i a h1).2 (tc j a h2).2 (lv i l1) (lv j l2), fun i c a h1 h2 => ?_, m'.zin, fun i a us h1 h2 => m'.zoff i a us (tc i a h1).2 (lv i h2)⟩,
    ⟨fun a o e => gg a o (le.g a o e), fun i a e => rr i a (by have := (List.getElem?_eq_some_iff.mp e).1; rw [m.len] at this; exact this) (le.r i a e), le.z⟩, cutD (n := M.length) gg rr g.1 r⟩
  · show (ρ'.c.take M.length).length = (M'.take M.length).length
    rw [List.length_take, List.length_take, m'.len]
  · obtain ⟨hi, h3⟩ := tc i a h2
    rw [List.getElem?_take_of_lt hi] at h1
    have := m'.cell i c a h1 h3
    have bd : D.bds M.length c.vals = true := by
      rcases g.2 i c hi h1 with z | z
      · have hr : i < ρ.c.length := by rw [m.len]; exact hi
        have q := m.cell i c _ z (List.getElem?_eq_getElem hr)
        cases c with
        | dead => unfold Cell.vals D.bds; rfl
        | lst xs => obtain ⟨vs, e, q⟩ := q; have := bds_of q; rw [m.len] at this; exact this
        | dct kds => obtain ⟨vs, e, q⟩ := q; have := bds_of q; rw [m.len] at this; exact this
      · exact z
    cases c with
    | dead => trivial
    | lst xs => obtain ⟨vs, e, q⟩ := this; exact ⟨vs, e, cutDs (n := M.length) gg rr bd q⟩
    | dct kds => obtain ⟨vs, e, q⟩ := this; exact ⟨vs, e, cutDs (n := M.length) gg rr bd q⟩
variable {xc : Nat → Addr} {W : WX}
theorem gc_ok {M : Mem} {H : Hp} {σ : L2.St} {Q : VK} {r : R D} (m : MemOk K ρ M H) (h : post (RelD K) K xc W ρ M σ H Q (gc M r)) : post (RelD K) K xc W ρ M σ H Q r := by
  cases r with
  | stuck => exact h
  | ok d M' =>
    by_cases g : gcOk M d M'
    · rw [show gc M (.ok d M') = .ok d (M'.take M.length) from if_pos g] at h
      intro v ρ' H' m' le r
      obtain ⟨ρ2, a, b, c⟩ := cut_ok m m' le r g
      exact h v ρ2 H' a b c
    · rw [show gc M (.ok d M') = .ok d M' from if_neg g] at h
      exact h
  | exc cc M' =>
    by_cases g : gcOk M nonD M'
    · rw [show gc M (.exc cc M') = .exc cc (M'.take M.length) from if_pos g] at h
      intro ρ' H' m' le
      obtain ⟨ρ2, a, b, c⟩ := cut_ok (d := nonD) (v := V.non) m m' le (Pr .non) g
      exact h ρ2 H' a b
    · rw [show gc M (.exc cc M') = .exc cc M' from if_neg g] at h
      exact h
end
end Mini

/-! Mini, part w: the defs of a text keep what their interpreted bodies say. -/
namespace Mini
open PySem PySem.Spec PyProof.Rows L2

structure Fn where
  np : Nat
  N : List Str
  body : List S
abbrev Tab := List (Str × Fn)
def outR : RS → R D
  | .ret d M => .ok d M
  | .next _ M => .ok nonD M
  | .exc c _ M => .exc c M
  | _ => .stuck
def startD (N : List Str) (ds : List D) : Lo := ds.map some ++ List.replicate (N.length - ds.length) none
noncomputable def callD (glb : Str → Option PyData) (xi : Str → Option Nat) (T : Tab) : Nat → Str → List D → Mem → R D
  | 0, _, _, _ => .stuck
  | n + 1, f, ds, M => match T.lookup f with
    | none => .stuck
    | some F => if ds.length = F.np then gc M (outR (execB ⟨callD glb xi T n, glb⟩ xi F.body (startD F.N ds) M)) else .stuck
def Tab.fns (T : Tab) : List (Str × List Str) := T.map fun z => (z.1, z.2.N.take z.2.np)
theorem Tab.find {T : Tab} (hn : (T.map (·.1)).Nodup) {f : Str} {n : List Str} (h : (f, n) ∈ T.fns) : ∃ F, T.lookup f = some F ∧ F.N.take F.np = n := by
  unfold Tab.fns at h
  obtain ⟨⟨g, F⟩, hm, e⟩ := List.mem_map.mp h
  have e1 : g = f := congrArg Prod.fst e
  have e2 : F.N.take F.np = n := congrArg Prod.snd e
  refine ⟨F, ?_, e2⟩
  clear h e e2
  subst e1
  induction T with
  | nil => cases hm
  | cons z T ih =>
    obtain ⟨y, F'⟩ := z
    rw [List.map_cons, List.nodup_cons] at hn
    rcases List.mem_cons.mp hm with q | q
    · cases q; rw [List.lookup_cons]; simp
    · have ne : (g == y) = false := by
        have : g ≠ y := fun z => hn.1 (z ▸ List.mem_map.mpr ⟨_, q, rfl⟩)
        simpa using this
      rw [List.lookup_cons, ne]
      exact ih hn.2 q

section
variable {P : Program} {w : World} {K : PySem.W.Frag} {mg : Str → Option Value} {base : Heap}
/-- THE RULE for a def, with what it may know of its place -/
theorem fnG_of {x qual : Str} {st : Stmt} {f : Addr} {fd : FuncData} {N ps : List Str} {k : Nat} {sp : Sp} (F : Fun K x qual st f fd) (Sc : FnScope N ps (defScope st)) (len : ∀ vs H Q E, sp vs H Q E → vs.length = ps.length)
    (hbody : ∀ (cdv : Value) (A : Around) (outer : List Env) (s : Shared) (H : Hp) (vs : List V) (Q : VK) (E : XK), Room k (A.deeper (envOfC qual (defScope st) s.heap.objs.size f cdv)) → A.guards = some [] → sp vs H Q E →
      ∃ t, PSs (cxOf (L2.CX P w) P w K mg base N qual (defScope st) f cdv A outer s H E) (defBody st) t ∧ t { nx := fun _ H' => Q .non H', rt := Q } (L2.start N vs) H) : FnG P w K mg base (k + 1) f fd ps sp := by
  obtain ⟨oc, od, kV, doc, pm, an, cdv, ct, osl, rfl, lk, hcd⟩ := F.ex
  refine ⟨len, ?_⟩
  intro A outer s H args us vs Q E room gd env0 bnd vals hsp
  have inK : K.In s.heap := env0.mod.kin.keeps fun b o e => (env0.bs b o e).1
  have noL : s.heap.NoLimit := env0.mod.nolimit.keeps fun b o e => (env0.bs b o e).1
  have kinds : ∀ y ∈ ps.zip us, (defScope st).names.lookup y.1 = some .local ∨ ((defScope st).names.lookup y.1 = some .cell ∧ ((cellsFrom (s.heap.objs.size + 1) (defScope st).names []).lookup y.1).isSome = true) := by
    rintro ⟨n, v⟩ hy
    exact (Sc.par n (List.of_mem_zip hy).1).imp id fun q => ⟨q, PySem.W.cellsFrom_some _ _ _ (.inl q)⟩
  refine codeAny_call_function room.depth (inK _ _ lk) rfl Sc.co Sc.gen rfl (PySem.W.codeRec_of inK hcd) ?_
  refine bnd _ _ _ _ (wpAny_newFunctionEnv_cells Sc.kind kinds fun env he s1 x => ?_)
  cases he
  refine ⟨noL.keeps x.toInCall.keep, codeAny_func ?_⟩
  obtain ⟨t, ht, hq⟩ := hbody cdv A outer s H vs Q E (room.deeper _) gd hsp
  have I0 := inv_start (CX := L2.CX P w) (E := E) Sc room.hd env0 (len _ _ _ _ hsp) vals x
  refine wpAny_mono (ht.run [] s1 _ H _ I0 hq) ?_ fun _ _ z => z
  intro fl s' hs
  cases fl with
  | brk => obtain ⟨_, _, _, q⟩ := hs; exact q.elim
  | cont => obtain ⟨_, _, _, q⟩ := hs; exact q.elim
  | next =>
    obtain ⟨σ', H', J, q⟩ := hs
    exact ⟨V.non, H', J.os, J.bare, J.base, J.hok, rfl, q⟩
  | ret u =>
    obtain ⟨v, σ', H', J, rv, q⟩ := hs
    exact ⟨v, H', J.os, J.bare, J.base, J.hok, rv, q⟩
end

/-- what is known of the text behind its top -/
structure Prog (P : Program) (w : World) (K : PySem.W.Frag) (mg : Str → Option Value) (base : Heap) (xc : Nat → Addr) (glb : Str → Option PyData) (xi : Str → Option Nat) (T : Tab) : Prop where
  nd : (T.map (·.1)).Nodup
  blt : ∀ x ∈ bNames, mg x = none
  gl : ∀ x d, glb x = some d → ∃ u v, mg x = some u ∧ RelV v u ∧ ∀ K G, Dp K G v d
  xs : ∀ x c, xi x = some c → mg x = some (.ref (xc c)) ∧ PySem.W.keepIn K (.ref (xc c)) = true ∧ PySem.W.subIn K (.ref (xc c)) (.type "BaseException") = some true ∧ PySem.W.typeIn K (.ref (xc c)) = some (.type "type") ∧ ∃ B newId initId bmB, ExcBaseFacts B newId initId bmB ∧ PySem.W.excIn K (xc c) bmB newId = true
  fn : ∀ f F, T.lookup f = some F → ∃ (a : Addr) (fd : FuncData) (ps : List Str) (st : Stmt), mg f = some (.ref a) ∧ Fun K f f st a fd ∧ FnScope F.N ps (defScope st) ∧ defBody st = S.asts F.N F.body ∧ S.oks T.fns xi F.N (defScope st) F.body = true ∧ Binds K fd ps [] ∧ ps.length = F.np ∧ PlainA (defArgs st) ps
section
variable {P : Program} {w : World} {K : PySem.W.Frag} {mg : Str → Option Value} {base : Heap} {xc : Nat → Addr} {glb : Str → Option PyData} {xi : Str → Option Nat} {T : Tab}
theorem relDs_start {G : Hp} {ρ : Rho} : ∀ {ds : List D} {vs : List V} {n : Nat}, RelDs K G ρ ds vs → ∀ (i : Nat) (d : D), (ds.map some ++ List.replicate n none)[i]? = some (some d) → ∃ v, (vs.map some ++ List.replicate n none)[i]? = some (some v) ∧ RelD K G ρ d v := by
  intro ds vs n r i d e
  have hl := r.length
  rcases Nat.lt_or_ge i ds.length with h | h
  · rw [List.getElem?_append_left (by simpa using h), List.getElem?_map] at e
    cases e1 : ds[i]? with
    | none => rw [e1] at e; cases e
    | some d' =>
      rw [e1] at e
      cases e
      obtain ⟨v, h1, h2⟩ := r.get e1
      refine ⟨v, ?_, h2⟩
      rw [List.getElem?_append_left (by simp; omega), List.getElem?_map, h1]
      rfl
  · rw [List.getElem?_append_right (by simpa using h), List.getElem?_replicate] at e
    split at e <;> cases e
/-- the facts of one def -/
def Def1 (K : PySem.W.Frag) (mg : Str → Option Value) (xi : Str → Option Nat) (T : Tab) (f : Str) (F : Fn) (a : Addr) (fd : FuncData) (ps : List Str) (st : Stmt) : Prop :=
  mg f = some (.ref a) ∧ Fun K f f st a fd ∧ FnScope F.N ps (defScope st) ∧ defBody st = S.asts F.N F.body ∧ S.oks T.fns xi F.N (defScope st) F.body = true ∧ Binds K fd ps [] ∧ ps.length = F.np ∧ PlainA (defArgs st) ps
theorem Def1.pre {f : Str} {F : Fn} {a : Addr} {fd : FuncData} {ps : List Str} {st : Stmt} (D : Def1 K mg xi T f F a fd ps st) : ps = F.N.take F.np := by
  obtain ⟨h1, h2, h3, h4, h5, h6, h7, h8⟩ := D
  rw [← h7]; exact h3.pre.symm
theorem Prog.any {base' : Heap} (Pg : Prog P w K mg base xc glb xi T) : Prog P w K mg base' xc glb xi T := ⟨Pg.nd, Pg.blt, Pg.gl, Pg.xs, Pg.fn⟩
theorem zeroG {f : Str} {F : Fn} {a : Addr} {fd : FuncData} {ps : List Str} {st : Stmt} (D : Def1 K mg xi T f F a fd ps st) : FnG P w K mg base 0 a fd ps (spF K xc F.np (callD glb xi T 0 f)) := by
  obtain ⟨h1, h2, h3, h4, h5, h6, h7, h8⟩ := D
  refine ⟨fun vs H Q E ⟨ρ, M, ds, m, r, hl, q⟩ => ?_, fun A outer s H args us vs Q E _ _ _ _ _ ⟨ρ, M, ds, m, r, hl, q⟩ => q.elim⟩
  rw [h7, ← hl, r.length]
theorem stepG (Pg : Prog P w K mg base xc glb xi T) {k : Nat} (ih : ∀ (f : Str) (F : Fn), T.lookup f = some F → ∃ (a : Addr) (fd : FuncData) (ps : List Str), mg f = some (.ref a) ∧ PySem.W.keepIn K (.ref a) = true ∧ FnG P w K mg base k a fd ps (spF K xc F.np (callD glb xi T k f)) ∧ Binds K fd ps [] ∧ ps.length = F.np ∧ KwB K fd ps ∧ ps = F.N.take F.np)
    {f : Str} {F : Fn} (h : T.lookup f = some F) {a : Addr} {fd : FuncData} {ps : List Str} {st : Stmt} (D : Def1 K mg xi T f F a fd ps st) : FnG P w K mg base (k + 1) a fd ps (spF K xc F.np (callD glb xi T (k + 1) f)) := by
  obtain ⟨h1, h2, h3, h4, h5, h6, h7, h8⟩ := D
  refine fnG_of h2 h3 (fun vs H Q E ⟨ρ, M, ds, m, r, hl, q⟩ => by rw [h7, ← hl, r.length]) ?_
  rintro cdv A outer s H vs Q E room gd ⟨ρ, M, ds, m, r, hl, q⟩
  have C : CtxS ⟨callD glb xi T k, glb⟩ T.fns xi xc (fun c d _ H => E c d H) (cxOf (L2.CX P w) P w K mg base F.N f (defScope st) a cdv A outer s H E) := {
    nd := h3.nd
    calm := rfl
    hu := by have := room.un; show (A.deeper _).units + 150 < cLine; omega
    gd := gd
    tk := takes_of rfl rfl rfl rfl
    blt := Pg.blt
    gl := Pg.gl
    po := passes_of rfl
    kd := h3.kind
    ft := fun _ => rfl
    xs := fun x c e => by
      obtain ⟨g1, g2, g3, g4, g5⟩ := Pg.xs x c e
      exact ⟨g1, g2, raises_own g3 g4, g5⟩
    fn := fun g n hg => by
      obtain ⟨F', e1, e2⟩ := Tab.find Pg.nd hg
      obtain ⟨a', fd', ps', k1, k2, k3, k4, k5, k6, k7⟩ := ih g F' e1
      rw [← k7] at e2
      subst e2
      refine ⟨callD glb xi T k g, ⟨k, a', fd', k1, k2, k5 ▸ k3, k4, k6, room⟩, fun ds M => ?_⟩
      rw [k5]
      cases k with
      | zero => show R.stuck = _; split <;> rfl
      | succ k =>
        show callD glb xi T (k + 1) g ds M = _
        by_cases e : ds.length = F'.np
        · rw [if_pos e]
        · rw [if_neg e]
          simp only [callD, e1]
          rw [if_neg e] }
  refine ⟨rdS K xc (fun c d _ H => E c d H) (execB ⟨callD glb xi T k, glb⟩ xi F.body), ?_, ρ, startD F.N ds, M, ⟨m, ?_, ?_⟩, ?_⟩
  · rw [h4]
    exact sndSs C F.body h5
  · intro i d e
    have := relDs_start (n := F.N.length - ds.length) r i d e
    unfold L2.start
    rw [← r.length]
    exact this
  · unfold startD L2.start
    simp [r.length]
  · simp only [callD, h, if_pos hl] at q
    have q := gc_ok m q
    cases e : execB ⟨callD glb xi T k, glb⟩ xi F.body (startD F.N ds) M with
    | next l' M' =>
      rw [e] at q
      exact fun σ' ρ' H' S' le => q V.non ρ' H' S'.mem le (Pr .non)
    | ret d M' =>
      rw [e] at q
      exact q
    | exc c l' M' =>
      rw [e] at q
      exact fun σ' ρ' H' S' le => q ρ' H' S'.mem le
    | brk l' M' => rw [e] at q; exact q.elim
    | cnt l' M' => rw [e] at q; exact q.elim
    | stuck => rw [e] at q; exact q.elim
theorem allG (Pg : Prog P w K mg base xc glb xi T) : ∀ (k : Nat) (f : Str) (F : Fn), T.lookup f = some F → ∃ (a : Addr) (fd : FuncData) (ps : List Str), mg f = some (.ref a) ∧ PySem.W.keepIn K (.ref a) = true ∧ FnG P w K mg base k a fd ps (spF K xc F.np (callD glb xi T k f)) ∧ Binds K fd ps [] ∧ ps.length = F.np ∧ KwB K fd ps ∧ ps = F.N.take F.np
  | 0, f, F, h => by
    obtain ⟨a, fd, ps, st, D⟩ := Pg.fn f F h
    have D : Def1 K mg xi T f F a fd ps st := D
    exact ⟨a, fd, ps, D.1, D.2.1.kp, zeroG D, D.2.2.2.2.2.1, D.2.2.2.2.2.2.1, kwB_of D.2.1 D.2.2.2.2.2.2.2, D.pre⟩
  | k + 1, f, F, h => by
    obtain ⟨a, fd, ps, st, D⟩ := Pg.fn f F h
    have D : Def1 K mg xi T f F a fd ps st := D
    exact ⟨a, fd, ps, D.1, D.2.1.kp, stepG Pg (allG Pg k) h D, D.2.2.2.2.2.1, D.2.2.2.2.2.2.1, kwB_of D.2.1 D.2.2.2.2.2.2.2, D.pre⟩
/-- one function object for all bases -/
theorem allB (Pg : Prog P w K mg base xc glb xi T) (k : Nat) (f : Str) (F : Fn) (h : T.lookup f = some F) : ∃ (a : Addr) (fd : FuncData) (ps : List Str), mg f = some (.ref a) ∧ Binds K fd ps [] ∧ ps.length = F.np ∧ ∀ base', FnG P w K mg base' k a fd ps (spF K xc F.np (callD glb xi T k f)) := by
  obtain ⟨a, fd, ps, st, D⟩ := Pg.fn f F h
  have D : Def1 K mg xi T f F a fd ps st := D
  refine ⟨a, fd, ps, D.1, D.2.2.2.2.2.1, D.2.2.2.2.2.2.1, fun base' => ?_⟩
  cases k with
  | zero => exact zeroG D
  | succ k => exact stepG Pg.any (allG Pg.any k) h D
end
end Mini

/-! Mini, part x: the law's row from its interpreted law. -/
namespace Mini
open PySem PySem.Spec PyProof.Rows L2

theorem dpAll_ints {K : PySem.W.Frag} {G : Hp} : ∀ ns : List Int, DpAll K G (ns.map V.int) (ns.map PyData.int)
  | [] => .nil
  | n :: ns => .cons (.int n) (dpAll_ints ns)
theorem hd_nil (H : Hp) : hd ⟨[], []⟩ [] H = H := by
  funext a
  exact hd_off fun h => by
    rcases h with ⟨m, h, _⟩ | ⟨vs, h⟩
    · cases h
    · cases h
theorem memOk_nil (K : PySem.W.Frag) (H : Hp) : MemOk K ⟨[], []⟩ [] H :=
  ⟨rfl, (fun i j a h => by cases h), (fun i c a h => by cases h), (fun a vs h => by cases h), (fun m a vs h => by cases h)⟩
theorem sp_script {K : PySem.W.Frag} {xc : Nat → Addr} {g : List D → Mem → R D} {H : Hp} {a : Addr} {ns : List Int} {M' : Mem} (hS : SqL K H a (ns.map V.int)) (hg : g [.p (.list (ns.map PyData.int))] [] = .ok (.p (.bool true)) M') :
    spF K xc 1 g [.ref a] H (fun v _ => v = .bl true) fun _ _ _ => False := by
  refine ⟨⟨[], []⟩, [], [.p (.list (ns.map PyData.int))], memOk_nil K H, RelDs.cons (Pr (.lst (by rw [hd_nil]; exact hS) (dpAll_ints ns))) RelDs.nil, rfl, ?_⟩
  rw [hg]
  exact fun v ρ' H' _ _ r => by cases relP r; rfl
section
variable {P : Program} {w : World} {K : PySem.W.Frag} {mg mb : Str → Option Value} {k : Nat} {fa a : Addr} {fd : FuncData} {x : Str} {sp : Sp} {s₁ : Shared} {vs : List Value} {ns : List Int}
/-- one entry: the abstract heap knows the script at most -/
theorem enter1 {H : Hp} (inK : K.In s₁.heap) (nsG : s₁.heap.Ns mainGlobals mg) (nsB : s₁.heap.Ns builtinsNs mb) (same : ∀ x : Str, x ≠ "__name__" → mb x = bootBuiltins x) (noL : s₁.heap.NoLimit) (noG : s₁.gens = #[])
    (there : s₁.heap.get? a = some { cls := .type "list", data := .seq vs.toArray }) (room : Room k callerA) (F : ∀ base : Heap, K.In base → base.Ns mainGlobals mg → FnG P w K mg base k fa fd [x] sp) (bnd : BindsTo s₁ fd ⟨[.ref a], []⟩ [(x, .ref a)])
    (only : Only H) (prom : sp [.ref a] H (fun v _ => v = .bl true) fun _ _ _ => False) (hok : HOk P w H s₁.heap) (isA : ∀ b, H b ≠ none → b = a) (offK : H a ≠ none → K.lookup a = none) :
    codeAny (model P w) callerA (.call (.ref fa) ⟨[.ref a], []⟩) (fun r s' => r = .ok (.ret (.bool true)) ∧ OldK s₁.heap s'.heap ∧ s'.os = s₁.os ∧ AllBare s'.gens) s₁ := by
  have free : ∀ {b : Addr}, b ≠ a → H b = none := fun {b} hb => by
    cases q : H b with
    | none => rfl
    | some u => exact absurd (isA b (by rw [q]; simp)) hb
  have nsUp : ∀ {b : Addr} {m : Str → Option Value}, s₁.heap.Ns b m → (hidT s₁.heap H).Ns b m := by
    rintro b m ⟨o, es, ep, e, d, r⟩
    refine ⟨o, es, ep, hidT_get e (free ?_), d, r⟩
    rintro rfl
    rw [there] at e
    cases e
    exact nomatch (show Data.seq vs.toArray _ = Data.dict es ep from d)
  have inB : K.In (hidT s₁.heap H) := by
    intro b o e
    refine hidT_get (inK b o e) ?_
    cases q : H b with
    | none => rfl
    | some u =>
      have hb : b = a := isA b (by rw [q]; simp)
      rw [hb] at e q
      rw [offK (by rw [q]; simp)] at e
      cases e
  obtain ⟨mc, c1, c2⟩ := noL
  have md : Mod K mg (hidT s₁.heap H) := ⟨inB, nsUp nsG, ⟨mb, nsUp nsB, same⟩, ⟨mc, nsUp c1, c2⟩⟩
  have env0 : Env0 P w K mg (hidT s₁.heap H) callerA [] s₁ H :=
    { frames := rfl, mod := md, bs := fun b o e => of_hidT e, bsz := Nat.le_of_eq (hidT_size _ _), funs := trivial, frf := (fun b hb => by cases (show b ∈ ([] : List Addr) from hb)), hok := hok, bare := .of_eq noG }
  have run := (F _ inB (nsUp nsG)).go callerA [] s₁ H ⟨[.ref a], []⟩ [.ref a] [.ref a] _ _ room rfl env0 bnd (.cons rfl .nil) prom
  refine codeAny_mono run ?_
  rintro r s' h
  match r, h with
  | .error e, h =>
    obtain ⟨_, _, _, _, _, _, _, _, _, _, _, _, z⟩ := h
    exact z.elim
  | .ok .next, h => exact False.elim h
  | .ok .brk, h => exact False.elim h
  | .ok .cont, h => exact False.elim h
  | .ok (.ret u), h =>
    obtain ⟨v, H', os, bare, un, hok', rv, q⟩ := h
    cases (show v = V.bl true from q)
    cases (show u = Value.bool true from rv)
    refine ⟨rfl, OldK.of_keep fun b o e => ?_, os, bare⟩
    rcases only b with z | ⟨ob, xs, z⟩
    · exact un.keep b o e z (fun y => by cases (show b ∈ ([] : List Addr) from y)) (by simp)
    · obtain ⟨e1, _⟩ := hok b _ z
      obtain ⟨e2, _⟩ := hok' b _ (un.frzs b ob _ z)
      rw [e1] at e
      cases e
      exact e2
theorem enter (inK : K.In s₁.heap) (nsG : s₁.heap.Ns mainGlobals mg) (nsB : s₁.heap.Ns builtinsNs mb) (same : ∀ x : Str, x ≠ "__name__" → mb x = bootBuiltins x) (noL : s₁.heap.NoLimit) (noG : s₁.gens = #[])
    (there : s₁.heap.get? a = some { cls := .type "list", data := .seq vs.toArray }) (hints : IntsAre vs ns) (len : ns.length ≤ sizeLine) (room : Room k callerA) (F : ∀ base : Heap, K.In base → base.Ns mainGlobals mg → FnG P w K mg base k fa fd [x] sp)
    (bnd : BindsTo s₁ fd ⟨[.ref a], []⟩ [(x, .ref a)]) (prom : ∀ H : Hp, SqL K H a (ns.map V.int) → sp [.ref a] H (fun v _ => v = .bl true) fun _ _ _ => False) :
    codeAny (model P w) callerA (.call (.ref fa) ⟨[.ref a], []⟩) (fun r s' => r = .ok (.ret (.bool true)) ∧ OldK s₁.heap s'.heap ∧ s'.os = s₁.os ∧ AllBare s'.gens) s₁ := by
  have rv := vals_ints hints
  have lv := hints.length
  cases hk : K.lookup a with
  | some o =>
    have e := inK a o hk
    rw [there] at e
    cases e
    have sq : SqL K (fun _ => none) a (ns.map V.int) := .inr ⟨_, vs.toArray, _, hk, rfl, rfl, rfl, by rw [List.size_toArray, lv]; exact len, by simpa using rv⟩
    exact enter1 inK nsG nsB same noL noG there room F bnd (fun _ => .inl rfl) (prom _ sq) (fun b u z => nomatch (show (none : Option HO) = some u from z)) (fun b z => absurd rfl z) fun z => absurd rfl z
  | none =>
    let H : Hp := fun b => if b = a then some (.frz { cls := .type "list", data := .seq vs.toArray } (.lst (ns.map V.int))) else none
    have yes : H a = some (.frz { cls := .type "list", data := .seq vs.toArray } (.lst (ns.map V.int))) := if_pos rfl
    have no : ∀ b, b ≠ a → H b = none := fun b hb => if_neg hb
    have sq : SqL K H a (ns.map V.int) := .inl (.inr ⟨_, yes⟩)
    refine enter1 inK nsG nsB same noL noG there room F bnd (fun b => ?_) (prom H sq) (fun b u z => ?_) (fun b z => ?_) fun _ => hk
    · by_cases hb : b = a
      · rw [hb]; exact .inr ⟨_, _, yes⟩
      · exact .inl (no b hb)
    · by_cases hb : b = a
      · rw [hb, yes] at z
        cases z
        rw [hb]
        exact ⟨there, by rw [List.length_map]; exact len, vs, _, rv, there⟩
      · rw [no b hb] at z; cases z
    · by_cases hb : b = a
      · exact hb
      · exact absurd (no b hb) z
end
/-- the law's row, from its text and its interpreted law -/
theorem walkM {l : PySem.W.OpenLaw} {n k : Nat} {q : Program} {loose : List Str} {XP : (Str → Option Value) → Heap → Prop} {YP : World → Heap → Prop} {d : DefRec} {K : Params → PySem.W.Frag} {glb : Str → Option PyData} {xi : Str → Option Nat} {T : Tab} {F : Fn}
    (most : l.most = some n) (small : n ≤ sizeLine) (nodf : d.params.defaults = []) (room : Room k callerA) (name : d.name = ("law" : Str)) (one : T.lookup ("law" : Str) = some F) (np : F.np = 1)
    (inK : ∀ (w : World) (h : Heap), YP w h → (K w.params).In h)
    (text : ∀ (w : World) (mg : Str → Option Value) (h : Heap), (K w.params).In h → h.Ns mainGlobals mg → ∃ (xc : Nat → Addr) (base : Heap), Prog l.prog w (K w.params) mg base xc glb xi T)
    (law : ∀ ns : List Int, ns.length ≤ n → ∃ M', callD glb xi T k ("law" : Str) [.p (.list (ns.map PyData.int))] [] = .ok (.p (.bool true)) M') :
    PySem.W.WalkO q loose XP YP l.row.toRowW d [] (fun f vs => PySem.call f vs) := by
  refine Att.attach_call most nodf ?_
  intro w s₀ s₁ mg mb fa o pm cd doc a vs ns G Y ho hd hcd hmg hobj hints hlen hg
  have X := inK w _ Y
  obtain ⟨xc, base, Pg⟩ := text w mg _ X G.T.g
  obtain ⟨fa', fd, ps, e, hb, hl, hF⟩ := allB Pg k ("law" : Str) F one
  rw [np] at hl hF
  rw [name] at hmg
  have ee := hmg.symm.trans e
  cases ee
  obtain ⟨M', hr⟩ := law ns hlen
  match ps, hl with
  | [x], _ =>
    have b1 := hb s₁ [.ref a] X rfl
    exact enter X G.T.g G.T.b G.T.builtins G.T.nolimit hg hobj hints (Nat.le_trans hlen small) room (fun base _ _ => hF base) b1 fun H hS => sp_script hS hr
end Mini

/-! Mini, part I: what the head has to say of the top. -/
namespace Mini
open PySem PySem.Spec PyProof.Rows L2

section
variable {K : PySem.W.Frag} {mg : Str → Option Value} {h : Heap} {xi : Str → Option Nat} {T : Tab}
theorem def_fact (X : K.In h) (G : h.Ns mainGlobals mg) {f : Str} {st : Stmt} {a : Addr} {oc kV dc pm cd ct : Value} {od an : Option Addr} {sl : Array (Option Value)} {F : Fn} {ps : List Str} (a1 : PySem.W.nsIn K mainGlobals f = some (some (.ref a)))
    (l1 : K.lookup a = some ⟨oc, od, .func (PySem.W.fnOf f f (defArgs st) (defBody st) (defScope st) .none kV dc pm an cd ct), sl⟩) (c1 : PySem.W.codeIn K cd f = true) (k1 : PySem.W.keepIn K (.ref a) = true)
    (sc : FnScope F.N ps (defScope st)) (ast : defBody st = S.asts F.N F.body) (ok : S.oks T.fns xi F.N (defScope st) F.body = true) (len : ps.length = F.np) (pl : PlainA (defArgs st) ps)
    (bnd : ∀ (kV doc pm : Value) (an : Option Addr) (cdv ct : Value) (us : List Value), us.length = ps.length → bindArgs (PySem.W.fnOf f f (defArgs st) (defBody st) (defScope st) .none kV doc pm an cdv ct) ⟨us, []⟩ = pure (ps.zip us)) :
    ∃ (a : Addr) (fd : FuncData) (ps : List Str) (st : Stmt), Def1 K mg xi T f F a fd ps st :=
  ⟨a, _, ps, st, PySem.W.mg_of X G a1, fun_mk l1 c1 k1, sc, ast, ok, (fun_mk l1 c1 k1).binds bnd, len, pl⟩
/-- all that is said of the entries of a list -/
theorem all_nil {α : Type} {P : Str → α → Prop} : ∀ (f : Str) (F : α), ([] : List (Str × α)).lookup f = some F → P f F := fun f F h => by cases h
theorem all_cons {α : Type} {P : Str → α → Prop} {y : Str} {Fy : α} {T : List (Str × α)} (hd : P y Fy) (tl : ∀ f F, T.lookup f = some F → P f F) : ∀ f F, ((y, Fy) :: T).lookup f = some F → P f F := fun f F h => by
  rw [List.lookup_cons] at h
  cases e : f == y with
  | true =>
    rw [e] at h
    cases h
    have : f = y := by simpa using e
    rw [this]; exact hd
  | false => rw [e] at h; exact tl f F h
/-- a class of exceptions that made nothing anew -/
def ExcFact (K : PySem.W.Frag) (mg : Str → Option Value) (xc : Nat → Addr) (x : Str) (c : Nat) : Prop := mg x = some (.ref (xc c)) ∧ PySem.W.keepIn K (.ref (xc c)) = true ∧ PySem.W.subIn K (.ref (xc c)) (.type "BaseException") = some true ∧ PySem.W.typeIn K (.ref (xc c)) = some (.type "type") ∧
  ∃ B newId initId bmB, ExcBaseFacts B newId initId bmB ∧ PySem.W.excIn K (xc c) bmB newId = true
def ExcRaw (K : PySem.W.Frag) (mg : Str → Option Value) (x : Str) (a : Addr) : Prop := mg x = some (.ref a) ∧ PySem.W.keepIn K (.ref a) = true ∧ PySem.W.subIn K (.ref a) (.type "BaseException") = some true ∧ PySem.W.typeIn K (.ref a) = some (.type "type") ∧
  ∃ B newId initId bmB, ExcBaseFacts B newId initId bmB ∧ PySem.W.excIn K a bmB newId = true
theorem exc_raw {x : Str} (X : K.In h) (G : h.Ns mainGlobals mg) {a : Addr} (a1 : PySem.W.nsIn K mainGlobals x = some (some (.ref a))) (k1 : PySem.W.keepIn K (.ref a) = true) (s1 : PySem.W.subIn K (.ref a) (.type "BaseException") = some true)
    (t1 : PySem.W.typeIn K (.ref a) = some (.type "type")) (q : PySem.W.excIn K a [.type "ValueError", .type "Exception", .type "BaseException", .type "object"] "ValueError.__new__" = true) : ∃ a, ExcRaw K mg x a :=
  ⟨a, PySem.W.mg_of X G a1, k1, s1, t1, _, _, _, _, PySem.F.excBase_ValueError, q⟩
theorem ExcRaw.at {xc : Nat → Addr} {x : Str} {a : Addr} {c : Nat} (r : ExcRaw K mg x a) (e : xc c = a) : ExcFact K mg xc x c := by
  subst e
  exact r
/-- a constant of the top -/
def GlFact (mg : Str → Option Value) (x : Str) (d : PyData) : Prop := ∃ u v, mg x = some u ∧ RelV v u ∧ ∀ K G, Dp K G v d
theorem gl_int {x : Str} {i : Int} {t : Tok} (X : K.In h) (G : h.Ns mainGlobals mg) (a1 : PySem.W.nsIn K mainGlobals x = some (some (.int i t))) : GlFact mg x (.int i) := ⟨_, .int i, PySem.W.mg_of X G a1, ⟨t, rfl⟩, fun _ _ => .int i⟩
theorem gl_str {x : Str} {z : Str} {t : Tok} (X : K.In h) (G : h.Ns mainGlobals mg) (a1 : PySem.W.nsIn K mainGlobals x = some (some (.str z t))) : GlFact mg x (.str z) := ⟨_, .str z, PySem.W.mg_of X G a1, ⟨t, rfl⟩, fun _ _ => .str z⟩
theorem blt_facts (X : K.In h) (G : h.Ns mainGlobals mg) (a : bNames.all (fun x => PySem.W.nsIn K mainGlobals x == some none) = true) : ∀ x ∈ bNames, mg x = none := fun x hx => by
  have := List.all_eq_true.mp a x hx
  exact PySem.W.mg_none_of X G (eq_of_beq this)
theorem blt_nil : ∀ x ∈ ([] : List Str), mg x = none := fun x hx => nomatch hx
theorem blt_cons (X : K.In h) (G : h.Ns mainGlobals mg) {y : Str} {l : List Str} (a : PySem.W.nsIn K mainGlobals y = some none) (tl : ∀ x ∈ l, mg x = none) : ∀ x ∈ y :: l, mg x = none := fun x hx => by
  rcases List.mem_cons.mp hx with e | e
  · rw [e]; exact PySem.W.mg_none_of X G a
  · exact tl x e
end
end Mini

/-! Mini, part J: reckoning with the interpreter: what it does on plain values, by rfl. -/
namespace Mini
open PySem PySem.Spec PyProof.Rows L2

section
variable {α β : Type} {M : Mem} {l : Lo} {i j : Int} {x y : Str} {b c : Bool} {d e : D} {ds : List D}
theorem bind_ok {a : α} {f : α → Mem → R β} : (R.ok a M).bind f = f a M := rfl
theorem bind_exc {n : Nat} {f : α → Mem → R β} : (R.exc n M).bind f = .exc n M := rfl
theorem to_ok {a : α} {f : α → Mem → RS} : (R.ok a M).to l f = f a M := rfl
theorem to_exc {n : Nat} {f : α → Mem → RS} : (R.exc (α := α) n M).to l f = .exc n l M := rfl
theorem then_next {f : Lo → Mem → RS} : (RS.next l M).andThen f = f l M := rfl
theorem then_ret {f : Lo → Mem → RS} : (RS.ret d M).andThen f = .ret d M := rfl
theorem then_brk {f : Lo → Mem → RS} : (RS.brk l M).andThen f = .brk l M := rfl
theorem then_cnt {f : Lo → Mem → RS} : (RS.cnt l M).andThen f = .cnt l M := rfl
theorem then_exc {n : Nat} {f : Lo → Mem → RS} : (RS.exc n l M).andThen f = .exc n l M := rfl
theorem out_ret : outR (.ret d M) = .ok d M := rfl
theorem out_next : outR (.next l M) = .ok nonD M := rfl
theorem out_exc {n : Nat} : outR (.exc n l M) = .exc n M := rfl
theorem ofO_some : ofO (some (d, M)) = .ok d M := rfl
theorem truB : tru (.p (.bool b)) M = .ok b M := rfl
theorem truN : tru (.p .none) M = .ok false M := rfl
theorem truI : tru (.p (.int i)) M = .ok (i != 0) M := rfl
theorem if_t {γ : Type} {a b : γ} : (if true = true then a else b) = a := rfl
theorem if_f {γ : Type} {a b : γ} : (if false = true then a else b) = b := rfl
theorem get0 {o : D} {r : Lo} : getL (some o :: r) 0 M = .ok o M := rfl
theorem getS {o : Option D} {r : Lo} {n : Nat} : getL (o :: r) (n + 1) M = getL r n M := rfl
theorem isa_ii : isaP .int (.p (.int i)) M = some true := rfl
theorem isa_bi : isaP .bool (.p (.int i)) M = some false := rfl
theorem isa_ti : isaP .tuple (.p (.int i)) M = some false := rfl
theorem isa_si : isaP .str (.p (.int i)) M = some false := rfl
theorem isa_li : isaP .list (.p (.int i)) M = some false := rfl
theorem isa_ss : isaP .str (.p (.str x)) M = some true := rfl
theorem isa_is : isaP .int (.p (.str x)) M = some false := rfl
theorem isa_bs : isaP .bool (.p (.str x)) M = some false := rfl
theorem isa_ts : isaP .tuple (.p (.str x)) M = some false := rfl
theorem isa_ls : isaP .list (.p (.str x)) M = some false := rfl
theorem isa_tt {xs : List PyData} : isaP .tuple (.p (.tuple xs)) M = some true := rfl
theorem isa_lt {xs : List PyData} : isaP .list (.p (.tuple xs)) M = some false := rfl
theorem isa_st {xs : List PyData} : isaP .str (.p (.tuple xs)) M = some false := rfl
theorem isa_bt {xs : List PyData} : isaP .bool (.p (.tuple xs)) M = some false := rfl
theorem isa_it {xs : List PyData} : isaP .int (.p (.tuple xs)) M = some false := rfl
theorem isa_ll {xs : List PyData} : isaP .list (.p (.list xs)) M = some true := rfl
theorem isa_tl {xs : List PyData} : isaP .tuple (.p (.list xs)) M = some false := rfl
theorem isa_sl {xs : List PyData} : isaP .str (.p (.list xs)) M = some false := rfl
theorem isa_bl {xs : List PyData} : isaP .bool (.p (.list xs)) M = some false := rfl
theorem isa_il {xs : List PyData} : isaP .int (.p (.list xs)) M = some false := rfl
theorem isa_bb : isaP .bool (.p (.bool b)) M = some true := rfl
theorem isa_ib : isaP .int (.p (.bool b)) M = some true := rfl
theorem le_ii : cmpD .LtE (.p (.int i)) (.p (.int j)) M = some (.p (.bool (decide (i ≤ j))), M) := rfl
theorem ge_ii : cmpD .GtE (.p (.int i)) (.p (.int j)) M = some (.p (.bool (decide (j ≤ i))), M) := rfl
theorem lt_ii : cmpD .Lt (.p (.int i)) (.p (.int j)) M = some (.p (.bool (decide (i < j))), M) := rfl
theorem gt_ii : cmpD .Gt (.p (.int i)) (.p (.int j)) M = some (.p (.bool (decide (j < i))), M) := rfl
theorem ad_ii : binD c .Add (.p (.int i)) (.p (.int j)) M = some (.p (.int (i + j)), M) := rfl
theorem su_ii : binD c .Sub (.p (.int i)) (.p (.int j)) M = some (.p (.int (i - j)), M) := rfl
end
end Mini

/-! Mini, part K: terms without their places in the text; a def that is another one but for the places. -/
namespace Mini
open PySem PySem.Spec PyProof.Rows L2
mutual
def T.er : T → T
  | .nm i _ => .nm i 0
  | .tp ts _ _ => .tp (T.ers ts) 0 0
def T.ers : List T → List T
  | [] => []
  | t :: ts => T.er t :: T.ers ts
end
def IK.er : IK → IK
  | .ov => .ov
  | .rng _ _ => .rng 0 0
  | .enu _ _ => .enu 0 0
  | .itm _ _ => .itm 0 0
  | .zip _ _ => .zip 0 0
mutual
def E.er : E → E
  | .nop => .nop
  | .non _ => .non 0
  | .bl b _ => .bl b 0
  | .int i _ => .int i 0
  | .str s _ => .str s 0
  | .var i _ => .var i 0
  | .glb x _ => .glb x 0
  | .tup es _ _ => .tup (E.ers es) 0 0
  | .lst c es _ => .lst c (E.ers es) 0
  | .bin c op a b _ => .bin c op (E.er a) (E.er b) 0
  | .neg a _ => .neg (E.er a) 0
  | .not a _ => .not (E.er a) 0
  | .cmp op a b _ => .cmp op (E.er a) (E.er b) 0
  | .chn op op' a b c _ => .chn op op' (E.er a) (E.er b) (E.er c) 0
  | .and es _ => .and (E.ers es) 0
  | .or es _ => .or (E.ers es) 0
  | .ife c a b _ => .ife (E.er c) (E.er a) (E.er b) 0
  | .ix a b _ => .ix (E.er a) (E.er b) 0
  | .sl c a lo hi _ _ => .sl c (E.er a) (E.er lo) (E.er hi) 0 0
  | .cal f es _ _ => .cal f (E.ers es) 0 0
  | .blt c b es _ _ => .blt c b (E.ers es) 0 0
  | .isi a t _ _ _ => .isi (E.er a) t 0 0 0
  | .isiT a ts _ _ _ _ => .isiT (E.er a) (ts.map fun z => (z.1, 0)) 0 0 0 0
  | .mth c o m es _ _ => .mth c (E.er o) m (E.ers es) 0 0
  | .lc c k its t ifs elt _ own _ => .lc c k.er (E.ers its) t.er (E.ers ifs) (E.er elt) [] (own.map fun z => ("", z.2)) 0
  | .frz a => .frz (E.er a)
  | .dc0 _ => .dc0 0
  | .lrg c es _ _ _ _ => .lrg c (E.ers es) 0 0 0 0
  | .ssc c k its t ifs elt _ own _ _ _ => .ssc c k.er (E.ers its) t.er (E.ers ifs) (E.er elt) [] (own.map fun z => ("", z.2)) 0 0 0
  | .sst c a _ _ _ _ => .sst c (E.er a) 0 0 0 0
  | .nst a _ _ _ _ => .nst (E.er a) 0 0 0 0
  | .sls c a lo hi st _ _ => .sls c (E.er a) (E.er lo) (E.er hi) (E.er st) 0 0
  | .fmt a _ => .fmt (E.er a) 0
  | .fst a b es _ => .fst (E.er a) (E.er b) (E.ers es) 0
  | .dcp k its t ifs ke ve _ own _ => .dcp k.er (E.ers its) t.er (E.ers ifs) (E.er ke) (E.er ve) [] (own.map fun z => ("", z.2)) 0
  | .ext x es _ => .ext x (E.ers es) []
def E.ers : List E → List E
  | [] => []
  | e :: es => E.er e :: E.ers es
end
theorem E.er_nop (e : E) : (E.er e).isNop = e.isNop := by cases e <;> simp only [E.er, E.isNop]
mutual
theorem setT_er : ∀ t : T, setT (T.er t) = setT t
  | .nm i _ => by funext d l; simp only [T.er, setT]
  | .tp ts _ _ => by
    funext d l
    simp only [T.er, setT, setTs_er ts]
theorem setTs_er : ∀ ts : List T, setTs (T.ers ts) = setTs ts
  | [] => rfl
  | t :: ts => by
    funext ds l
    cases ds with
    | nil => simp only [T.ers, setTs]
    | cons d ds => simp only [T.ers, setTs, setT_er t, setTs_er ts]
end
theorem walkR_er (k : IK) : walkR k.er = walkR k := by
  funext ds M
  have h : walkD k.er ds M = walkD k ds M := by
    cases k with
    | ov => rfl
    | rng a b =>
      rcases ds with _ | ⟨d, _ | ⟨e, _ | ⟨f, r⟩⟩⟩
      · rfl
      · cases d with
        | p y => cases y <;> rfl
        | _ => rfl
      · cases d with
        | p y => cases y with
          | int i => cases e with
            | p z => cases z <;> rfl
            | _ => rfl
          | _ => cases e <;> rfl
        | _ => cases e <;> rfl
      · cases d with
        | p y => cases y with
          | int i => cases e with
            | p z => cases z <;> rfl
            | _ => rfl
          | _ => cases e <;> rfl
        | _ => cases e <;> rfl
    | enu a b =>
      rcases ds with _ | ⟨d, _ | ⟨e, r⟩⟩
      · rfl
      · cases d <;> rfl
      · cases d <;> cases e <;> rfl
    | zip a b =>
      rcases ds with _ | ⟨d, _ | ⟨e, _ | ⟨f, r⟩⟩⟩
      · rfl
      · cases d <;> rfl
      · cases d <;> cases e <;> rfl
      · cases d <;> cases e <;> rfl
    | itm a b =>
      rcases ds with _ | ⟨d, _ | ⟨e, r⟩⟩
      · rfl
      · cases d <;> rfl
      · cases d <;> rfl
  have hw : wkM k.er ds M = wkM k ds M := by cases k <;> rfl
  unfold walkR
  rw [h, hw]
theorem lcB_er (ft : Lo → Mem → R Bool) (fe : Lo → Mem → R D) (t : T) (own : List Nat) : lcB ft fe t.er own = lcB ft fe t own := by
  funext l d M
  simp only [lcB, setT_er]
theorem dcB_er (ft : Lo → Mem → R Bool) (fk fv : Lo → Mem → R D) (t : T) (own : List Nat) : dcB ft fk fv t.er own = dcB ft fk fv t own := by
  funext l d M
  simp only [dcB, setT_er]
theorem own_er (own : List (Str × Nat)) : (own.map fun z => (("" : Str), z.2)).map (·.2) = own.map (·.2) := by
  rw [List.map_map]; rfl
theorem tys_er (ts : List (Ty × Nat)) : (ts.map fun z => (z.1, (0 : Nat))).map (·.1) = ts.map (·.1) := by
  rw [List.map_map]; rfl
mutual
theorem evalE_er (Γ : Wd) : ∀ e : E, evalE Γ (E.er e) = evalE Γ e
  | .nop => rfl
  | .non _ => by simp only [E.er, evalE]
  | .bl b _ => by simp only [E.er, evalE]
  | .int i _ => by simp only [E.er, evalE]
  | .str s _ => by simp only [E.er, evalE]
  | .var i _ => by simp only [E.er, evalE]
  | .glb x _ => by simp only [E.er, evalE]
  | .tup es _ _ => by simp only [E.er, evalE, evalA_er Γ es]
  | .lst c es _ => by simp only [E.er, evalE, evalA_er Γ es]
  | .bin c op a b _ => by simp only [E.er, evalE, evalE_er Γ a, evalE_er Γ b]
  | .neg a _ => by simp only [E.er, evalE, evalE_er Γ a]
  | .not a _ => by simp only [E.er, evalE, evalE_er Γ a]
  | .cmp op a b _ => by simp only [E.er, evalE, evalE_er Γ a, evalE_er Γ b]
  | .chn op op' a b c _ => by simp only [E.er, evalE, evalE_er Γ a, evalE_er Γ b, evalE_er Γ c]
  | .and es _ => by simp only [E.er, evalE, evalAnd_er Γ es]
  | .or es _ => by simp only [E.er, evalE, evalOr_er Γ es]
  | .ife c a b _ => by simp only [E.er, evalE, evalE_er Γ a, evalE_er Γ b, evalE_er Γ c]
  | .ix a b _ => by simp only [E.er, evalE, evalE_er Γ a, evalE_er Γ b]
  | .sl c a lo hi _ _ => by simp only [E.er, evalE, evalE_er Γ a, evalE_er Γ lo, evalE_er Γ hi, E.er_nop]
  | .cal f es _ _ => by simp only [E.er, evalE, evalA_er Γ es]
  | .blt c b es _ _ => by simp only [E.er, evalE, evalA_er Γ es]
  | .isi a t _ _ _ => by simp only [E.er, evalE, evalE_er Γ a]
  | .isiT a ts _ _ _ _ => by simp only [E.er, evalE, evalE_er Γ a, tys_er]
  | .mth c o m es _ _ => by simp only [E.er, evalE, evalE_er Γ o, evalA_er Γ es]
  | .lc c k its t ifs elt _ own _ => by simp only [E.er, evalE, evalA_er Γ its, walkR_er, evalTs_er Γ ifs, evalE_er Γ elt, lcB_er, own_er]
  | .frz a => by simp only [E.er, evalE, evalE_er Γ a]
  | .dc0 _ => by simp only [E.er, evalE]
  | .lrg c es _ _ _ _ => by simp only [E.er, evalE, evalA_er Γ es]
  | .ssc c k its t ifs elt _ own _ _ _ => by simp only [E.er, evalE, evalA_er Γ its, walkR_er, evalTs_er Γ ifs, evalE_er Γ elt, lcB_er, own_er]
  | .sst c a _ _ _ _ => by simp only [E.er, evalE, evalE_er Γ a]
  | .nst a _ _ _ _ => by simp only [E.er, evalE, evalE_er Γ a]
  | .sls c a lo hi st _ _ => by simp only [E.er, evalE, evalE_er Γ a, evalE_er Γ lo, evalE_er Γ hi, evalE_er Γ st, E.er_nop]
  | .fmt a _ => by simp only [E.er, evalE, evalE_er Γ a]
  | .fst a b es _ => by simp only [E.er, evalE, evalE_er Γ a, evalE_er Γ b, evalJ_er Γ es]
  | .dcp k its t ifs ke ve _ own _ => by simp only [E.er, evalE, evalA_er Γ its, walkR_er, evalTs_er Γ ifs, evalE_er Γ ke, evalE_er Γ ve, dcB_er, own_er]
  | .ext x es _ => by simp only [E.er, evalE, evalA_er Γ es]
theorem evalA_er (Γ : Wd) : ∀ es : List E, evalA Γ (E.ers es) = evalA Γ es
  | [] => rfl
  | e :: es => by simp only [E.ers, evalA, evalE_er Γ e, evalA_er Γ es]
theorem evalJ_er (Γ : Wd) : ∀ es : List E, evalJ Γ (E.ers es) = evalJ Γ es
  | [] => rfl
  | e :: es => by simp only [E.ers, evalJ, evalE_er Γ e, evalJ_er Γ es]
theorem evalAnd_er (Γ : Wd) : ∀ es : List E, evalAnd Γ (E.ers es) = evalAnd Γ es
  | [] => rfl
  | [e] => by simp only [E.ers, evalAnd, evalE_er Γ e]
  | e :: e' :: es => by
    have h := evalAnd_er Γ (e' :: es)
    simp only [E.ers] at h
    simp only [E.ers, evalAnd, evalE_er Γ e, h]
theorem evalOr_er (Γ : Wd) : ∀ es : List E, evalOr Γ (E.ers es) = evalOr Γ es
  | [] => rfl
  | [e] => by simp only [E.ers, evalOr, evalE_er Γ e]
  | e :: e' :: es => by
    have h := evalOr_er Γ (e' :: es)
    simp only [E.ers] at h
    simp only [E.ers, evalOr, evalE_er Γ e, h]
theorem evalTs_er (Γ : Wd) : ∀ es : List E, evalTs Γ (E.ers es) = evalTs Γ es
  | [] => rfl
  | [e] => by simp only [E.ers, evalTs, evalE_er Γ e]
  | e :: e' :: es => by simp only [E.ers, evalTs]
end
mutual
def S.er : S → S
  | .asg t e _ => .asg t.er e.er 0
  | .asgc i _ e _ => .asgc i 0 e.er 0
  | .par i j _ _ _ _ a b _ _ _ => .par i j 0 0 0 0 a.er b.er 0 0 0
  | .par3 i j k _ _ _ _ _ a b c _ _ _ => .par3 i j k 0 0 0 0 0 a.er b.er c.er 0 0 0
  | .set o i e _ _ => .set o.er i.er e.er 0 0
  | .aug i op e _ _ => .aug i op e.er 0 0
  | .augs o i op e _ _ => .augs o.er i.er op e.er 0 0
  | .for_ k its t body _ => .for_ k.er (E.ers its) t.er (S.ers body) 0
  | .whl n c body _ => .whl n c.er (S.ers body) 0
  | .ite c a b _ => .ite c.er (S.ers a) (S.ers b) 0
  | .ret e _ => .ret e.er 0
  | .ret0 _ => .ret0 0
  | .exp e _ => .exp e.er 0
  | .pss _ => .pss 0
  | .brk _ => .brk 0
  | .cnt _ => .cnt 0
  | .rse x _ _ _ _ _ => .rse x "" 0 0 0 0
  | .setl o e _ _ _ => .setl o.er e.er 0 0 0
def S.ers : List S → List S
  | [] => []
  | s :: ss => S.er s :: S.ers ss
end
mutual
theorem execS_er (Γ : Wd) (xi : Str → Option Nat) : ∀ s : S, execS Γ xi (S.er s) = execS Γ xi s
  | .asg t e _ => by simp only [S.er, execS, evalE_er, setT_er]
  | .asgc i _ e _ => by simp only [S.er, execS, evalE_er]
  | .par i j _ _ _ _ a b _ _ _ => by simp only [S.er, execS, evalE_er]
  | .par3 i j k _ _ _ _ _ a b c _ _ _ => by simp only [S.er, execS, evalE_er]
  | .set o i e _ _ => by simp only [S.er, execS, evalE_er]
  | .aug i op e _ _ => by simp only [S.er, execS, evalE_er]
  | .augs o i op e _ _ => by simp only [S.er, execS, evalE_er]
  | .for_ k its t body _ => by
    have h : ∀ w, forL w t.er = forL w t := by
      intro w
      funext b ds l M
      induction ds generalizing l M with
      | nil => simp only [forL]
      | cons d ds ih => simp only [forL, setT_er, ih]
    simp only [S.er, execS, evalA_er, walkR_er, h, execB_er Γ xi body]
  | .whl n c body _ => by simp only [S.er, execS, evalE_er, execB_er Γ xi body]
  | .ite c a b _ => by simp only [S.er, execS, evalE_er, execB_er Γ xi a, execB_er Γ xi b]
  | .ret e _ => by simp only [S.er, execS, evalE_er]
  | .ret0 _ => by simp only [S.er, execS]
  | .exp e _ => by simp only [S.er, execS, evalE_er]
  | .pss _ => by simp only [S.er, execS]
  | .brk _ => by simp only [S.er, execS]
  | .cnt _ => by simp only [S.er, execS]
  | .rse x _ _ _ _ _ => by simp only [S.er, execS]
  | .setl o e _ _ _ => by simp only [S.er, execS, evalE_er]
theorem execB_er (Γ : Wd) (xi : Str → Option Nat) : ∀ ss : List S, execB Γ xi (S.ers ss) = execB Γ xi ss
  | [] => rfl
  | s :: ss => by simp only [S.ers, execB, execS_er Γ xi s, execB_er Γ xi ss]
end
/-- the table has this def, but for the places -/
class Has (T : Tab) (f : Str) (F : outParam Fn) : Prop where
  ex : ∃ G : Fn, T.lookup f = some G ∧ G.np = F.np ∧ G.N.length = F.N.length ∧ S.ers G.body = F.body
class Gl (g : Str → Option PyData) (x : Str) (d : outParam PyData) : Prop where
  eq : g x = some d
class Xi (g : Str → Option Nat) (x : Str) (d : outParam Nat) : Prop where
  eq : g x = some d
theorem call_has {glb : Str → Option PyData} {xi : Str → Option Nat} {T : Tab} {k : Nat} {f : Str} {F : Fn} {ds : List D} {M : Mem} (h : Has T f F) (hl : ds.length = F.np) :
    callD glb xi T (k + 1) f ds M = gc M (outR (execB ⟨callD glb xi T k, glb⟩ xi F.body (startD F.N ds) M)) := by
  obtain ⟨G, h1, h2, h3, h4⟩ := h.ex
  simp only [callD, h1, h2, if_pos hl, ← h4, execB_er]
  simp only [startD, h3]
theorem setT_nm0 {i p : Nat} {d : D} {l : Lo} (h : i < l.length) : setT (.nm i p) d l = some (l.set i (some d)) := by simp [setT, h]
theorem small_sz {n : Nat} (h : n ≤ 1000) : (n ≤ sizeLine) = True := eq_true (by rw [sizeLine_eq]; omega)
theorem sz0 : (0 ≤ sizeLine) = True := small_sz (by decide)
theorem sz1 : (1 ≤ sizeLine) = True := small_sz (by decide)
theorem sz2 : (2 ≤ sizeLine) = True := small_sz (by decide)
theorem sz3 : (3 ≤ sizeLine) = True := small_sz (by decide)
theorem sz4 : (4 ≤ sizeLine) = True := small_sz (by decide)
theorem sz5 : (5 ≤ sizeLine) = True := small_sz (by decide)
theorem sz6 : (6 ≤ sizeLine) = True := small_sz (by decide)
theorem sz7 : (7 ≤ sizeLine) = True := small_sz (by decide)
theorem sz8 : (8 ≤ sizeLine) = True := small_sz (by decide)
theorem sz9 : (9 ≤ sizeLine) = True := small_sz (by decide)
theorem sz10 : (10 ≤ sizeLine) = True := small_sz (by decide)
theorem sz11 : (11 ≤ sizeLine) = True := small_sz (by decide)
theorem sz12 : (12 ≤ sizeLine) = True := small_sz (by decide)
theorem mkT1 {a : PyData} : mkT [.p a] = .p (.tuple [a]) := rfl
theorem mkT2 {a b : PyData} : mkT [.p a, .p b] = .p (.tuple [a, b]) := rfl
theorem mkT3 {a b c : PyData} : mkT [.p a, .p b, .p c] = .p (.tuple [a, b, c]) := rfl
theorem al_tr {xs : List D} {M : Mem} : al true xs M = some (.ref M.length, M ++ [.lst xs]) := rfl
theorem alf0 {zz : PyData} {M : Mem} : al false [] M = some (.p (.list []), M) := rfl
theorem alf1 {a : PyData} {M : Mem} : al false [.p a] M = some (.p (.list [a]), M) := rfl
theorem alf2 {a b : PyData} {M : Mem} : al false [.p a, .p b] M = some (.p (.list [a, b]), M) := rfl
theorem alf3 {a b c : PyData} {M : Mem} : al false [.p a, .p b, .p c] M = some (.p (.list [a, b, c]), M) := rfl
theorem alf4 {a b c d : PyData} {M : Mem} : al false [.p a, .p b, .p c, .p d] M = some (.p (.list [a, b, c, d]), M) := rfl
theorem alf5 {a b c d e : PyData} {M : Mem} : al false [.p a, .p b, .p c, .p d, .p e] M = some (.p (.list [a, b, c, d, e]), M) := rfl
theorem alf6 {a b c d e f : PyData} {M : Mem} : al false [.p a, .p b, .p c, .p d, .p e, .p f] M = some (.p (.list [a, b, c, d, e, f]), M) := rfl
theorem alf7 {a b c d e f g : PyData} {M : Mem} : al false [.p a, .p b, .p c, .p d, .p e, .p f, .p g] M = some (.p (.list [a, b, c, d, e, f, g]), M) := rfl
theorem alf8 {a b c d e f g h : PyData} {M : Mem} : al false [.p a, .p b, .p c, .p d, .p e, .p f, .p g, .p h] M = some (.p (.list [a, b, c, d, e, f, g, h]), M) := rfl
end Mini

/-! The defs that the laws k01 to k14 share, without their places. -/
namespace Mini.Std
open PySem PySem.Spec PyProof.Rows L2 Mini
def std_is_integer : Fn := ⟨3, ["value", "least", "most"], [
  .ret (.and [(.isi (.var 0 0) .int 0 0 0), (.not (.isi (.var 0 0) .bool 0 0 0) 0), (.chn .LtE .LtE (.var 1 0) (.var 0 0) (.var 2 0) 0)] 0) 0]⟩
def std_is_item : Fn := ⟨1, ["value"], [
  .ite (.or [(.not (.isi (.var 0 0) .tuple 0 0 0) 0), (.cmp .NotEq (.blt false .len [(.var 0 0)] 0 0) (.int 2 0) 0), (.not (.isi (.ix (.var 0 0) (.int 0 0) 0) .str 0 0 0) 0)] 0) [
    .ret (.bl false 0) 0] [] 0,
  .ret (.and [(.cmp .Eq (.blt false .len [(.ix (.var 0 0) (.int 0 0) 0)] 0 0) (.int 1 0) 0), (.cmp .In (.ix (.var 0 0) (.int 0 0) 0) (.glb "LETTERS" 0) 0), (.cal "is_integer" [(.ix (.var 0 0) (.int 1 0) 0), (.int 1 0), (.glb "MOST_NUMBER" 0)] 0 0)] 0) 0]⟩
def std_tags_in (c : Bool) : Fn := ⟨1, ["order", "tag", "number"], [
  .ret (.ssc c .ov [(.var 0 0)] (.tp [(.nm 1 0), (.nm 2 0)] 0 0) [] (.var 1 0) [] [("", 1), ("", 2)] 0 0 0) 0]⟩
def std_is_order : Fn := ⟨1, ["value", "item"], [
  .ite (.or [(.not (.isi (.var 0 0) .list 0 0 0) 0), (.not (.chn .LtE .LtE (.int 1 0) (.blt false .len [(.var 0 0)] 0 0) (.glb "MOST_ITEMS" 0) 0) 0)] 0) [
    .ret (.bl false 0) 0] [] 0,
  .ite (.not (.blt false .all [(.lc false .ov [(.var 0 0)] (.nm 1 0) [] (.cal "is_item" [(.var 1 0)] 0 0) [] [("", 1)] 0)] 0 0) 0) [
    .ret (.bl false 0) 0] [] 0,
  .ret (.and [(.cmp .Eq (.nst (.var 0 0) 0 0 0 0) (.blt false .len [(.var 0 0)] 0 0) 0), (.cmp .LtE (.blt false .len [(.cal "tags_in" [(.var 0 0)] 0 0)] 0 0) (.glb "MOST_TAGS" 0) 0)] 0) 0]⟩
def std_check_order : Fn := ⟨1, ["order"], [
  .ite (.not (.cal "is_order" [(.var 0 0)] 0 0) 0) [
    .rse "InvalidOrderError" "" 0 0 0 0] [] 0]⟩
def std_check_tag : Fn := ⟨2, ["order", "tag"], [
  .ite (.or [(.not (.isi (.var 1 0) .str 0 0 0) 0), (.cmp .NotIn (.var 1 0) (.cal "tags_in" [(.var 0 0)] 0 0) 0)] 0) [
    .rse "InvalidTagError" "" 0 0 0 0] [] 0]⟩
def std_view_in (c : Bool) : Fn := ⟨2, ["order", "tag", "item"], [
  .ret (.lc c .ov [(.var 0 0)] (.nm 2 0) [(.cmp .Eq (.ix (.var 2 0) (.int 0 0) 0) (.var 1 0) 0)] (.var 2 0) [] [("", 2)] 0) 0]⟩
def std_view_of : Fn := ⟨2, ["order", "tag"], [
  .exp (.cal "check_order" [(.var 0 0)] 0 0) 0,
  .exp (.cal "check_tag" [(.var 0 0), (.var 1 0)] 0 0) 0,
  .ret (.cal "view_in" [(.var 0 0), (.var 1 0)] 0 0) 0]⟩

def std__law_source : Fn := ⟨2, ["_law_cell", "_law_k"], [
  .ret (.lst true [(.blt false .max [(.int 0 0), (.bin false .Sub (.var 0 0) (.bin false .Pow (.int 10 0) (.int 18 0) 0) 0)] 0 0), (.bin false .Add (.bin false .Mult (.bin false .Mod (.var 0 0) (.bin false .Add (.bin false .Pow (.int 10 0) (.int 34 0) 0) (.int 193 0) 0) 0) (.int 101 0) 0) (.var 1 0) 0), (.int 0 0)] 0) 0]⟩
def std__law_draw : Fn := ⟨2, ["_law_source_here", "_law_count", "_law_digit", "_law_mixed"], [
  .ite (.cmp .Gt (.ix (.var 0 0) (.int 0 0) 0) (.int 0 0) 0) [
    .asg (.nm 2 0) (.bin false .Mod (.ix (.var 0 0) (.int 0 0) 0) (.var 1 0) 0) 0,
    .set (.var 0 0) (.int 0 0) (.bin false .FloorDiv (.ix (.var 0 0) (.int 0 0) 0) (.var 1 0) 0) 0 0,
    .ret (.var 2 0) 0] [] 0,
  .set (.var 0 0) (.int 2 0) (.bin false .Add (.ix (.var 0 0) (.int 2 0) 0) (.int 1 0) 0) 0 0,
  .asg (.nm 3 0) (.bin false .Mod (.bin false .Pow (.bin false .Add (.ix (.var 0 0) (.int 1 0) 0) (.bin false .Mult (.int 940031 0) (.ix (.var 0 0) (.int 2 0) 0) 0) 0) (.int 3 0) 0) (.bin false .Add (.bin false .Pow (.int 10 0) (.int 37 0) 0) (.int 43 0) 0) 0) 0,
  .asg (.nm 3 0) (.bin false .Mod (.bin false .Pow (.bin false .Add (.var 3 0) (.bin false .Mult (.int 79 0) (.ix (.var 0 0) (.int 2 0) 0) 0) 0) (.int 3 0) 0) (.bin false .Add (.bin false .Pow (.int 10 0) (.int 38 0) 0) (.int 133 0) 0) 0) 0,
  .ret (.bin false .Mod (.bin false .FloorDiv (.var 3 0) (.int 65629 0) 0) (.var 1 0) 0) 0]⟩
def row_0 : S := .asg (.nm 2 0) (.ix (.lst false [(.bin false .Add (.int 1 0) (.cal "_law_draw" [(.var 0 0), (.var 1 0)] 0 0) 0), (.bin false .Add (.int 1 0) (.cal "_law_draw" [(.var 0 0), (.blt false .min [(.var 1 0), (.int 6 0)] 0 0)] 0 0) 0), (.var 1 0)] 0) (.cal "_law_draw" [(.var 0 0), (.int 3 0)] 0 0) 0) 0
def row_1 : S := .asg (.nm 3 0) (.blt true .list [(.str "abcdefghijklmnopqrstuvwxyz" 0)] 0 0) 0
def row_2 : S := .asgc 5 0 (.lc false (.rng 0 0) [(.bin false .Add (.int 1 0) (.cal "_law_draw" [(.var 0 0), (.int 4 0)] 0 0) 0)] (.nm 4 0) [] (.mth false (.var 3 0) .pop [(.cal "_law_draw" [(.var 0 0), (.blt false .len [(.var 3 0)] 0 0)] 0 0)] 0 0) [] [("", 4)] 0) 0
def row_3 : S := .asg (.tp [(.nm 6 0), (.nm 7 0), (.nm 8 0), (.nm 9 0)] 0 0) (.tup [(.ix (.lst false [(.int 99 0), (.int 24 0)] 0) (.cal "_law_draw" [(.var 0 0), (.int 2 0)] 0 0) 0), (.cal "_law_draw" [(.var 0 0), (.int 4 0)] 0 0), (.lst true [] 0), (.dc0 0)] 0 0) 0
def row_b4 : List S := [
    .set (.var 9 0) (.var 10 0) (.lrg true [(.int 1 0), (.bin false .Add (.var 6 0) (.int 1 0) 0)] 0 0 0 0) 0 0]
def row_4 : S := .for_ .ov [(.var 5 0)] (.nm 10 0) row_b4 0
def row_b5 : List S := [
    .asg (.nm 11 0) (.lst true [(.cal "_law_draw" [(.var 0 0), (.blt false .len [(.var 5 0)] 0 0)] 0 0), (.bin false .Mod (.var 4 0) (.blt false .len [(.var 5 0)] 0 0) 0), (.bin false .FloorDiv (.bin false .Mult (.var 4 0) (.blt false .len [(.var 5 0)] 0 0) 0) (.var 2 0) 0)] 0) 0,
    .exp (.mth false (.var 11 0) .append [(.bin false .Mult (.ix (.var 11 0) (.int 0 0) 0) (.blt false .int [(.cmp .Eq (.cal "_law_draw" [(.var 0 0), (.int 4 0)] 0 0) (.int 0 0) 0)] 0 0) 0)] 0 0) 0,
    .asg (.nm 10 0) (.ix (.var 5 0) (.ix (.var 11 0) (.var 7 0) 0) 0) 0,
    .exp (.mth false (.var 8 0) .append [(.tup [(.var 10 0), (.mth false (.ix (.var 9 0) (.var 10 0) 0) .pop [(.cal "_law_draw" [(.var 0 0), (.blt false .len [(.ix (.var 9 0) (.var 10 0) 0)] 0 0)] 0 0)] 0 0)] 0 0)] 0 0) 0]
def row_5 : S := .for_ (.rng 0 0) [(.var 2 0)] (.nm 4 0) row_b5 0
def row_6 : S := .ret (.var 8 0) 0
def std__law_row : Fn := ⟨2, ["_law_source_here", "_law_most", "_law_many", "_law_letters", "_law_step", "_law_signs", "_law_wide", "_law_style", "_law_found", "_law_left", "_law_sign", "_law_some"], [row_0, row_1, row_2, row_3, row_4, row_5, row_6]⟩
def std__law_equal : Fn := ⟨2, ["_law_result", "_law_expected", "_law_one", "_law_other"], [
  .ite (.isiT (.var 1 0) [(.list, 0), (.tuple, 0)] 0 0 0 0) [
    .ite (.or [(.not (.isiT (.var 0 0) [(.list, 0), (.tuple, 0)] 0 0 0 0) 0), (.cmp .NotEq (.blt false .len [(.var 0 0)] 0 0) (.blt false .len [(.var 1 0)] 0 0) 0)] 0) [
      .ret (.bl false 0) 0] [] 0,
    .ite (.cmp .NotEq (.isi (.var 0 0) .list 0 0 0) (.isi (.var 1 0) .list 0 0 0) 0) [
      .ret (.bl false 0) 0] [] 0,
    .ret (.blt false .all [(.lc false (.zip 0 0) [(.var 0 0), (.var 1 0)] (.tp [(.nm 2 0), (.nm 3 0)] 0 0) [] (.cal "_law_equal" [(.var 2 0), (.var 3 0)] 0 0) [] [("", 2), ("", 3)] 0)] 0 0) 0] [] 0,
  .ite (.or [(.isiT (.var 1 0) [(.bool, 0), (.str, 0)] 0 0 0 0), (.cmp .Is (.var 1 0) (.non 0) 0)] 0) [
    .ret (.and [(.cmp .Eq (.isi (.var 0 0) .bool 0 0 0) (.isi (.var 1 0) .bool 0 0 0) 0), (.cmp .Eq (.var 0 0) (.var 1 0) 0)] 0) 0] [] 0,
  .ret (.and [(.isi (.var 0 0) .int 0 0 0), (.not (.isi (.var 0 0) .bool 0 0 0) 0), (.cmp .Eq (.var 0 0) (.var 1 0) 0)] 0) 0]⟩
end Mini.Std

namespace Mini.Std
open PySem PySem.Spec PyProof.Rows L2 Mini
variable {gg : Str → Option PyData} {xx : Str → Option Nat} {T : Tab}
theorem gc_p {M M2 : Mem} {d : PyData} : gc M (.ok (.p d) (M ++ M2)) = .ok (.p d) M := by
  have h : gcOk M (.p d) (M ++ M2) := ⟨by unfold D.bd; rfl, fun i c hi e => by rw [List.getElem?_append_left hi] at e; exact .inl e⟩
  rw [show gc M (.ok (.p d) (M ++ M2)) = .ok (.p d) ((M ++ M2).take M.length) from if_pos h]
  simp
theorem gc_p0 {M : Mem} {d : PyData} : gc M (.ok (.p d) M) = .ok (.p d) M := by
  have := gc_p (M := M) (M2 := []) (d := d)
  simpa using this
theorem is_integer_ok [Has T "is_integer" std_is_integer] (k : Nat) (M : Mem) (i lo hi : Int) : callD gg xx T (k + 1) "is_integer" [.p (.int i), .p (.int lo), .p (.int hi)] M = .ok (.p (.bool (decide (lo ≤ i) && decide (i ≤ hi)))) M := by
  rw [call_has (F := std_is_integer) inferInstance rfl]
  have : outR (execB ⟨callD gg xx T k, gg⟩ xx std_is_integer.body (startD std_is_integer.N [.p (.int i), .p (.int lo), .p (.int hi)]) M) = .ok (.p (.bool (decide (lo ≤ i) && decide (i ≤ hi)))) M := by
    simp only [std_is_integer, execB, execS, evalE, evalAnd, startD, List.map, List.cons_append, List.nil_append, get0, getS, bind_ok, to_ok, then_next, then_ret, out_ret, isa_ii, isa_bi, ofO_some, truB, if_t, if_f, le_ii, Bool.not_false]
    by_cases h1 : lo ≤ i <;> by_cases h2 : i ≤ hi <;> simp [h1, h2, to_ok, then_ret, out_ret]
  rw [this, gc_p0]
theorem gc_len {M M' : Mem} {d : D} (h : M'.length ≤ M.length) : gc M (.ok d M') = .ok d M' := by
  by_cases g : gcOk M d M'
  · rw [show gc M (.ok d M') = .ok d (M'.take M.length) from if_pos g, List.take_of_length_le h]
  · exact if_neg g
theorem ix_ref {M : Mem} {m : Nat} {xs : List D} {k : Int} (h : M[m]? = some (.lst xs)) : ixD (.ref m) (.p (.int k)) M = (atI xs k).map fun d => (d, M) := by
  simp [ixD, celD, h, ixS, seqD]
theorem set_ref {M : Mem} {m : Nat} {xs : List D} {k : Int} {v : D} (h : M[m]? = some (.lst xs)) : setIt (.ref m) (.p (.int k)) v M = (ixN xs.length k).map fun j => M.set m (.lst (xs.set j v)) := by
  simp [setIt, celD, h, setItS, celL]
theorem mod_ii {c : Bool} {i j : Int} {M : Mem} (h : 0 < j) : binD c .Mod (.p (.int i)) (.p (.int j)) M = some (.p (.int (i % j)), M) := by
  simp [binD, modD, int2, h]
theorem fd_ii {c : Bool} {i j : Int} {M : Mem} (h : 0 < j) (h2 : j.natAbs.log2 < 9000) : binD c .FloorDiv (.p (.int i)) (.p (.int j)) M = some (.p (.int (i / j)), M) := by
  simp [binD, fdivD, int2, h, h2]
/-- the pool of draws: a cell of three numbers -/
def Pool (n m : Nat) (M : Mem) : Prop := ∃ a b c : Int, M[m]? = some (.lst [.p (.int a), .p (.int b), .p (.int c)]) ∧ 0 ≤ a ∧ 0 ≤ b ∧ b < 10 ^ 40 ∧ 0 ≤ c ∧ c ≤ n
theorem at0 {a b c : D} : atI [a, b, c] 0 = some a := rfl
theorem at1 {a b c : D} : atI [a, b, c] 1 = some b := rfl
theorem at2 {a b c : D} : atI [a, b, c] 2 = some c := rfl
theorem ixn0 : ixN 3 0 = some 0 := rfl
theorem ixn2 : ixN 3 2 = some 2 := rfl
theorem draw_pos [Has T "_law_draw" std__law_draw] (k : Nat) {n m : Nat} {M : Mem} {a b c cnt : Int} (h : M[m]? = some (.lst [.p (.int a), .p (.int b), .p (.int c)])) (ha : 0 < a) (hc : 0 < cnt) (hs : cnt.natAbs.log2 < 9000) :
    callD gg xx T (k + 1) "_law_draw" [.ref m, .p (.int cnt)] M = .ok (.p (.int (a % cnt))) (M.set m (.lst [.p (.int (a / cnt)), .p (.int b), .p (.int c)])) := by
  rw [call_has (F := std__law_draw) inferInstance rfl]
  have : outR (execB ⟨callD gg xx T k, gg⟩ xx std__law_draw.body (startD std__law_draw.N [.ref m, .p (.int cnt)]) M) = .ok (.p (.int (a % cnt))) (M.set m (.lst [.p (.int (a / cnt)), .p (.int b), .p (.int c)])) := by
    simp [std__law_draw, execB, execS, evalE, startD, get0, getS, bind_ok, to_ok, then_next, then_ret, out_ret, ofO_some, truB, ix_ref h, set_ref h, at0, at1, at2, ixn0, gt_ii, ha, mod_ii hc, fd_ii hc hs, setT]
  rw [this, gc_len (by simp)]
theorem bits_le (x : Int) : Builtin.Int.intBits x ≤ x.natAbs.log2 + 1 := by
  unfold Builtin.Int.intBits
  split <;> omega
theorem bits_small {x : Int} {n : Nat} (h0 : 0 ≤ x) (h : x < 2 ^ n) : Builtin.Int.intBits x ≤ n + 1 := by
  have h1 := bits_le x
  by_cases hx : x.natAbs = 0
  · rw [hx] at h1
    have : Nat.log2 0 = 0 := by decide
    omega
  · have : x.natAbs.log2 < n := (Nat.log2_lt hx).mpr (by
      have : (x.natAbs : Int) < ((2 ^ n : Nat) : Int) := by
        rw [Int.natAbs_of_nonneg h0]
        push_cast
        exact h
      exact_mod_cast this)
    omega
theorem pow_ii {c : Bool} {i j : Int} {M : Mem} (h : 0 ≤ j) (h2 : (Builtin.Int.intBits i : Int) * j ≤ 2 ^ 27) : binD c .Pow (.p (.int i)) (.p (.int j)) M = some (.p (.int (i ^ j.toNat)), M) := by
  simp only [binD, powD, int2, if_pos (And.intro h h2), Option.map_some]
theorem mu_ii {c : Bool} {i j : Int} {M : Mem} (h : i.natAbs.log2 + j.natAbs.log2 < 1000000) : binD c .Mult (.p (.int i)) (.p (.int j)) M = some (.p (.int (i * j)), M) := by
  simp [binD, mulD, h]
theorem log_small {x : Int} {n : Nat} (h0 : 0 ≤ x) (h : x < 2 ^ n) : x.natAbs.log2 ≤ n := by
  by_cases hx : x.natAbs = 0
  · rw [hx]
    have : Nat.log2 0 = 0 := by decide
    omega
  · have : x.natAbs.log2 < n := (Nat.log2_lt hx).mpr (by
      have : (x.natAbs : Int) < ((2 ^ n : Nat) : Int) := by
        rw [Int.natAbs_of_nonneg h0]
        push_cast
        exact h
      exact_mod_cast this)
    omega
theorem s4_2 {p : Nat} {x : D} {a b c d : Option D} : setT (.nm 2 p) x [a, b, c, d] = some [a, b, some x, d] := rfl
theorem s4_3 {p : Nat} {x : D} {a b c d : Option D} : setT (.nm 3 p) x [a, b, c, d] = some [a, b, c, some x] := rfl
theorem set2 {a b c d : D} : [a, b, c].set 2 d = [a, b, d] := rfl
theorem setT_nm {i p : Nat} {d : D} {l : Lo} (h : i < l.length) : setT (.nm i p) d l = some (l.set i (some d)) := by simp [setT, h]
def mixed (b c : Int) : Int := ((b + 940031 * c) ^ 3 % (10 ^ 37 + 43) + 79 * c) ^ 3 % (10 ^ 38 + 133)
theorem draw_zero [Has T "_law_draw" std__law_draw] (k : Nat) {n m : Nat} {M : Mem} {a b c cnt : Int} (h : M[m]? = some (.lst [.p (.int a), .p (.int b), .p (.int c)])) (ha : ¬ 0 < a) (hc : 0 < cnt) (b0 : 0 ≤ b) (b1 : b < 10 ^ 40) (c0 : 0 ≤ c) (c1 : c ≤ 10 ^ 12) :
    callD gg xx T (k + 1) "_law_draw" [.ref m, .p (.int cnt)] M = .ok (.p (.int (mixed b (c + 1) / 65629 % cnt))) (M.set m (.lst [.p (.int a), .p (.int b), .p (.int (c + 1))])) := by
  rw [call_has (F := std__law_draw) inferInstance rfl]
  have hm : m < M.length := (List.getElem?_eq_some_iff.mp h).1
  have h' : (M.set m (.lst [.p (.int a), .p (.int b), .p (.int (c + 1))]))[m]? = some (.lst [.p (.int a), .p (.int b), .p (.int (c + 1))]) := by rw [List.getElem?_set_self hm]
  have e1 : ∀ M : Mem, binD false .Mult (.p (.int 940031)) (.p (.int (c + 1))) M = some (.p (.int (940031 * (c + 1))), M) := fun M => mu_ii (by
    have h1 : (c + 1).natAbs.log2 ≤ 50 := log_small (by omega) (by omega)
    have h2 : (940031 : Int).natAbs.log2 ≤ 50 := log_small (by omega) (by omega)
    omega)
  have e2 : ∀ M : Mem, binD false .Mult (.p (.int 79)) (.p (.int (c + 1))) M = some (.p (.int (79 * (c + 1))), M) := fun M => mu_ii (by
    have h1 : (c + 1).natAbs.log2 ≤ 50 := log_small (by omega) (by omega)
    have h2 : (79 : Int).natAbs.log2 ≤ 50 := log_small (by omega) (by omega)
    omega)
  have cube : ∀ (x : Int) (M : Mem), 0 ≤ x → x < 2 ^ 200 → binD false .Pow (.p (.int x)) (.p (.int 3)) M = some (.p (.int (x ^ 3)), M) := fun x M x0 x1 => by
    have := bits_small x0 x1
    refine (pow_ii (by decide) ?_).trans rfl
    omega
  have t37 : ∀ M : Mem, binD false .Pow (.p (.int 10)) (.p (.int 37)) M = some (.p (.int (10 ^ 37)), M) := fun M => pow_ii (by decide) (by decide)
  have t38 : ∀ M : Mem, binD false .Pow (.p (.int 10)) (.p (.int 38)) M = some (.p (.int (10 ^ 38)), M) := fun M => pow_ii (by decide) (by decide)
  have m0 : 0 ≤ (b + 940031 * (c + 1)) ^ 3 % (10 ^ 37 + 43) := Int.emod_nonneg _ (by decide)
  have m1 : (b + 940031 * (c + 1)) ^ 3 % (10 ^ 37 + 43) < 10 ^ 37 + 43 := Int.emod_lt_of_pos _ (by decide)
  have : outR (execB ⟨callD gg xx T k, gg⟩ xx std__law_draw.body (startD std__law_draw.N [.ref m, .p (.int cnt)]) M) = .ok (.p (.int (mixed b (c + 1) / 65629 % cnt))) (M.set m (.lst [.p (.int a), .p (.int b), .p (.int (c + 1))])) := by
    have f1 := fun M => cube (b + 940031 * (c + 1)) M (by omega) (by omega)
    have f2 := fun M => cube ((b + 940031 * (c + 1)) ^ 3 % (10 ^ 37 + 43) + 79 * (c + 1)) M (by omega) (by omega)
    have g1 : ∀ (x : Int) (M : Mem), binD false .Mod (.p (.int x)) (.p (.int (10 ^ 37 + 43))) M = some (.p (.int (x % (10 ^ 37 + 43))), M) := fun x M => mod_ii (by decide)
    have g2 : ∀ (x : Int) (M : Mem), binD false .Mod (.p (.int x)) (.p (.int (10 ^ 38 + 133))) M = some (.p (.int (x % (10 ^ 38 + 133))), M) := fun x M => mod_ii (by decide)
    have g3 : ∀ (x : Int) (M : Mem), binD false .FloorDiv (.p (.int x)) (.p (.int 65629)) M = some (.p (.int (x / 65629)), M) := fun x M => fd_ii (by decide) (by decide)
    have g4 : ∀ (x : Int) (M : Mem), binD false .Mod (.p (.int x)) (.p (.int cnt)) M = some (.p (.int (x % cnt)), M) := fun x M => mod_ii hc
    simp only [std__law_draw, execB, execS, evalE, startD, List.map, List.cons_append, List.nil_append, List.length_cons, List.length_nil, List.replicate, Nat.reduceAdd, Nat.reduceSub, get0, getS, bind_ok, to_ok, then_next, then_ret, out_ret, ofO_some, truB, ix_ref h, ix_ref h', set_ref h, at0, at1, at2, ixn2, set2, gt_ii, ad_ii, ha, decide_false, if_f, Option.map_some, e1, e2, t37, t38, f1, f2, g1, g2, g3, g4, s4_2, s4_3]
    first | rfl | (simp [mixed, then_ret, out_ret]; done)
  rw [this, gc_len (by simp)]
/-- M2 is M, but the pool at m has been drawn from -/
def Drawn (n m : Nat) (M M2 : Mem) : Prop := ∃ a b c : Int, M2 = M.set m (.lst [.p (.int a), .p (.int b), .p (.int c)]) ∧ 0 ≤ a ∧ 0 ≤ b ∧ b < 10 ^ 40 ∧ 0 ≤ c ∧ c ≤ n
theorem Drawn.pool {n m : Nat} {M M2 : Mem} (hm : m < M.length) (d : Drawn n m M M2) : Pool n m M2 := by
  obtain ⟨a, b, c, rfl, r⟩ := d
  exact ⟨a, b, c, by rw [List.getElem?_set_self hm], r⟩
theorem Pool.lt {n m : Nat} {M : Mem} (p : Pool n m M) : m < M.length := by
  obtain ⟨a, b, c, h, _⟩ := p
  exact (List.getElem?_eq_some_iff.mp h).1
theorem draw_ok [Has T "_law_draw" std__law_draw] (k : Nat) {n m : Nat} {M : Mem} {cnt : Int} (p : Pool n m M) (hn : n ≤ 10 ^ 12) (hc : 0 < cnt) (hs : cnt < 2 ^ 60) :
    ∃ (r : Int) (M2 : Mem), callD gg xx T (k + 1) "_law_draw" [.ref m, .p (.int cnt)] M = .ok (.p (.int r)) M2 ∧ 0 ≤ r ∧ r < cnt ∧ Drawn (n + 1) m M M2 := by
  obtain ⟨a, b, c, h, a0, b0, b1, c0, c1⟩ := p
  by_cases ha : 0 < a
  · refine ⟨_, _, draw_pos k (n := n) h ha hc (by have := log_small (n := 60) (by omega : 0 ≤ cnt) hs; omega), Int.emod_nonneg _ (by omega), Int.emod_lt_of_pos _ hc, _, _, _, rfl, Int.ediv_nonneg a0 (by omega), b0, b1, c0, by push_cast; omega⟩
  · have cn : c ≤ 10 ^ 12 := by
      have : (n : Int) ≤ 10 ^ 12 := by exact_mod_cast hn
      omega
    exact ⟨_, _, draw_zero k (n := n) h ha hc b0 b1 c0 cn, Int.emod_nonneg _ (by omega), Int.emod_lt_of_pos _ hc, _, _, _, rfl, a0, b0, b1, by omega, by push_cast; omega⟩
theorem gc_no {M M' : Mem} {d : D} (h : d.bd M.length = false) : gc M (.ok d M') = .ok d M' := if_neg fun g => by have := g.1; rw [h] at this; cases this
theorem max_ii {c : Bool} {i j : Int} {M : Mem} : bltD c .max [.p (.int i), .p (.int j)] M = some (.p (.int (if j > i then j else i)), M) := rfl
theorem min_ii {c : Bool} {i j : Int} {M : Mem} : bltD c .min [.p (.int i), .p (.int j)] M = some (.p (.int (if j < i then j else i)), M) := rfl
theorem source_ok [Has T "_law_source" std__law_source] (k : Nat) (M : Mem) {cell kk : Int} (h0 : 0 ≤ kk) (h1 : kk ≤ 100) : ∃ M2, callD gg xx T (k + 1) "_law_source" [.p (.int cell), .p (.int kk)] M = .ok (.ref M.length) (M ++ [M2]) ∧ Pool 0 M.length (M ++ [M2]) := by
  have e1 : ∀ M : Mem, binD false .Pow (.p (.int 10)) (.p (.int 18)) M = some (.p (.int (10 ^ 18)), M) := fun M => pow_ii (by decide) (by decide)
  have e2 : ∀ M : Mem, binD false .Pow (.p (.int 10)) (.p (.int 34)) M = some (.p (.int (10 ^ 34)), M) := fun M => pow_ii (by decide) (by decide)
  have e3 : ∀ (x : Int) (M : Mem), binD false .Mod (.p (.int x)) (.p (.int (10 ^ 34 + 193))) M = some (.p (.int (x % (10 ^ 34 + 193))), M) := fun x M => mod_ii (by decide)
  have m0 : 0 ≤ cell % (10 ^ 34 + 193) := Int.emod_nonneg _ (by decide)
  have m1 : cell % (10 ^ 34 + 193) < 10 ^ 34 + 193 := Int.emod_lt_of_pos _ (by decide)
  have e4 : ∀ M : Mem, binD false .Mult (.p (.int (cell % (10 ^ 34 + 193)))) (.p (.int 101)) M = some (.p (.int (cell % (10 ^ 34 + 193) * 101)), M) := fun M => mu_ii (by
    have h1 := log_small (n := 200) m0 (by omega)
    have h2 : (101 : Int).natAbs.log2 ≤ 50 := log_small (by omega) (by omega)
    omega)
  have body : outR (execB ⟨callD gg xx T k, gg⟩ xx std__law_source.body (startD std__law_source.N [.p (.int cell), .p (.int kk)]) M) = .ok (.ref M.length) (M ++ [.lst [.p (.int (if cell - 10 ^ 18 > 0 then cell - 10 ^ 18 else 0)), .p (.int (cell % (10 ^ 34 + 193) * 101 + kk)), .p (.int 0)]]) := by
    simp only [std__law_source, execB, execS, evalE, evalA, startD, List.map, List.cons_append, List.nil_append, List.length_cons, List.length_nil, List.replicate, Nat.reduceAdd, Nat.reduceSub, get0, getS, bind_ok, to_ok, then_next, then_ret, out_ret, ofO_some, max_ii, su_ii, ad_ii, e1, e2, e3, e4]
    rfl
  refine ⟨.lst [.p (.int (if cell - 10 ^ 18 > 0 then cell - 10 ^ 18 else 0)), .p (.int (cell % (10 ^ 34 + 193) * 101 + kk)), .p (.int 0)], ?_, (if cell - 10 ^ 18 > 0 then cell - 10 ^ 18 else 0), (cell % (10 ^ 34 + 193) * 101 + kk), 0, by simp, ?_, by omega, by omega, Int.le_refl _, Int.le_refl _⟩
  · rw [call_has (F := std__law_source) inferInstance rfl, body, gc_no (by simp [D.bd])]
  · split <;> omega
end Mini.Std

namespace Mini.Std
open PySem PySem.Spec PyProof.Rows L2 Mini
variable {gg : Str → Option PyData} {xx : Str → Option Nat} {T : Tab} {cc : Bool}
theorem eq_ii {i j : Int} {M : Mem} : cmpD .Eq (.p (.int i)) (.p (.int j)) M = some (.p (.bool (decide (i = j))), M) := by
  have e : cmpD .Eq (.p (.int i)) (.p (.int j)) M = (eqP (.int i) (.int j)).map fun k => (.p (.bool k), M) := rfl
  rw [e]
  unfold eqP
  rw [if_pos (by rfl)]
  simp [PyData.eqv]
  by_cases h : i = j <;> simp [h]
theorem ne_ii {i j : Int} {M : Mem} : cmpD .NotEq (.p (.int i)) (.p (.int j)) M = some (.p (.bool (!decide (i = j))), M) := by
  have e : cmpD .NotEq (.p (.int i)) (.p (.int j)) M = ((eqP (.int i) (.int j)).map (!·)).map fun k => (.p (.bool k), M) := rfl
  rw [e]
  unfold eqP
  rw [if_pos (by rfl)]
  simp [PyData.eqv]
  by_cases h : i = j <;> simp [h]
def sign (c : Nat) : Str := ⟨#[c]⟩
def letters : Str := "abcdefghijklmnopqrstuvwxyz"
theorem in_letters {c : Nat} (h1 : 97 ≤ c) (h2 : c ≤ 122) {M : Mem} : cmpD .In (.p (.str (sign c))) (.p (.str letters)) M = some (.p (.bool true), M) := by
  have key : ((List.range 26).all fun i => !(Builtin.Str.occurrences letters (sign (97 + i)) 0 letters.length 1).isEmpty) = true := by decide +kernel
  have := List.all_eq_true.mp key (c - 97) (List.mem_range.mpr (by omega))
  rw [show 97 + (c - 97) = c by omega] at this
  have e : cmpD .In (.p (.str (sign c))) (.p (.str letters)) M = (inP (.str (sign c)) (.str letters)).map fun k => (.p (.bool k), M) := rfl
  rw [e]
  unfold inP
  simp only [this]
  rfl
/-- an item of an order -/
def item (x : Nat × Int) : PyData := .tuple [.str (sign x.1), .int x.2]
def ItOk (x : Nat × Int) : Prop := 97 ≤ x.1 ∧ x.1 ≤ 122 ∧ 1 ≤ x.2 ∧ x.2 ≤ 99
theorem len_t2 {a b : PyData} {c : Bool} {M : Mem} : bltD c .len [.p (.tuple [a, b])] M = some (.p (.int 2), M) := rfl
theorem len_s1 {c : Nat} {b : Bool} {M : Mem} : bltD b .len [.p (.str (sign c))] M = some (.p (.int 1), M) := by
  have e : bltD b .len [.p (.str (sign c))] M = (lenS (.p (.str (sign c))) M).map fun n => (.p (.int n), M) := rfl
  rw [e]
  unfold lenS
  simp only []
  rw [if_pos (show (sign c).length ≤ sizeLine by show 1 ≤ sizeLine; decide)]
  rfl
theorem t2_0 {a b : PyData} {M : Mem} : ixD (.p (.tuple [a, b])) (.p (.int 0)) M = some (.p a, M) := rfl
theorem t2_1 {a b : PyData} {M : Mem} : ixD (.p (.tuple [a, b])) (.p (.int 1)) M = some (.p b, M) := rfl
theorem gl_eq {y : Str} {d : PyData} [h : Gl gg y d] : gg y = some d := h.eq
theorem is_item_ok [Has T "is_item" std_is_item] [Has T "is_integer" std_is_integer] [Gl gg "LETTERS" (.str letters)] [Gl gg "MOST_NUMBER" (.int 99)] (k : Nat) (M : Mem) {x : Nat × Int} (h : ItOk x) : callD gg xx T (k + 2) "is_item" [.p (item x)] M = .ok (.p (.bool true)) M := by
  obtain ⟨c, n⟩ := x
  obtain ⟨h1, h2, h3, h4⟩ := h
  have h1 : 97 ≤ c := h1
  have h2 : c ≤ 122 := h2
  have h3 : 1 ≤ n := h3
  have h4 : n ≤ 99 := h4
  rw [call_has (F := std_is_item) inferInstance rfl]
  have body : outR (execB ⟨callD gg xx T (k + 1), gg⟩ xx std_is_item.body (startD std_is_item.N [.p (item (c, n))]) M) = .ok (.p (.bool true)) M := by
    simp only [item, std_is_item, execB, execS, evalE, evalA, evalAnd, evalOr, startD, List.map, List.cons_append, List.nil_append, List.length_cons, List.length_nil, List.replicate, Nat.reduceAdd, Nat.reduceSub, get0, getS, bind_ok, to_ok, then_next, then_ret, out_ret, ofO_some, truB, isa_tt, isa_ss, len_t2, len_s1, t2_0, t2_1, ne_ii, eq_ii, Bool.not_true, Bool.not_false, if_t, if_f, decide_true, in_letters h1 h2, gl_eq (gg := gg), is_integer_ok k, h3, h4, Bool.and_self, if_true]
  rw [body, gc_p0]
theorem stays_one {x : D} {xs : List D} {M : Mem} (h : seqOrTup M x = some xs) : stays [(x, xs)] M = true := by
  unfold stays
  refine @decide_eq_true _ (_) fun z hz => ?_
  have hz : z = (x, xs) := by simpa using hz
  unfold seqOrTup at h
  rw [hz]
  show seqD M x = some xs ∨ (seqD M x = none ∧ tupD x = some xs)
  cases e : seqD M x with
  | some ys => rw [e] at h; exact .inl h
  | none => rw [e] at h; exact .inr ⟨rfl, h⟩
/-- a comprehension whose turns leave the memory as it is -/
theorem lcL_pure {w : Wk} {body : D → Mem → R (Option D)} {r : D → Option D} {M : Mem} (hs : stays w M = true) : ∀ {ds : List D}, (∀ d ∈ ds, body d M = .ok (r d) M) → lcL w body ds M = .ok (ds.filterMap r) M
  | [], _ => by simp [lcL, hs]
  | d :: ds, h => by
    simp only [lcL, hs, if_true, h d List.mem_cons_self, R.bind, lcL_pure hs fun e he => h e (List.mem_cons_of_mem _ he)]
    cases e : r d <;> simp [List.filterMap_cons, e]
theorem walk_seq {o : D} {xs : List D} {M : Mem} (h : seqD M o = some xs) : walkR .ov [o] M = .ok (xs, [(o, xs)]) M := by
  have e : walkD .ov [o] M = some (xs, [(o, xs)]) := by
    have g : (seqOrTup M o).map (fun ys => (ys, [(o, ys)])) = some (xs, [(o, xs)]) := by simp [seqOrTup, h]
    cases o with
    | tr ds => cases h
    | ref m => exact g
    | p d => cases d with
      | str z => cases h
      | _ => exact g
  unfold walkR
  rw [e]
theorem sign_inj {a b : Nat} : sign a = sign b ↔ a = b := by
  constructor
  · intro h
    unfold sign at h
    injection h with h
    simpa using h
  · intro h; rw [h]
theorem eq_ss {a b : Str} {M : Mem} : cmpD .Eq (.p (.str a)) (.p (.str b)) M = some (.p (.bool (decide (a = b))), M) := by
  have e : cmpD .Eq (.p (.str a)) (.p (.str b)) M = (eqP (.str a) (.str b)).map fun k => (.p (.bool k), M) := rfl
  rw [e]
  unfold eqP
  rw [if_pos (by rfl)]
  simp [PyData.eqv]
  by_cases h : a = b <;> simp [h]
def row (xs : List (Nat × Int)) : List D := xs.map fun x => .p (item x)
theorem gc_new {M : Mem} {c : Cell} : gc M (.ok (.ref M.length) (M ++ [c])) = .ok (.ref M.length) (M ++ [c]) := gc_no (by simp [D.bd])
/-- a list is given: a new cell, or data -/
def giv (c : Bool) (ys : List PyData) (M : Mem) : R D := if c = true then .ok (.ref M.length) (M ++ [.lst (ys.map .p)]) else .ok (.p (.list ys)) M
theorem giv_t {ys : List PyData} {M : Mem} : giv true ys M = .ok (.ref M.length) (M ++ [.lst (ys.map .p)]) := rfl
theorem giv_f {ys : List PyData} {M : Mem} : giv false ys M = .ok (.p (.list ys)) M := rfl
theorem giv_al {c : Bool} {ys : List PyData} {M : Mem} : ofO (al c (ys.map .p) M) = giv c ys M := by
  unfold giv al
  cases c
  · rw [if_neg (by decide), if_neg (by decide), Mini.pAll_map]; rfl
  · rfl
theorem gc_giv {c : Bool} {ys : List PyData} {M : Mem} : gc M (giv c ys M) = giv c ys M := by
  cases c
  · exact gc_p0
  · exact gc_new
theorem to_giv {c : Bool} {ys : List PyData} {M : Mem} {l : Lo} : outR (((giv c ys M).to l fun d M1 => .ret d M1).andThen fun l1 M1 => .next l1 M1) = giv c ys M := by
  cases c <;> rfl
theorem row_eq (xs : List (Nat × Int)) : row xs = (xs.map item).map .p := by rw [List.map_map]; rfl
theorem view_in_ok [Has T "view_in" (std_view_in cc)] (k : Nat) {o : D} {xs : List (Nat × Int)} {c : Nat} {M : Mem} (h : seqD M o = some (row xs)) (hl : xs.length ≤ 100) :
    callD gg xx T (k + 1) "view_in" [o, .p (.str (sign c))] M = giv cc ((xs.filter fun x => x.1 = c).map item) M := by
  rw [call_has (F := std_view_in cc) inferInstance rfl]
  have turn : ∀ d ∈ row xs, lcB (evalTs ⟨callD gg xx T k, gg⟩ [.cmp .Eq (.ix (.var 2 0) (.int 0 0) 0) (.var 1 0) 0]) (evalE ⟨callD gg xx T k, gg⟩ (.var 2 0)) (.nm 2 0) [2] [some o, some (.p (.str (sign c))), none] d M = .ok (match d with
      | .p (.tuple (.str s :: _)) => if s = sign c then some d else none
      | _ => none) M := by
    intro d hd
    obtain ⟨x, _, rfl⟩ := List.mem_map.mp hd
    simp only [lcB, wipeL, List.set_cons_succ, List.set_cons_zero, item]
    show (R.calm (evalTs _ _ [some o, some (.p (.str (sign c))), some (.p (.tuple [.str (sign x.1), .int x.2]))] M)).bind _ = _
    simp only [evalTs, evalE, get0, getS, bind_ok, ofO_some, t2_0, eq_ss, truB, R.calm]
    by_cases e : sign x.1 = sign c
    · simp [e, evalE, get0, getS, bind_ok, R.calm]
    · simp [e]
  have fm : ∀ xs : List (Nat × Int), (row xs).filterMap (fun d => match d with
      | .p (.tuple (.str s :: _)) => if s = sign c then some d else none
      | _ => none) = row (xs.filter fun x => x.1 = c) := by
    intro xs
    induction xs with
    | nil => rfl
    | cons x xs ih =>
      simp only [row, item] at ih ⊢
      rw [List.map_cons, List.filterMap_cons]
      simp only [sign_inj]
      by_cases e : x.1 = c
      · simp only [e, if_true, List.filter_cons, decide_true, List.map_cons]
        rw [ih]
      · simp only [e, if_false, List.filter_cons, decide_false, Bool.false_eq_true]
        exact ih
  have run := lcL_pure (stays_one (x := o) (xs := row xs) (M := M) (by simp [seqOrTup, h])) turn
  rw [fm] at run
  simp only [evalE] at run
  have small : (row (xs.filter fun x => x.1 = c)).length ≤ sizeLine := by
    have := List.length_filter_le (fun x : Nat × Int => decide (x.1 = c)) xs
    unfold row
    rw [List.length_map, sizeLine_eq]
    omega
  have body : outR (execB ⟨callD gg xx T k, gg⟩ xx (std_view_in cc).body (startD (std_view_in cc).N [o, .p (.str (sign c))]) M) = giv cc ((xs.filter fun x => x.1 = c).map item) M := by
    simp only [std_view_in, execB, execS, evalE, evalA, startD, List.map, List.cons_append, List.nil_append, List.length_cons, List.length_nil, List.replicate, Nat.reduceAdd, Nat.reduceSub, get0, getS, bind_ok, walk_seq h, run, finL, if_pos small]
    rw [row_eq, giv_al, to_giv]
  rw [body, gc_giv]
def tagKeys (xs : List (Nat × Int)) : List Key := xs.map fun x => .inr (sign x.1)
/-- the tags of a row, sorted -/
def tagsL (xs : List (Nat × Int)) : List PyData := (sortK (dedupK (tagKeys xs))).map kD
def tagsOf (xs : List (Nat × Int)) : PyData := .list (tagsL xs)
theorem keys_tags : ∀ xs : List (Nat × Int), keysD (xs.map fun x => D.p (.str (sign x.1))) = some (tagKeys xs)
  | [] => rfl
  | x :: xs => by
    rw [List.map_cons]
    unfold keysD
    rw [keys_tags xs]
    rfl
theorem same_right {ks : List Key} (h : ∀ k ∈ ks, k.isRight = true) : sameK ks = true := by
  unfold sameK
  rw [Bool.or_eq_true, List.all_eq_true, List.all_eq_true]
  exact .inr h
theorem withK_mem {ks : List Key} {k x : Key} : x ∈ withK ks k ↔ x ∈ ks ∨ x = k := by
  unfold withK
  split
  · rename_i h
    exact ⟨.inl, fun z => z.elim id fun e => e ▸ h⟩
  · simp
theorem dedupK_mem {ks : List Key} {x : Key} : x ∈ dedupK ks ↔ x ∈ ks := by
  unfold dedupK
  have key : ∀ (ks acc : List Key), x ∈ ks.foldl withK acc ↔ x ∈ acc ∨ x ∈ ks := by
    intro ks
    induction ks with
    | nil => intro acc; simp
    | cons k ks ih =>
      intro acc
      rw [List.foldl_cons, ih, withK_mem, List.mem_cons]
      constructor
      · rintro ((h | h) | h)
        · exact .inl h
        · exact .inr (.inl h)
        · exact .inr (.inr h)
      · rintro (h | h | h)
        · exact .inl (.inl h)
        · exact .inl (.inr h)
        · exact .inr h
  simpa using key ks []
theorem pAll_map {α : Type} {f : α → PyData} : ∀ xs : List α, pAll (xs.map fun x => D.p (f x)) = some (xs.map f)
  | [] => rfl
  | x :: xs => by
    rw [List.map_cons]
    unfold pAll
    rw [pAll_map xs]
    rfl
theorem sort_tags (c : Bool) (xs : List (Nat × Int)) (M : Mem) : ofO (sortX c (tagKeys xs) M) = giv c (tagsL xs) M := by
  unfold sortX
  have : sameK (dedupK (tagKeys xs)) = true := same_right fun k hk => by
    rw [dedupK_mem] at hk
    obtain ⟨x, _, rfl⟩ := List.mem_map.mp hk
    rfl
  rw [if_pos this, ← giv_al]
  unfold tagsL
  rw [List.map_map]
  rfl
theorem tags_in_ok [Has T "tags_in" (std_tags_in cc)] (k : Nat) {o : D} {xs : List (Nat × Int)} {M : Mem} (h : seqD M o = some (row xs)) (hl : xs.length ≤ 100) : callD gg xx T (k + 1) "tags_in" [o] M = giv cc (tagsL xs) M := by
  rw [call_has (F := std_tags_in cc) inferInstance rfl]
  have turn : ∀ d ∈ row xs, lcB (evalTs ⟨callD gg xx T k, gg⟩ []) (fun l M => keyE (evalE ⟨callD gg xx T k, gg⟩ (.var 1 0) l M)) (.tp [.nm 1 0, .nm 2 0] 0 0) [1, 2] [some o, none, none] d M = .ok (match d with
      | .p (.tuple (.str s :: _)) => some (.p (.str s))
      | _ => none) M := by
    intro d hd
    obtain ⟨x, _, rfl⟩ := List.mem_map.mp hd
    rfl
  have fm : ∀ xs : List (Nat × Int), (row xs).filterMap (fun d => match d with
      | .p (.tuple (.str s :: _)) => some (D.p (.str s))
      | _ => none) = xs.map fun x => D.p (.str (sign x.1)) := by
    intro xs
    induction xs with
    | nil => rfl
    | cons x xs ih => exact congrArg (List.cons _) ih
  have run := lcL_pure (stays_one (x := o) (xs := row xs) (M := M) (by simp [seqOrTup, h])) turn
  rw [fm] at run
  simp only [evalE] at run
  have small : (row xs).length + 1 < scanBound := by
    unfold row scanBound
    rw [List.length_map]
    omega
  have body : outR (execB ⟨callD gg xx T k, gg⟩ xx (std_tags_in cc).body (startD (std_tags_in cc).N [o]) M) = giv cc (tagsL xs) M := by
    simp only [std_tags_in, execB, execS, evalE, evalA, startD, List.map, List.cons_append, List.nil_append, List.length_cons, List.length_nil, List.replicate, Nat.reduceAdd, Nat.reduceSub, get0, getS, bind_ok, walk_seq h, if_pos small, run, keys_tags, sort_tags, to_giv]
  rw [body, gc_giv]
end Mini.Std

namespace Mini.Std
open PySem PySem.Spec PyProof.Rows L2 Mini
variable {gg : Str → Option PyData} {xx : Str → Option Nat} {T : Tab} {cc : Bool}
def tk (x : Nat × Int) : List Key := [.inr (sign x.1), .inl x.2]
theorem tups_row : ∀ xs : List (Nat × Int), tupsD (row xs) = some (xs.map tk)
  | [] => rfl
  | x :: xs => by
    show tupsD (.p (item x) :: row xs) = _
    unfold tupsD item
    simp only []
    rw [tups_row xs]
    rfl
theorem fold_new {κ : Type} [DecidableEq κ] : ∀ (ks acc : List κ), (acc ++ ks).Nodup → ks.foldl withK acc = acc ++ ks
  | [], acc, _ => by simp
  | k :: ks, acc, h => by
    have hk : k ∉ acc := fun z => by
      rw [List.nodup_append] at h
      exact h.2.2 k z k List.mem_cons_self rfl
    have e : withK acc k = acc ++ [k] := if_neg hk
    rw [List.foldl_cons, e, fold_new ks (acc ++ [k]) (by rw [List.append_assoc]; exact h), List.append_assoc]
    rfl
theorem dedupT_new {ks : List (List Key)} (h : ks.Nodup) : dedupT ks = ks := by
  have := fold_new ks [] (by simpa using h)
  exact this
theorem tk_inj {x y : Nat × Int} (h : tk x = tk y) : x = y := by
  unfold tk at h
  injection h with h1 h2
  injection h1 with h1
  injection h2 with h2 _
  injection h2 with h2
  exact Prod.ext (sign_inj.mp h1) h2
theorem nst_row {o : D} {xs : List (Nat × Int)} {M : Mem} (h : seqD M o = some (row xs)) (h0 : xs ≠ []) (hl : xs.length < 63) (nd : xs.Nodup) : nstD o M = some (.p (.int xs.length), M) := by
  have w : walkKD o M = none := by
    have kn : keysD (row xs) = none := by
      cases xs with
      | nil => exact absurd rfl h0
      | cons x xs => rfl
    cases o with
    | tr ds => cases h
    | ref m => unfold walkKD; simp only [h]; exact kn
    | p d => cases d with
      | str z => cases h
      | _ => unfold walkKD; simp only [h]; exact kn
  have e : nstD o M = nstT o M := if_neg (by rw [w]; simp)
  rw [e]
  unfold nstT
  have nt : (xs.map tk).Nodup := List.pairwise_map.mpr (nd.imp fun hne e => hne (tk_inj e))
  simp only [h, tups_row, List.length_map, dedupT_new nt, if_pos hl]
theorem isa_seq {o : D} {xs : List D} {M : Mem} (h : seqD M o = some xs) : isaP .list o M = some true := by
  cases o with
  | tr ds => cases h
  | p d => cases d with
    | list ys => rfl
    | _ => cases h
  | ref m =>
    unfold seqD at h
    unfold isaP tyD
    simp only at h ⊢
    cases e : M[m]? with
    | none => rw [e] at h; cases h
    | some c => cases c with
      | lst ys => rfl
      | dct _ => rw [e] at h; cases h
      | dead => rw [e] at h; cases h
theorem cel_seq {o : D} {xs : List D} {M : Mem} (h : seqD M o = some xs) : celD o M = none := by
  cases o with
  | tr ds => rfl
  | p d => rfl
  | ref m =>
    unfold seqD at h
    unfold celD
    simp only at h ⊢
    cases e : M[m]? with
    | none => rfl
    | some c => cases c with
      | lst ys => rfl
      | dct _ => rw [e] at h; cases h
      | dead => rfl
theorem len_seq {o : D} {xs : List D} {c : Bool} {M : Mem} (h : seqD M o = some xs) : bltD c .len [o] M = some (.p (.int xs.length), M) := by
  simp only [bltD, one1, bLen, lenD, cel_seq h]
  unfold lenS
  cases o with
  | tr ds => cases h
  | p d => cases d with
    | list ys => simp only [h]; rfl
    | _ => cases h
  | ref m => simp only [h]; rfl
theorem bools_true : ∀ {α : Type} (xs : List α), boolsOf (xs.map fun _ => D.p (.bool true)) = some (xs.map fun _ => true)
  | _, [] => rfl
  | _, x :: xs => by
    rw [List.map_cons]
    unfold boolsOf
    rw [bools_true xs]
    rfl
/-- a good order -/
structure Good (xs : List (Nat × Int)) : Prop where
  ok : ∀ x ∈ xs, ItOk x
  nd : xs.Nodup
  one : 1 ≤ xs.length
  few : xs.length ≤ 24
  tags : (dedupK (tagKeys xs)).length ≤ 4
theorem is_order_ok [Has T "is_order" std_is_order] [Has T "is_item" std_is_item] [Has T "tags_in" (std_tags_in cc)] [Has T "is_integer" std_is_integer] [Gl gg "MOST_ITEMS" (.int 24)] [Gl gg "MOST_TAGS" (.int 4)] [Gl gg "LETTERS" (.str letters)] [Gl gg "MOST_NUMBER" (.int 99)] (k : Nat) {o : D} {xs : List (Nat × Int)} {M : Mem} (h : seqD M o = some (row xs)) (g : Good xs) : callD gg xx T (k + 3) "is_order" [o] M = .ok (.p (.bool true)) M := by
  have few := g.few
  have one := g.one
  rw [call_has (F := std_is_order) inferInstance rfl]
  have turn : ∀ d ∈ row xs, lcB (evalTs ⟨callD gg xx T (k + 2), gg⟩ []) (evalE ⟨callD gg xx T (k + 2), gg⟩ (.cal "is_item" [(.var 1 0)] 0 0)) (.nm 1 0) [1] [some o, none] d M = .ok ((fun _ => some (D.p (.bool true))) d) M := by
    intro d hd
    obtain ⟨x, hx, rfl⟩ := List.mem_map.mp hd
    show (R.calm ((callD gg xx T (k + 2) "is_item" [.p (item x)] M))).bind _ = _
    rw [is_item_ok k M (g.ok x hx)]
    rfl
  have run := lcL_pure (stays_one (x := o) (xs := row xs) (M := M) (by simp [seqOrTup, h])) turn
  have fm : (row xs).filterMap (fun _ => some (D.p (.bool true))) = (row xs).map fun _ => D.p (.bool true) := by simp
  rw [fm] at run
  simp only [evalE, evalA, bind_ok] at run
  have d1 : decide ((1 : Int) ≤ xs.length) = true := decide_eq_true (by omega)
  have d2 : decide ((xs.length : Int) ≤ 24) = true := decide_eq_true (by omega)
  have d4 : decide (((dedupK (tagKeys xs)).length : Int) ≤ 4) = true := decide_eq_true (by have := g.tags; omega)
  have al1 : finL false ((row xs).map fun _ => D.p (.bool true)) M = .ok (.p (.list (xs.map fun _ => .bool true))) M := by
    have small : ((row xs).map fun _ => D.p (.bool true)).length ≤ sizeLine := by
      unfold row
      rw [List.length_map, List.length_map, sizeLine_eq]
      omega
    unfold finL al
    rw [if_pos small]
    have : ((row xs).map fun _ => D.p (.bool true)) = xs.map fun _ => D.p (.bool true) := by unfold row; rw [List.map_map]; rfl
    rw [this, if_neg (by decide), pAll_map]
    rfl
  have all1 : ∀ c : Bool, bltD c .all [.p (.list (xs.map fun _ => PyData.bool true))] M = some (.p (.bool true), M) := by
    intro c
    have e : (xs.map fun _ => PyData.bool true).map D.p = xs.map fun _ => D.p (.bool true) := by rw [List.map_map]; rfl
    simp only [bltD, one1, bAll, seqD, e, Option.bind_some, bools_true]
    simp
  have lr : (row xs).length = xs.length := by unfold row; rw [List.length_map]
  have tl : ∀ c : Bool, bltD c .len [.p (.list (tagsL xs))] M = some (.p (.int (dedupK (tagKeys xs)).length), M) := by
    intro c
    have := len_seq (o := .p (tagsOf xs)) (xs := ((sortK (dedupK (tagKeys xs))).map kD).map D.p) (c := c) (M := M) rfl
    rw [show D.p (.list (tagsL xs)) = .p (tagsOf xs) from rfl, this]
    simp [sortK]
  have tl2 : ∀ c : Bool, bltD c .len [.ref M.length] (M ++ [.lst ((tagsL xs).map .p)]) = some (.p (.int (dedupK (tagKeys xs)).length), M ++ [.lst ((tagsL xs).map .p)]) := by
    intro c
    have := len_seq (o := .ref M.length) (xs := (tagsL xs).map .p) (c := c) (M := M ++ [.lst ((tagsL xs).map .p)]) (by simp [seqD])
    rw [this]
    simp [sortK, tagsL]
  have body : ∃ E, outR (execB ⟨callD gg xx T (k + 2), gg⟩ xx std_is_order.body (startD std_is_order.N [o]) M) = .ok (.p (.bool true)) (M ++ E) := by
    cases cc with
    | false =>
      refine ⟨[], ?_⟩
      rw [List.append_nil]
      simp only [std_is_order, execB, execS, evalE, evalA, evalAnd, evalOr, startD, List.map, List.cons_append, List.nil_append, List.length_cons, List.length_nil, List.replicate, Nat.reduceAdd, Nat.reduceSub, get0, getS, bind_ok, to_ok, then_next, then_ret, out_ret, ofO_some, truB, isa_seq h, len_seq h, gl_eq (gg := gg), le_ii, if_t, if_f, Bool.not_true, Bool.not_false, walk_seq h, run, al1, all1, nst_row h (by intro z; rw [z] at one; cases one) (by omega) g.nd, eq_ii, lr, decide_true, if_true, tags_in_ok (cc := false) (k + 1) h (by omega), d1, d2, d4, giv_f, bind_ok, tl, d4, le_ii]
    | true =>
      refine ⟨[.lst ((tagsL xs).map .p)], ?_⟩
      simp only [std_is_order, execB, execS, evalE, evalA, evalAnd, evalOr, startD, List.map, List.cons_append, List.nil_append, List.length_cons, List.length_nil, List.replicate, Nat.reduceAdd, Nat.reduceSub, get0, getS, bind_ok, to_ok, then_next, then_ret, out_ret, ofO_some, truB, isa_seq h, len_seq h, gl_eq (gg := gg), le_ii, if_t, if_f, Bool.not_true, Bool.not_false, walk_seq h, run, al1, all1, nst_row h (by intro z; rw [z] at one; cases one) (by omega) g.nd, eq_ii, lr, decide_true, if_true, tags_in_ok (cc := true) (k + 1) h (by omega), d1, d2, d4, giv_t, bind_ok, tl2, d4, le_ii]
  obtain ⟨E, body⟩ := body
  rw [body, gc_p]
theorem check_order_ok [Has T "check_order" std_check_order] [Has T "is_order" std_is_order] [Has T "is_item" std_is_item] [Has T "tags_in" (std_tags_in cc)] [Has T "is_integer" std_is_integer] [Gl gg "MOST_ITEMS" (.int 24)] [Gl gg "MOST_TAGS" (.int 4)] [Gl gg "LETTERS" (.str letters)] [Gl gg "MOST_NUMBER" (.int 99)] (k : Nat) {o : D} {xs : List (Nat × Int)} {M : Mem} (h : seqD M o = some (row xs)) (g : Good xs) : callD gg xx T (k + 4) "check_order" [o] M = .ok nonD M := by
  rw [call_has (F := std_check_order) inferInstance rfl]
  have body : outR (execB ⟨callD gg xx T (k + 3), gg⟩ xx std_check_order.body (startD std_check_order.N [o]) M) = .ok nonD M := by
    simp only [std_check_order, execB, execS, evalE, evalA, startD, List.map, List.cons_append, List.nil_append, List.length_cons, List.length_nil, List.replicate, Nat.reduceAdd, Nat.reduceSub, get0, getS, bind_ok, to_ok, then_next, then_ret, out_next, ofO_some, truB, is_order_ok k h g, Bool.not_true, if_f]
  rw [body]
  exact gc_p0
theorem in_tags' {c : Nat} {xs : List (Nat × Int)} {M : Mem} (h : ∃ x ∈ xs, x.1 = c) : cmpD .NotIn (.p (.str (sign c))) (.p (tagsOf xs)) M = some (.p (.bool false), M) := by
  have e : cmpD .NotIn (.p (.str (sign c))) (.p (tagsOf xs)) M = ((inP (.str (sign c)) (tagsOf xs)).map (!·)).map fun k => (.p (.bool k), M) := rfl
  rw [e]
  have : inP (.str (sign c)) (tagsOf xs) = some true := by
    unfold inP tagsOf
    simp only []
    rw [if_pos (by rfl)]
    congr 1
    rw [List.any_eq_true]
    obtain ⟨x, hx, rfl⟩ := h
    refine ⟨.str (sign x.1), List.mem_map.mpr ⟨.inr (sign x.1), ?_, rfl⟩, by simp [PyData.eqv]⟩
    unfold sortK
    rw [List.mem_mergeSort, dedupK_mem]
    exact List.mem_map.mpr ⟨x, hx, rfl⟩
  rw [this]
  rfl
theorem in_tags {c : Nat} {xs : List (Nat × Int)} {M : Mem} (h : ∃ x ∈ xs, x.1 = c) : cmpD .NotIn (.p (.str (sign c))) (.p (.list (tagsL xs))) M = some (.p (.bool false), M) := in_tags' h
theorem check_tag_ok [Has T "check_tag" std_check_tag] [Has T "tags_in" (std_tags_in false)] (k : Nat) {o : D} {xs : List (Nat × Int)} {c : Nat} {M : Mem} (h : seqD M o = some (row xs)) (hl : xs.length ≤ 100) (hc : ∃ x ∈ xs, x.1 = c) : callD gg xx T (k + 2) "check_tag" [o, .p (.str (sign c))] M = .ok nonD M := by
  rw [call_has (F := std_check_tag) inferInstance rfl]
  have body : outR (execB ⟨callD gg xx T (k + 1), gg⟩ xx std_check_tag.body (startD std_check_tag.N [o, .p (.str (sign c))]) M) = .ok nonD M := by
    simp only [std_check_tag, execB, execS, evalE, evalA, evalOr, startD, List.map, List.cons_append, List.nil_append, List.length_cons, List.length_nil, List.replicate, Nat.reduceAdd, Nat.reduceSub, get0, getS, bind_ok, to_ok, then_next, then_ret, out_next, ofO_some, truB, isa_ss, Bool.not_true, if_f, tags_in_ok (cc := false) k h hl, giv_f, in_tags hc]
  rw [body]
  exact gc_p0
theorem view_of_ok [Has T "view_of" std_view_of] [Has T "tags_in" (std_tags_in false)] [Has T "check_order" std_check_order] [Has T "check_tag" std_check_tag] [Has T "view_in" (std_view_in cc)] [Has T "is_order" std_is_order] [Has T "is_item" std_is_item] [Has T "is_integer" std_is_integer] [Gl gg "MOST_ITEMS" (.int 24)] [Gl gg "MOST_TAGS" (.int 4)] [Gl gg "LETTERS" (.str letters)] [Gl gg "MOST_NUMBER" (.int 99)] (k : Nat) {o : D} {xs : List (Nat × Int)} {c : Nat} {M : Mem} (h : seqD M o = some (row xs)) (g : Good xs) (hc : ∃ x ∈ xs, x.1 = c) :
    callD gg xx T (k + 5) "view_of" [o, .p (.str (sign c))] M = giv cc ((xs.filter fun x => x.1 = c).map item) M := by
  have few := g.few
  rw [call_has (F := std_view_of) inferInstance rfl]
  have body : outR (execB ⟨callD gg xx T (k + 4), gg⟩ xx std_view_of.body (startD std_view_of.N [o, .p (.str (sign c))]) M) = giv cc ((xs.filter fun x => x.1 = c).map item) M := by
    simp only [std_view_of, execB, execS, evalE, evalA, startD, List.map, List.cons_append, List.nil_append, List.length_cons, List.length_nil, List.replicate, Nat.reduceAdd, Nat.reduceSub, get0, getS, bind_ok, to_ok, then_next, then_ret, out_ret, check_order_ok k h g, check_tag_ok (k + 2) h (by omega) hc, view_in_ok (k + 3) h (by omega), to_giv]
  rw [body, gc_giv]
end Mini.Std

namespace Mini.Std
open PySem PySem.Spec PyProof.Rows L2 Mini
variable {gg : Str → Option PyData} {xx : Str → Option Nat} {T : Tab}
theorem lt_s {x : Str} {M : Mem} : isaPs [.list, .tuple] (.p (.str x)) M = some false := rfl
theorem lt_i {i : Int} {M : Mem} : isaPs [.list, .tuple] (.p (.int i)) M = some false := rfl
theorem lt_t {xs : List PyData} {M : Mem} : isaPs [.list, .tuple] (.p (.tuple xs)) M = some true := rfl
theorem bs_s {x : Str} {M : Mem} : isaPs [.bool, .str] (.p (.str x)) M = some true := rfl
theorem bs_i {i : Int} {M : Mem} : isaPs [.bool, .str] (.p (.int i)) M = some false := rfl
theorem is_in {i : Int} {M : Mem} : cmpD .Is (.p (.int i)) (.p .none) M = some (.p (.bool false), M) := rfl
theorem eq_ff {M : Mem} : cmpD .Eq (.p (.bool false)) (.p (.bool false)) M = some (.p (.bool true), M) := rfl
theorem equal_str [Has T "_law_equal" std__law_equal] (k : Nat) (x : Str) (M : Mem) : callD gg xx T (k + 1) "_law_equal" [.p (.str x), .p (.str x)] M = .ok (.p (.bool true)) M := by
  rw [call_has (F := std__law_equal) inferInstance rfl]
  have body : outR (execB ⟨callD gg xx T k, gg⟩ xx std__law_equal.body (startD std__law_equal.N [.p (.str x), .p (.str x)]) M) = .ok (.p (.bool true)) M := by
    simp only [std__law_equal, execB, execS, evalE, evalA, evalAnd, evalOr, startD, List.map, List.cons_append, List.nil_append, List.length_cons, List.length_nil, List.replicate, Nat.reduceAdd, Nat.reduceSub, get0, getS, bind_ok, to_ok, then_next, then_ret, out_ret, ofO_some, truB, if_t, if_f, lt_s, bs_s, isa_bs, eq_ff, eq_ss, decide_true, if_true]
  rw [body, gc_p0]
theorem equal_int [Has T "_law_equal" std__law_equal] (k : Nat) (i : Int) (M : Mem) : callD gg xx T (k + 1) "_law_equal" [.p (.int i), .p (.int i)] M = .ok (.p (.bool true)) M := by
  rw [call_has (F := std__law_equal) inferInstance rfl]
  have body : outR (execB ⟨callD gg xx T k, gg⟩ xx std__law_equal.body (startD std__law_equal.N [.p (.int i), .p (.int i)]) M) = .ok (.p (.bool true)) M := by
    simp only [std__law_equal, execB, execS, evalE, evalA, evalAnd, evalOr, startD, List.map, List.cons_append, List.nil_append, List.length_cons, List.length_nil, List.replicate, Nat.reduceAdd, Nat.reduceSub, get0, getS, bind_ok, to_ok, then_next, then_ret, out_ret, ofO_some, truB, if_t, if_f, lt_i, bs_i, is_in, isa_ii, isa_bi, eq_ii, Bool.not_false, decide_true, if_true]
  rw [body, gc_p0]
/-- data that _law_equal tells equal, at most m deep -/
def fit : Nat → PyData → Bool
  | _, .none => true
  | _, .bool _ => true
  | _, .int _ => true
  | _, .str _ => true
  | m + 1, .list ys => decide (ys.length ≤ 1000) && ys.all (fit m)
  | m + 1, .tuple ys => decide (ys.length ≤ 1000) && ys.all (fit m)
  | _, _ => false
theorem resAll_p {n : Nat} {M : Mem} : ∀ ys : List PyData, resAll (res n M) (ys.map .p) = some ys
  | [] => rfl
  | y :: ys => by
    have h : res n M (.p y) = some y := by cases n <;> rfl
    simp only [List.map_cons, resAll, h, resAll_p ys]
theorem res_list {n : Nat} {M : Mem} {d : D} {ys : List PyData} (h : res n M d = some (.list ys)) : ∃ m xs, seqD M d = some xs ∧ resAll (res m M) xs = some ys := by
  cases d with
  | p x =>
    have : res n M (.p x) = some x := by cases n <;> rfl
    rw [this] at h
    cases h
    exact ⟨0, _, rfl, resAll_p ys⟩
  | ref m =>
    cases n with
    | zero => cases h
    | succ n =>
      unfold res at h
      simp only at h
      cases e : M[m]? with
      | none => rw [e] at h; cases h
      | some c => cases c with
        | lst xs =>
          rw [e] at h
          simp only [Option.map_eq_some_iff] at h
          obtain ⟨zs, h1, h2⟩ := h
          cases h2
          exact ⟨n, xs, by unfold seqD; simp only [e], h1⟩
        | dct _ => rw [e] at h; cases h
        | dead => rw [e] at h; cases h
  | tr ds =>
    cases n with
    | zero => cases h
    | succ n =>
      unfold res at h
      simp only [Option.map_eq_some_iff] at h
      obtain ⟨zs, h1, h2⟩ := h
      cases h2
theorem res_tuple {n : Nat} {M : Mem} {d : D} {ys : List PyData} (h : res n M d = some (.tuple ys)) : ∃ m xs, seqD M d = none ∧ tupD d = some xs ∧ resAll (res m M) xs = some ys := by
  cases d with
  | p x =>
    have : res n M (.p x) = some x := by cases n <;> rfl
    rw [this] at h
    cases h
    exact ⟨0, _, rfl, rfl, resAll_p ys⟩
  | ref m =>
    cases n with
    | zero => cases h
    | succ n =>
      unfold res at h
      simp only at h
      cases e : M[m]? with
      | none => rw [e] at h; cases h
      | some c => cases c with
        | lst xs =>
          rw [e] at h
          simp only [Option.map_eq_some_iff] at h
          obtain ⟨zs, h1, h2⟩ := h
          cases h2
        | dct _ => rw [e] at h; cases h
        | dead => rw [e] at h; cases h
  | tr ds =>
    cases n with
    | zero => cases h
    | succ n =>
      unfold res at h
      simp only [Option.map_eq_some_iff] at h
      obtain ⟨zs, h1, h2⟩ := h
      cases h2
      exact ⟨n, ds, rfl, rfl, h1⟩
theorem resAll_len {f : D → Option PyData} : ∀ {xs : List D} {ys : List PyData}, resAll f xs = some ys → xs.length = ys.length
  | [], ys, h => by cases h; rfl
  | x :: xs, ys, h => by
    unfold resAll at h
    cases e : f x with
    | none => rw [e] at h; cases h
    | some y =>
      cases e2 : resAll f xs with
      | none => rw [e, e2] at h; cases h
      | some zs =>
        rw [e, e2] at h
        cases h
        simp [resAll_len e2]
theorem tup_mkT (xs : List D) : tupD (mkT xs) = some xs := by
  unfold mkT
  cases e : pAll xs with
  | none => rfl
  | some ds => rw [pAll_eq e]; rfl
/-- all pairs of a zip of equal data -/
theorem zip_all {M : Mem} {m m' : Nat} {P : D → Prop} : ∀ {xs xs' : List D} {ys : List PyData}, resAll (res m M) xs = some ys → resAll (res m' M) xs' = some ys → (∀ y ∈ ys, ∀ d e, res m M d = some y → res m' M e = some y → P (mkT [d, e])) → ∀ z ∈ zipD xs xs', P z
  | [], [], _, _, _, _, z, hz => by cases hz
  | [], _ :: _, _, _, _, _, z, hz => by cases hz
  | _ :: _, [], _, _, _, _, z, hz => by cases hz
  | x :: xs, x' :: xs', ys, h, h', hp, z, hz => by
    unfold resAll at h h'
    cases e : res m M x with
    | none => rw [e] at h; cases h
    | some y =>
      cases e2 : resAll (res m M) xs with
      | none => rw [e, e2] at h; cases h
      | some zs =>
        rw [e, e2] at h
        cases h
        cases e' : res m' M x' with
        | none => rw [e'] at h'; cases h'
        | some y' =>
          cases e2' : resAll (res m' M) xs' with
          | none => rw [e', e2'] at h'; cases h'
          | some zs' =>
            rw [e', e2'] at h'
            cases h'
            unfold zipD at hz
            rcases List.mem_cons.mp hz with q | q
            · rw [q]; exact hp y List.mem_cons_self _ _ e e'
            · exact zip_all e2 e2' (fun y hy => hp y (List.mem_cons_of_mem _ hy)) z q
theorem zipD_len : ∀ (xs ys : List D), (zipD xs ys).length ≤ xs.length
  | [], ys => by cases ys <;> simp [zipD]
  | _ :: _, [] => by simp [zipD]
  | _ :: xs, _ :: ys => by simp only [zipD, List.length_cons]; have := zipD_len xs ys; omega
end Mini.Std

namespace Mini.Std
open PySem PySem.Spec PyProof.Rows L2 Mini
variable {gg : Str → Option PyData} {xx : Str → Option Nat} {T : Tab}
theorem ty_seq {o : D} {xs : List D} {M : Mem} (h : seqD M o = some xs) : tyD o M = some .list := by
  cases o with
  | tr ds => cases h
  | p d => cases d with
    | list ys => rfl
    | _ => cases h
  | ref m =>
    unfold seqD at h
    unfold tyD
    simp only at h ⊢
    cases e : M[m]? with
    | none => rw [e] at h; cases h
    | some c => cases c with
      | lst ys => rfl
      | dct _ => rw [e] at h; cases h
      | dead => rw [e] at h; cases h
theorem ty_tup {o : D} {xs : List D} {M : Mem} (h : tupD o = some xs) : tyD o M = some .tuple := by
  cases o with
  | tr ds => rfl
  | p d => cases d with
    | tuple ys => rfl
    | _ => cases h
  | ref m => cases h
theorem len_tup {o : D} {xs : List D} {c : Bool} {M : Mem} (h0 : seqD M o = none) (h : tupD o = some xs) : bltD c .len [o] M = some (.p (.int xs.length), M) := by
  cases o with
  | tr ds => cases h; rfl
  | p d => cases d with
    | tuple ys => cases h; rfl
    | _ => cases h
  | ref m => cases h
theorem ne_bb {a b : Bool} {M : Mem} : cmpD .NotEq (.p (.bool a)) (.p (.bool b)) M = some (.p (.bool (a != b)), M) := by
  cases a <;> cases b <;> rfl
theorem eq_bb {a b : Bool} {M : Mem} : cmpD .Eq (.p (.bool a)) (.p (.bool b)) M = some (.p (.bool (a == b)), M) := by
  cases a <;> cases b <;> rfl
theorem all_true {α : Type} (xs : List α) (c : Bool) (M : Mem) : bltD c .all [.p (.list (xs.map fun _ => PyData.bool true))] M = some (.p (.bool true), M) := by
  have e : (xs.map fun _ => PyData.bool true).map D.p = xs.map fun _ => D.p (.bool true) := by rw [List.map_map]; rfl
  simp only [bltD, one1, bAll, seqD, e, Option.bind_some, bools_true]
  simp
theorem fin_true {α : Type} (xs : List α) (M : Mem) (h : xs.length ≤ sizeLine) : finL false (xs.map fun _ => D.p (.bool true)) M = .ok (.p (.list (xs.map fun _ => .bool true))) M := by
  unfold finL al
  rw [if_pos (by rw [List.length_map]; exact h), if_neg (by decide), pAll_map]
  rfl
theorem zip_seq {a b : D} {xs ys : List D} {M : Mem} {p q : Nat} (h : seqD M a = some xs) (h2 : seqD M b = some ys) : walkR (.zip p q) [a, b] M = .ok (zipD xs ys, [(a, xs), (b, ys)]) M := by
  unfold walkR walkD
  simp only [h, h2]
theorem zip_tup {a b : D} {xs ys : List D} {M : Mem} {p q : Nat} (h0 : seqD M a = none) (h1 : seqD M b = none) (h : tupD a = some xs) (h2 : tupD b = some ys) : walkR (.zip p q) [a, b] M = .ok (zipD xs ys, []) M := by
  unfold walkR walkD
  simp only [h0, h1, h, h2]
theorem stays_two {a b : D} {xs ys : List D} {M : Mem} (h : seqD M a = some xs) (h2 : seqD M b = some ys) : stays [(a, xs), (b, ys)] M = true := by
  unfold stays
  refine @decide_eq_true _ (_) fun z hz => ?_
  rcases List.mem_cons.mp hz with e | e
  · rw [e]; exact .inl h
  · rcases List.mem_cons.mp e with e | e
    · rw [e]; exact .inl h2
    · cases e
theorem stays_nil {M : Mem} : stays [] M = true := by
  unfold stays
  exact @decide_eq_true _ (_) fun z hz => by cases hz
theorem eqP_refl {y : PyData} (h : okd y = true) (hr : PyData.eqv y y = true) : eqP y y = some true := by
  unfold eqP
  rw [h, Bool.true_or, if_pos rfl, hr]
/-- the turns of the comprehension in _law_equal -/
theorem equal_turns [Has T "_law_equal" std__law_equal] {k : Nat} {M : Mem} {d0 e0 : D} {xs xs' : List D} {w : Wk} (hw : stays w M = true) (ht : ∀ z ∈ zipD xs xs', ∃ a b, z = mkT [a, b] ∧ callD gg xx T k "_law_equal" [a, b] M = .ok (.p (.bool true)) M) :
    lcL w (lcB (evalTs ⟨callD gg xx T k, gg⟩ []) (evalE ⟨callD gg xx T k, gg⟩ (.cal "_law_equal" [(.var 2 0), (.var 3 0)] 0 0)) (.tp [(.nm 2 0), (.nm 3 0)] 0 0) [2, 3] [some d0, some e0, none, none]) (zipD xs xs') M = .ok ((zipD xs xs').map fun _ => D.p (.bool true)) M := by
  have h := lcL_pure (w := w) (body := lcB (evalTs ⟨callD gg xx T k, gg⟩ []) (evalE ⟨callD gg xx T k, gg⟩ (.cal "_law_equal" [(.var 2 0), (.var 3 0)] 0 0)) (.tp [(.nm 2 0), (.nm 3 0)] 0 0) [2, 3] [some d0, some e0, none, none]) (r := fun _ => some (.p (.bool true))) (M := M) hw (ds := zipD xs xs') (fun z hz => by
    obtain ⟨a, b, rfl, hc⟩ := ht z hz
    have : setT (.tp [(.nm 2 0), (.nm 3 0)] 0 0) (mkT [a, b]) (wipeL [some d0, some e0, none, none] [2, 3]) = some [some d0, some e0, some a, some b] := by
      unfold setT
      rw [tup_mkT]
      rfl
    unfold lcB
    rw [this]
    simp only [evalTs, evalE, evalA, get0, getS, bind_ok, R.calm, hc, if_true])
  rw [h]
  simp
theorem equal_non [Has T "_law_equal" std__law_equal] (k : Nat) (M : Mem) : callD gg xx T (k + 1) "_law_equal" [.p .none, .p .none] M = .ok (.p (.bool true)) M := by
  rw [call_has (F := std__law_equal) inferInstance rfl]
  have body : outR (execB ⟨callD gg xx T k, gg⟩ xx std__law_equal.body (startD std__law_equal.N [.p .none, .p .none]) M) = .ok (.p (.bool true)) M := rfl
  rw [body, gc_p0]
theorem equal_bool [Has T "_law_equal" std__law_equal] (k : Nat) (M : Mem) (b : Bool) : callD gg xx T (k + 1) "_law_equal" [.p (.bool b), .p (.bool b)] M = .ok (.p (.bool true)) M := by
  rw [call_has (F := std__law_equal) inferInstance rfl]
  have body : outR (execB ⟨callD gg xx T k, gg⟩ xx std__law_equal.body (startD std__law_equal.N [.p (.bool b), .p (.bool b)]) M) = .ok (.p (.bool true)) M := by cases b <;> rfl
  rw [body, gc_p0]
theorem isa_of {t : Ty} {k : Tk} {d : D} {M : Mem} (h : tyD d M = some k) : isaP t d M = some (isT k t) := by simp [isaP, h]
theorem isas_of {ts : List Ty} {k : Tk} {d : D} {M : Mem} (h : tyD d M = some k) : isaPs ts d M = some (ts.any (isT k)) := by simp [isaPs, h]
theorem equal_seqs [Has T "_law_equal" std__law_equal] {k : Nat} {M : Mem} {d e : D} {xs xs' : List D} {w : Wk} {tk : Tk} (htk : tk = .list ∨ tk = .tuple) (h1 : tyD d M = some tk) (h2 : tyD e M = some tk) (hl : ∀ c, bltD c .len [d] M = some (.p (.int xs.length), M)) (hl2 : ∀ c, bltD c .len [e] M = some (.p (.int xs'.length), M)) (len : xs.length = xs'.length) (small : xs.length ≤ 1000)
    (wk : ∀ p q, walkR (.zip p q) [d, e] M = .ok (zipD xs xs', w) M) (hw : stays w M = true) (ht : ∀ z ∈ zipD xs xs', ∃ a b, z = mkT [a, b] ∧ callD gg xx T k "_law_equal" [a, b] M = .ok (.p (.bool true)) M) :
    callD gg xx T (k + 1) "_law_equal" [d, e] M = .ok (.p (.bool true)) M := by
  rw [call_has (F := std__law_equal) inferInstance rfl]
  have run := equal_turns (gg := gg) (xx := xx) (T := T) (d0 := d) (e0 := e) hw ht
  simp only [evalE, evalA, bind_ok] at run
  have sm : (zipD xs xs').length ≤ sizeLine := by
    have := zipD_len xs xs'
    rw [sizeLine_eq]
    omega
  have b1 : [Ty.list, Ty.tuple].any (isT tk) = true := by rcases htk with h | h <;> rw [h] <;> rfl
  have body : outR (execB ⟨callD gg xx T k, gg⟩ xx std__law_equal.body (startD std__law_equal.N [d, e]) M) = .ok (.p (.bool true)) M := by
    simp only [std__law_equal, execB, execS, evalE, evalA, evalAnd, evalOr, startD, List.map, List.cons_append, List.nil_append, List.length_cons, List.length_nil, List.replicate, Nat.reduceAdd, Nat.reduceSub, get0, getS, bind_ok, to_ok, then_next, then_ret, out_ret, out_next, ofO_some, truB, if_t, if_f, if_true, sz0, sz1, sz2, sz3, sz4, sz5, sz6, sz7, sz8, sz9, sz10, sz11, sz12, mkT1, mkT2, mkT3, al_tr, alf0, alf1, alf2, alf3, alf4, alf5, alf6, alf7, alf8, setT_nm0, List.set_cons_succ, List.set_cons_zero, Nat.reduceLT, isas_of h1, isas_of h2, isa_of h1, isa_of h2, b1, hl, hl2, len, ne_ii, ne_bb, decide_true, Bool.not_true, bne_self_eq_false, wk, run, fin_true _ _ sm, all_true]
  rw [body, gc_p0]
theorem fit_all {n : Nat} {ys : List PyData} (h : ys.all (fit n) = true) {y : PyData} (hy : y ∈ ys) : fit n y = true := List.all_eq_true.mp h y hy
theorem pd_cases (y : PyData) : (∃ ys, y = .list ys) ∨ (∃ ys, y = .tuple ys) ∨ y = .none ∨ (∃ b, y = .bool b) ∨ (∃ i, y = .int i) ∨ (∃ s, y = .str s) ∨ (∀ n, fit n y = false) := by
  cases y with
  | list ys => exact .inl ⟨ys, rfl⟩
  | tuple ys => exact .inr (.inl ⟨ys, rfl⟩)
  | none => exact .inr (.inr (.inl rfl))
  | bool b => exact .inr (.inr (.inr (.inl ⟨b, rfl⟩)))
  | int b => exact .inr (.inr (.inr (.inr (.inl ⟨b, rfl⟩))))
  | str b => exact .inr (.inr (.inr (.inr (.inr (.inl ⟨b, rfl⟩)))))
  | _ => exact .inr (.inr (.inr (.inr (.inr (.inr fun n => by cases n <;> rfl)))))
theorem res_leaf {m : Nat} {M : Mem} {d : D} {y : PyData} (h : res m M d = some y) (hl : ∀ ys, y ≠ .list ys) (ht : ∀ ys, y ≠ .tuple ys) : d = .p y := by
  cases d with
  | p x =>
    have : res m M (.p x) = some x := by cases m <;> rfl
    rw [this] at h
    cases h; rfl
  | ref r =>
    cases m with
    | zero => cases h
    | succ m =>
      unfold res at h
      simp only at h
      cases e : M[r]? with
      | none => rw [e] at h; cases h
      | some c => cases c with
        | lst xs =>
          rw [e] at h
          simp only [Option.map_eq_some_iff] at h
          obtain ⟨zs, h1, h2⟩ := h
          exact absurd h2.symm (hl zs)
        | dct _ => rw [e] at h; cases h
        | dead => rw [e] at h; cases h
  | tr ds =>
    cases m with
    | zero => cases h
    | succ m =>
      unfold res at h
      simp only [Option.map_eq_some_iff] at h
      obtain ⟨zs, h1, h2⟩ := h
      exact absurd h2.symm (ht zs)
/-- _law_equal says yes of two values that mean the same data -/
theorem equal_ok [Has T "_law_equal" std__law_equal] : ∀ (n k : Nat) (M : Mem) (d e : D) (y : PyData) (m m' : Nat), fit n y = true → res m M d = some y → res m' M e = some y →
    callD gg xx T (k + n + 1) "_law_equal" [d, e] M = .ok (.p (.bool true)) M := by
  intro n
  induction n with
  | zero =>
    intro k M d e y m m' hf hd he
    rcases pd_cases y with ⟨ys, rfl⟩ | ⟨ys, rfl⟩ | rfl | ⟨b, rfl⟩ | ⟨b, rfl⟩ | ⟨b, rfl⟩ | h
    · cases hf
    · cases hf
    · rw [res_leaf hd (by intro ys h; cases h) (by intro ys h; cases h), res_leaf he (by intro ys h; cases h) (by intro ys h; cases h)]
      exact equal_non _ _
    · rw [res_leaf hd (by intro ys h; cases h) (by intro ys h; cases h), res_leaf he (by intro ys h; cases h) (by intro ys h; cases h)]
      exact equal_bool _ _ _
    · rw [res_leaf hd (by intro ys h; cases h) (by intro ys h; cases h), res_leaf he (by intro ys h; cases h) (by intro ys h; cases h)]
      exact equal_int _ _ _
    · rw [res_leaf hd (by intro ys h; cases h) (by intro ys h; cases h), res_leaf he (by intro ys h; cases h) (by intro ys h; cases h)]
      exact equal_str _ _ _
    · rw [h] at hf; cases hf
  | succ n ih =>
    intro k M d e y m m' hf hd he
    rcases pd_cases y with ⟨ys, rfl⟩ | ⟨ys, rfl⟩ | rfl | ⟨b, rfl⟩ | ⟨b, rfl⟩ | ⟨b, rfl⟩ | h
    · obtain ⟨m1, xs, h1, h2⟩ := res_list hd
      obtain ⟨m2, xs', h3, h4⟩ := res_list he
      unfold fit at hf
      rw [Bool.and_eq_true, decide_eq_true_eq] at hf
      have l1 := resAll_len h2
      have l2 := resAll_len h4
      refine equal_seqs (tk := .list) (.inl rfl) (ty_seq h1) (ty_seq h3) (fun c => len_seq h1) (fun c => len_seq h3) (by omega) (by omega) (fun p q => zip_seq h1 h3) (stays_two h1 h3) ?_
      exact zip_all (P := fun z => ∃ a b, z = mkT [a, b] ∧ callD gg xx T (k + (n + 1)) "_law_equal" [a, b] M = .ok (.p (.bool true)) M) h2 h4 fun y hy a b ha hb => ⟨a, b, rfl, ih k M a b y m1 m2 (fit_all hf.2 hy) ha hb⟩
    · obtain ⟨m1, xs, h0, h1, h2⟩ := res_tuple hd
      obtain ⟨m2, xs', h0', h3, h4⟩ := res_tuple he
      unfold fit at hf
      rw [Bool.and_eq_true, decide_eq_true_eq] at hf
      have l1 := resAll_len h2
      have l2 := resAll_len h4
      refine equal_seqs (tk := .tuple) (.inr rfl) (ty_tup h1) (ty_tup h3) (fun c => len_tup h0 h1) (fun c => len_tup h0' h3) (by omega) (by omega) (fun p q => zip_tup h0 h0' h1 h3) stays_nil ?_
      exact zip_all (P := fun z => ∃ a b, z = mkT [a, b] ∧ callD gg xx T (k + (n + 1)) "_law_equal" [a, b] M = .ok (.p (.bool true)) M) h2 h4 fun y hy a b ha hb => ⟨a, b, rfl, ih k M a b y m1 m2 (fit_all hf.2 hy) ha hb⟩
    · rw [res_leaf hd (by intro ys h; cases h) (by intro ys h; cases h), res_leaf he (by intro ys h; cases h) (by intro ys h; cases h)]
      exact equal_non _ _
    · rw [res_leaf hd (by intro ys h; cases h) (by intro ys h; cases h), res_leaf he (by intro ys h; cases h) (by intro ys h; cases h)]
      exact equal_bool _ _ _
    · rw [res_leaf hd (by intro ys h; cases h) (by intro ys h; cases h), res_leaf he (by intro ys h; cases h) (by intro ys h; cases h)]
      exact equal_int _ _ _
    · rw [res_leaf hd (by intro ys h; cases h) (by intro ys h; cases h), res_leaf he (by intro ys h; cases h) (by intro ys h; cases h)]
      exact equal_str _ _ _
    · rw [h] at hf; cases hf
end Mini.Std

namespace Mini.Std
open PySem PySem.Spec PyProof.Rows L2 Mini
variable {gg : Str → Option PyData} {xx : Str → Option Nat} {T : Tab} {cc : Bool}
/-! ### loops by their invariants -/
theorem lcL_inv {w : Wk} {body : D → Mem → R (Option D)} (I : Nat → List D → Mem → Prop) {ds : List D} (step : ∀ i acc M d, ds[i]? = some d → I i acc M → stays w M = true ∧ ∃ r M1, body d M = .ok r M1 ∧ I (i + 1) (acc ++ r.toList) M1) (last : ∀ acc M, I ds.length acc M → stays w M = true) {M : Mem} (h0 : I 0 [] M) :
    ∃ ys M', lcL w body ds M = .ok ys M' ∧ I ds.length ys M' := by
  have key : ∀ (es pre acc : List D) (M : Mem), pre ++ es = ds → I pre.length acc M → ∃ ys M', lcL w body es M = .ok ys M' ∧ I ds.length (acc ++ ys) M' := by
    intro es
    induction es with
    | nil =>
      intro pre acc M hd hI
      have hd : pre = ds := by simpa using hd
      subst hd
      exact ⟨[], M, by simp only [lcL, last acc M hI, if_true], by rw [List.append_nil]; exact hI⟩
    | cons d es ih =>
      intro pre acc M hd hI
      obtain ⟨hs, r, M1, hb, h1⟩ := step pre.length acc M d (by rw [← hd]; simp) hI
      obtain ⟨ys, M', h2, h3⟩ := ih (pre ++ [d]) (acc ++ r.toList) M1 (by rw [← hd]; simp) (by rw [List.length_append]; exact h1)
      refine ⟨r.toList ++ ys, M', ?_, by rw [← List.append_assoc]; exact h3⟩
      simp only [lcL, hs, if_true, hb, bind_ok, h2]
      cases r <;> rfl
  exact key ds [] [] M rfl h0
/-- a loop that is never left early -/
theorem forL_inv {w : Wk} {t : Mini.T} {body : Lo → Mem → RS} (I : Nat → Lo → Mem → Prop) {ds : List D} (step : ∀ i l M d, ds[i]? = some d → I i l M → stays w M = true ∧ ∃ l2, setT t d l = some l2 ∧ ∃ l' M', (body l2 M = .next l' M' ∨ body l2 M = .cnt l' M') ∧ I (i + 1) l' M') (last : ∀ l M, I ds.length l M → stays w M = true) {l : Lo} {M : Mem} (h0 : I 0 l M) :
    ∃ l' M', forL w t body ds l M = .next l' M' ∧ I ds.length l' M' := by
  have key : ∀ (es pre : List D) (l : Lo) (M : Mem), pre ++ es = ds → I pre.length l M → ∃ l' M', forL w t body es l M = .next l' M' ∧ I ds.length l' M' := by
    intro es
    induction es with
    | nil =>
      intro pre l M hd hI
      have hd : pre = ds := by simpa using hd
      subst hd
      exact ⟨l, M, by simp only [forL, last l M hI, if_true], hI⟩
    | cons d es ih =>
      intro pre l M hd hI
      obtain ⟨hs, l2, ht, l', M', hb, h1⟩ := step pre.length l M d (by rw [← hd]; simp) hI
      obtain ⟨l3, M3, h2, h3⟩ := ih (pre ++ [d]) l' M' (by rw [← hd]; simp) (by rw [List.length_append]; exact h1)
      refine ⟨l3, M3, ?_, h3⟩
      rcases hb with hb | hb <;> simp only [forL, hs, if_true, ht, hb, h2]
  exact key ds [] l M rfl h0
theorem rng_get {lo : Int} {n i : Nat} {d : D} (h : (rngD lo n)[i]? = some d) : i < n ∧ d = .p (.int (lo + i)) := by
  unfold rngD at h
  rw [List.getElem?_map] at h
  by_cases hi : i < n
  · rw [List.getElem?_range hi] at h
    exact ⟨hi, by simpa using h.symm⟩
  · rw [List.getElem?_eq_none (by simpa using hi)] at h
    cases h
theorem rng_len {lo : Int} {n : Nat} : (rngD lo n).length = n := by simp [rngD]
theorem walk_rng1 {p q : Nat} {j : Int} {M : Mem} (h : big j) : walkR (.rng p q) [.p (.int j)] M = .ok (rngD 0 j.toNat, []) M := by
  unfold walkR walkD
  simp only [if_pos h]
theorem at_nat {α : Type} {xs : List α} {i : Int} {a : α} (h0 : 0 ≤ i) (h : xs[i.toNat]? = some a) : atI xs i = some a := by
  have hl := (List.getElem?_eq_some_iff.mp h).1
  unfold atI ixN
  rw [if_pos h0, if_pos (by omega)]
  exact h
/-! ### memory -/
theorem get_app {M : Mem} {c : Cell} {i : Nat} {N : Mem} (h : M[i]? = some c) : (M ++ N)[i]? = some c := by
  rw [List.getElem?_append_left (List.getElem?_eq_some_iff.mp h).1]; exact h
theorem get_new {M N : Mem} {c : Cell} : (M ++ c :: N)[M.length]? = some c := by simp
theorem get_set {M : Mem} {c d : Cell} {i j : Nat} (h : M[i]? = some c) (hn : j ≠ i) : (M.set j d)[i]? = some c := by
  rw [List.getElem?_set_ne hn]; exact h
theorem get_self {M : Mem} {c d : Cell} {i : Nat} (h : M[i]? = some c) : (M.set i d)[i]? = some d := by
  rw [List.getElem?_set_self (List.getElem?_eq_some_iff.mp h).1]
theorem Pool.app {n m : Nat} {M N : Mem} (p : Pool n m M) : Pool n m (M ++ N) := by
  obtain ⟨a, b, c, h, r⟩ := p
  exact ⟨a, b, c, get_app h, r⟩
theorem Pool.set {n m j : Nat} {M : Mem} {d : Cell} (p : Pool n m M) (hn : j ≠ m) : Pool n m (M.set j d) := by
  obtain ⟨a, b, c, h, r⟩ := p
  exact ⟨a, b, c, get_set h hn, r⟩
theorem Pool.mono {n n' m : Nat} {M : Mem} (p : Pool n m M) (h : n ≤ n') : Pool n' m M := by
  obtain ⟨a, b, c, h1, h2, h3, h4, h5, h6⟩ := p
  exact ⟨a, b, c, h1, h2, h3, h4, h5, by have : (n : Int) ≤ n' := by exact_mod_cast h
                                         omega⟩
/-- a draw: what it does to the rest -/
theorem draw_st [Has T "_law_draw" std__law_draw] (k : Nat) {n m : Nat} {M : Mem} {cnt : Int} (p : Pool n m M) (hn : n ≤ 10 ^ 12) (hc : 0 < cnt) (hs : cnt < 2 ^ 60) :
    ∃ (r : Int) (M2 : Mem), callD gg xx T (k + 1) "_law_draw" [.ref m, .p (.int cnt)] M = .ok (.p (.int r)) M2 ∧ 0 ≤ r ∧ r < cnt ∧ Pool (n + 1) m M2 ∧ M2.length = M.length ∧ ∀ i c, i ≠ m → M[i]? = some c → M2[i]? = some c := by
  obtain ⟨r, M2, h1, h2, h3, h4⟩ := draw_ok (gg := gg) (xx := xx) (T := T) k p hn hc hs
  refine ⟨r, M2, h1, h2, h3, h4.pool p.lt, ?_, ?_⟩
  · obtain ⟨a, b, c, rfl, _⟩ := h4
    simp
  · intro i c hi hg
    obtain ⟨a, b, c', rfl, _⟩ := h4
    exact get_set hg (Ne.symm hi)
end Mini.Std

namespace Mini.Std
open PySem PySem.Spec PyProof.Rows L2 Mini
variable {gg : Str → Option PyData} {xx : Str → Option Nat} {T : Tab} {cc : Bool}
/-- draws from 0 to 99 -/
theorem draw_1 [Has T "_law_draw" std__law_draw] (k : Nat) {n m : Nat} {M : Mem} {cnt : Int} (p : Pool n m M) (hn : n ≤ 10 ^ 11) (hc : 0 < cnt) (hs : cnt < 1000) :
    ∃ (r : Int) (M2 : Mem), callD gg xx T (k + 1) "_law_draw" [.ref m, .p (.int cnt)] M = .ok (.p (.int r)) M2 ∧ 0 ≤ r ∧ r < cnt ∧ Pool (n + 1) m M2 ∧ M2.length = M.length ∧ ∀ i c, i ≠ m → M[i]? = some c → M2[i]? = some c :=
  draw_st k p (by omega) hc (by omega)
theorem setT_n {i p : Nat} {d : D} {l : Lo} (h : i < l.length) : setT (.nm i p) d l = some (l.set i (some d)) := by simp [setT, h]
theorem ix3 {a b c : PyData} {r : Int} {M : Mem} (h0 : 0 ≤ r) (h : r < 3) : ∃ d, ixD (.p (.list [a, b, c])) (.p (.int r)) M = some (.p d, M) ∧ (d = a ∨ d = b ∨ d = c) := by
  have : r = 0 ∨ r = 1 ∨ r = 2 := by omega
  rcases this with rfl | rfl | rfl
  · exact ⟨a, rfl, .inl rfl⟩
  · exact ⟨b, rfl, .inr (.inl rfl)⟩
  · exact ⟨c, rfl, .inr (.inr rfl)⟩
theorem ix2 {a b : PyData} {r : Int} {M : Mem} (h0 : 0 ≤ r) (h : r < 2) : ∃ d, ixD (.p (.list [a, b])) (.p (.int r)) M = some (.p d, M) ∧ (d = a ∨ d = b) := by
  have : r = 0 ∨ r = 1 := by omega
  rcases this with rfl | rfl
  · exact ⟨a, rfl, .inl rfl⟩
  · exact ⟨b, rfl, .inr rfl⟩
theorem al_3 {a b c : PyData} {M : Mem} : al false [.p a, .p b, .p c] M = some (.p (.list [a, b, c]), M) := rfl
theorem al_2 {a b : PyData} {M : Mem} : al false [.p a, .p b] M = some (.p (.list [a, b]), M) := rfl
theorem small_n {n : Nat} (h : n ≤ 1000) : n ≤ sizeLine := by rw [sizeLine_eq]; omega
theorem row_s0 [Has T "_law_draw" std__law_draw] (k : Nat) {n m : Nat} {M : Mem} {most : Int} (p : Pool n m M) (hn : n ≤ 10 ^ 10) (h0 : 1 ≤ most) (h1 : most ≤ 24) :
    ∃ many M', execS ⟨callD gg xx T (k + 1), gg⟩ xx row_0 [some (.ref m), some (.p (.int most)), none, none, none, none, none, none, none, none, none, none] M = .next [some (.ref m), some (.p (.int most)), some (.p (.int many)), none, none, none, none, none, none, none, none, none] M' ∧ 1 ≤ many ∧ many ≤ most ∧ Pool (n + 3) m M' ∧ M'.length = M.length := by
  obtain ⟨r1, M1, e1, a1, b1, p1, l1, -⟩ := draw_1 (gg := gg) (xx := xx) (T := T) k (cnt := most) p (by omega) (by omega) (by omega)
  obtain ⟨r2, M2, e2, a2, b2, p2, l2, -⟩ := draw_1 (gg := gg) (xx := xx) (T := T) k (cnt := if 6 < most then 6 else most) p1 (by omega) (by split <;> omega) (by split <;> omega)
  obtain ⟨r3, M3, e3, a3, b3, p3, l3, -⟩ := draw_1 (gg := gg) (xx := xx) (T := T) k (cnt := 3) p2 (by omega) (by omega) (by omega)
  obtain ⟨d, e4, h4⟩ := ix3 (a := .int (1 + r1)) (b := .int (1 + r2)) (c := .int most) (M := M3) a3 b3
  have : ∃ many : Int, d = .int many ∧ 1 ≤ many ∧ many ≤ most := by
    rcases h4 with h | h | h
    · exact ⟨_, h, by omega, by omega⟩
    · exact ⟨_, h, by omega, by split at b2 <;> omega⟩
    · exact ⟨_, h, by omega, by omega⟩
  obtain ⟨many, rfl, h5, h6⟩ := this
  refine ⟨many, M3, ?_, h5, h6, p3, by omega⟩
  simp only [row_0, execB, execS, evalE, evalA, evalAnd, evalOr, startD, List.map, List.cons_append, List.nil_append, List.length_cons, List.length_nil, List.replicate, Nat.reduceAdd, Nat.reduceSub, get0, getS, bind_ok, to_ok, then_next, then_ret, out_ret, out_next, ofO_some, truB, if_t, if_f, if_true, sz0, sz1, sz2, sz3, sz4, sz5, sz6, sz7, sz8, sz9, sz10, sz11, sz12, mkT1, mkT2, mkT3, al_tr, alf0, alf1, alf2, alf3, alf4, alf5, alf6, alf7, alf8, setT_nm0, List.set_cons_succ, List.set_cons_zero, Nat.reduceLT, e1, ad_ii, min_ii, gt_iff_lt, e2, if_pos (small_n (show 3 ≤ 1000 by omega)), al_3, e3, e4, setT_n, Nat.reduceLT, List.set_cons_succ, List.set_cons_zero]
def sgn (c : Nat) : D := .p (.str (sign c))
theorem signs_letters : signsD letters = (List.range' 97 26).map sgn := rfl
theorem row_s1 (Γ : Wd) {m : Nat} {M : Mem} {a b : D} :
    execS Γ xx row_1 [some (.ref m), some a, some b, none, none, none, none, none, none, none, none, none] M = .next [some (.ref m), some a, some b, some (.ref M.length), none, none, none, none, none, none, none, none] (M ++ [.lst ((List.range' 97 26).map sgn)]) := by
  have e : bltD true .list [.p (.str letters)] M = some (.ref M.length, M ++ [.lst ((List.range' 97 26).map sgn)]) := by
    have h : bltD true .list [.p (.str letters)] M = if letters.length ≤ sizeLine then al true (signsD letters) M else none := rfl
    rw [h, if_pos (small_n (by decide +kernel)), signs_letters]
    rfl
  have e' : bltD true .list [.p (.str "abcdefghijklmnopqrstuvwxyz")] M = some (.ref M.length, M ++ [.lst ((List.range' 97 26).map sgn)]) := e
  simp only [row_1, execB, execS, evalE, evalA, evalAnd, evalOr, startD, List.map, List.cons_append, List.nil_append, List.length_cons, List.length_nil, List.replicate, Nat.reduceAdd, Nat.reduceSub, get0, getS, bind_ok, to_ok, then_next, then_ret, out_ret, out_next, ofO_some, truB, if_t, if_f, if_true, sz0, sz1, sz2, sz3, sz4, sz5, sz6, sz7, sz8, sz9, sz10, sz11, sz12, mkT1, mkT2, mkT3, al_tr, alf0, alf1, alf2, alf3, alf4, alf5, alf6, alf7, alf8, setT_nm0, List.set_cons_succ, List.set_cons_zero, Nat.reduceLT, e', setT_n, Nat.reduceLT, List.set_cons_succ, List.set_cons_zero]
end Mini.Std

namespace Mini.Std
open PySem PySem.Spec PyProof.Rows L2 Mini
variable {gg : Str → Option PyData} {xx : Str → Option Nat} {T : Tab} {cc : Bool}
theorem pop_at {M : Mem} {m : Nat} {xs : List D} {i : Int} {y : D} {c : Bool} (h : M[m]? = some (.lst xs)) (h0 : 0 ≤ i) (hy : xs[i.toNat]? = some y) (small : i < 2 ^ 40) : mthD c .pop (.ref m) [.p (.int i)] M = some (y, M.set m (.lst (xs.eraseIdx i.toNat))) := by
  have hl := (List.getElem?_eq_some_iff.mp hy).1
  have e : seqIndex? i xs.length = some i.toNat := by
    unfold seqIndex?
    have : ¬ i < 0 := by omega
    simp only [this, if_false]
    have : (decide (0 ≤ i) && decide (i < (xs.length : Int))) = true := by
      rw [Bool.and_eq_true, decide_eq_true_eq, decide_eq_true_eq]
      omega
    rw [if_pos this]
  simp only [mthD, mPop, cel, celL, h, e, hy]
  rw [if_pos (by omega)]
  rfl
theorem app_at {M : Mem} {m : Nat} {xs : List D} {y : D} {c : Bool} (h : M[m]? = some (.lst xs)) (hl : xs.length ≤ 1000) : mthD c .append (.ref m) [y] M = some (nonD, M.set m (.lst (xs ++ [y]))) := by
  simp only [mthD, mAppend, cel, celL, h]
  rw [if_pos (by rw [sizeLine_eq]; omega)]
theorem rcv_ref {b : Mt} {M : Mem} {m : Nat} {xs : List D} (hb : b.isStr = false) (h : M[m]? = some (.lst xs)) : rcv b (.ref m) M = true := by
  unfold rcv
  rw [hb]
  simp [seqD, h]
theorem seq_ref {M : Mem} {m : Nat} {xs : List D} (h : M[m]? = some (.lst xs)) : seqD M (.ref m) = some xs := by simp [seqD, h]
theorem erase_perm {α : Type} : ∀ {xs : List α} {i : Nat} {y : α}, xs[i]? = some y → (y :: xs.eraseIdx i).Perm xs
  | [], i, y, h => by simp at h
  | x :: xs, 0, y, h => by
    have : x = y := by simpa using h
    subst this
    exact List.Perm.refl _
  | x :: xs, i + 1, y, h => by
    have ih := erase_perm (xs := xs) (i := i) (y := y) (by simpa using h)
    rw [List.eraseIdx_cons_succ]
    exact (List.Perm.swap x y _).trans (ih.cons x)
theorem eraseIdx_map {α β : Type} (f : α → β) : ∀ (xs : List α) (i : Nat), (xs.map f).eraseIdx i = (xs.eraseIdx i).map f
  | [], i => rfl
  | x :: xs, 0 => rfl
  | x :: xs, i + 1 => by simp [eraseIdx_map f xs i]
theorem nums_dt (ns : List Nat) : pAll (ns.map sgn) = some (ns.map fun c => .str (sign c)) := pAll_map ns
theorem row_s2 [Has T "_law_draw" std__law_draw] (k : Nat) {n m L : Nat} {M : Mem} {a b : D} (p : Pool n m M) (hn : n ≤ 10 ^ 10) (hL : M[L]? = some (.lst ((List.range' 97 26).map sgn))) (hm : L ≠ m) :
    ∃ (ns : List Nat) (M' : Mem), execS ⟨callD gg xx T (k + 1), gg⟩ xx row_2 [some (.ref m), some a, some b, some (.ref L), none, none, none, none, none, none, none, none] M = .next [some (.ref m), some a, some b, some (.ref L), none, some (.p (.list (ns.map fun c => .str (sign c)))), none, none, none, none, none, none] M' ∧
      Pool (n + 5) m M' ∧ M'.length = M.length ∧ ns.Nodup ∧ (∀ c ∈ ns, 97 ≤ c ∧ c ≤ 122) ∧ 1 ≤ ns.length ∧ ns.length ≤ 4 := by
  obtain ⟨r, M1, e1, a1, b1, p1, l1, g1⟩ := draw_1 (gg := gg) (xx := xx) (T := T) k (cnt := 4) p (by omega) (by omega) (by omega)
  have wk := walk_rng1 (p := 0) (q := 0) (j := 1 + r) (M := M1) (by unfold big; omega)
  let I : Nat → List D → Mem → Prop := fun i acc M' => ∃ ns rest : List Nat, acc = ns.map sgn ∧ M'[L]? = some (.lst (rest.map sgn)) ∧ Pool (n + 1 + i) m M' ∧ M'.length = M.length ∧ (ns ++ rest).Nodup ∧ (∀ c ∈ ns ++ rest, 97 ≤ c ∧ c ≤ 122) ∧ rest.length + i = 26 ∧ ns.length = i
  have len : (rngD 0 (1 + r).toNat).length = (1 + r).toNat := rng_len
  obtain ⟨ys, M2, run, ns, rest, rfl, h1, h2, h3, h4, h5, h6, h7⟩ := lcL_inv (w := []) (body := lcB (evalTs ⟨callD gg xx T (k + 1), gg⟩ []) (evalE ⟨callD gg xx T (k + 1), gg⟩ (.mth false (.var 3 0) .pop [(.cal "_law_draw" [(.var 0 0), (.blt false .len [(.var 3 0)] 0 0)] 0 0)] 0 0)) (.nm 4 0) [4] [some (.ref m), some a, some b, some (.ref L), none, none, none, none, none, none, none, none]) I (ds := rngD 0 (1 + r).toNat) (M := M1)
    (by
      rintro i acc M' d hd ⟨ns, rest, rfl, h1, h2, h3, h4, h5, h6, h7⟩
      obtain ⟨hi, rfl⟩ := rng_get hd
      refine ⟨stays_nil, ?_⟩
      have hl : ((rest.map sgn).length : Int) = 26 - i := by rw [List.length_map]; omega
      obtain ⟨s, M3, e3, a3, b3, p3, l3, g3⟩ := draw_1 (gg := gg) (xx := xx) (T := T) k (cnt := ((rest.map sgn).length : Int)) h2 (by omega) (by omega) (by omega)
      have hs : s.toNat < rest.length := by rw [List.length_map] at b3; omega
      have g4 := g3 L _ hm h1
      have at1 : (rest.map sgn)[s.toNat]? = some (sgn rest[s.toNat]) := by rw [List.getElem?_map, List.getElem?_eq_getElem hs]; rfl
      have pop := pop_at (c := false) g4 a3 at1 (by omega)
      refine ⟨some (sgn rest[s.toNat]), M3.set L (.lst ((rest.map sgn).eraseIdx s.toNat)), ?_, ns ++ [rest[s.toNat]], rest.eraseIdx s.toNat, ?_, ?_, ?_, ?_, ?_, ?_, ?_, ?_⟩
      · unfold lcB
        simp only [wipeL, List.set_cons_succ, List.set_cons_zero, setT_n, List.length_cons, List.length_nil, Nat.reduceAdd, Nat.reduceLT, evalTs, evalE, evalA, bind_ok, R.calm, if_true, getS, get0, rcv_ref (b := .pop) rfl h1, len_seq (seq_ref h1), ofO_some, e3, pop]
      · simp
      · rw [eraseIdx_map]
        exact get_self g4
      · exact (p3.mono (by omega)).set hm
      · rw [List.length_set, l3, h3]
      · have := erase_perm (xs := rest) (i := s.toNat) (List.getElem?_eq_getElem hs)
        have q : ((ns ++ [rest[s.toNat]]) ++ rest.eraseIdx s.toNat).Perm (ns ++ rest) := by
          rw [List.append_assoc]
          exact List.Perm.append_left ns this
        exact q.nodup_iff.mpr h4
      · have := erase_perm (xs := rest) (i := s.toNat) (List.getElem?_eq_getElem hs)
        have q : ((ns ++ [rest[s.toNat]]) ++ rest.eraseIdx s.toNat).Perm (ns ++ rest) := by
          rw [List.append_assoc]
          exact List.Perm.append_left ns this
        exact fun c hc => h5 c (q.mem_iff.mp hc)
      · rw [List.length_eraseIdx_of_lt hs]; omega
      · rw [List.length_append, h7]; rfl)
    (fun _ _ _ => stays_nil)
    ⟨[], List.range' 97 26, rfl, g1 L _ hm hL, p1, l1, by decide, by decide, by decide, rfl⟩
  refine ⟨ns, M2, ?_, h2.mono (by omega), h3, (List.nodup_append.mp h4).1, fun c hc => h5 c (List.mem_append_left _ hc), by omega, by omega⟩
  have fin : finL false (ns.map sgn) M2 = .ok (.p (.list (ns.map fun c => .str (sign c)))) M2 := by
    unfold finL al
    rw [if_pos (small_n (by rw [List.length_map]; omega)), if_neg (by decide), nums_dt]
    rfl
  simp only [execB, execS, evalE, evalA, evalAnd, evalOr, startD, List.map, List.cons_append, List.nil_append, List.length_cons, List.length_nil, List.replicate, Nat.reduceAdd, Nat.reduceSub, get0, getS, bind_ok, to_ok, then_next, then_ret, out_ret, out_next, ofO_some, truB, if_t, if_f, if_true, sz0, sz1, sz2, sz3, sz4, sz5, sz6, sz7, sz8, sz9, sz10, sz11, sz12, mkT1, mkT2, mkT3, al_tr, alf0, alf1, alf2, alf3, alf4, alf5, alf6, alf7, alf8, setT_nm0, List.set_cons_succ, List.set_cons_zero, Nat.reduceLT] at run
  simp only [row_2, execB, execS, evalE, evalA, evalAnd, evalOr, startD, List.map, List.cons_append, List.nil_append, List.length_cons, List.length_nil, List.replicate, Nat.reduceAdd, Nat.reduceSub, get0, getS, bind_ok, to_ok, then_next, then_ret, out_ret, out_next, ofO_some, truB, if_t, if_f, if_true, sz0, sz1, sz2, sz3, sz4, sz5, sz6, sz7, sz8, sz9, sz10, sz11, sz12, mkT1, mkT2, mkT3, al_tr, alf0, alf1, alf2, alf3, alf4, alf5, alf6, alf7, alf8, setT_nm0, List.set_cons_succ, List.set_cons_zero, Nat.reduceLT, e1, ad_ii, wk, run, fin, Nat.reduceLT, List.set_cons_succ, List.set_cons_zero]
end Mini.Std

namespace Mini.Std
open PySem PySem.Spec PyProof.Rows L2 Mini
variable {gg : Str → Option PyData} {xx : Str → Option Nat} {T : Tab} {cc : Bool}
theorem setTs_4 {d1 d2 d3 d4 : D} {ps : Nat} {p1 p2 p3 p4 q : Nat} {a b c e f s x10 x11 : Option D} :
    setT (.tp [(.nm 6 p1), (.nm 7 p2), (.nm 8 p3), (.nm 9 p4)] ps q) (mkT [d1, d2, d3, d4]) [a, b, c, e, f, s, none, none, none, none, x10, x11] = some [a, b, c, e, f, s, some d1, some d2, some d3, some d4, x10, x11] := by
  unfold setT
  rw [tup_mkT]
  rfl
theorem row_s3 [Has T "_law_draw" std__law_draw] (k : Nat) {n m : Nat} {M : Mem} {a b c e : D} (p : Pool n m M) (hn : n ≤ 10 ^ 10) :
    ∃ (wide style : Int) (M' : Mem), execS ⟨callD gg xx T (k + 1), gg⟩ xx row_3 [some (.ref m), some a, some b, some c, none, some e, none, none, none, none, none, none] M = .next [some (.ref m), some a, some b, some c, none, some e, some (.p (.int wide)), some (.p (.int style)), some (.ref M.length), some (.ref (M.length + 1)), none, none] (M' ++ [.lst [], .dct []]) ∧
      Pool (n + 2) m M' ∧ M'.length = M.length ∧ (wide = 99 ∨ wide = 24) ∧ 0 ≤ style ∧ style < 4 := by
  obtain ⟨r, M1, e1, a1, b1, p1, l1, g1⟩ := draw_1 (gg := gg) (xx := xx) (T := T) k (cnt := 2) p (by omega) (by omega) (by omega)
  obtain ⟨d, e2, h2⟩ := ix2 (a := .int 99) (b := .int 24) (M := M1) a1 b1
  obtain ⟨s, M2, e3, a3, b3, p3, l3, g3⟩ := draw_1 (gg := gg) (xx := xx) (T := T) k (cnt := 4) p1 (by omega) (by omega) (by omega)
  have : ∃ w : Int, d = .int w ∧ (w = 99 ∨ w = 24) := by
    rcases h2 with h | h
    · exact ⟨_, h, .inl rfl⟩
    · exact ⟨_, h, .inr rfl⟩
  obtain ⟨wide, rfl, h4⟩ := this
  refine ⟨wide, s, M2, ?_, p3, by omega, h4, a3, b3⟩
  have e4 : al true [] M2 = some (.ref M2.length, M2 ++ [.lst []]) := rfl
  have e5 : M2.length = M.length := by omega
  simp only [row_3, execB, execS, evalE, evalA, evalAnd, evalOr, startD, List.map, List.cons_append, List.nil_append, List.length_cons, List.length_nil, List.replicate, Nat.reduceAdd, Nat.reduceSub, get0, getS, bind_ok, to_ok, then_next, then_ret, out_ret, out_next, ofO_some, truB, if_t, if_f, if_true, sz0, sz1, sz2, sz3, sz4, sz5, sz6, sz7, sz8, sz9, sz10, sz11, sz12, mkT1, mkT2, mkT3, al_tr, alf0, alf1, alf2, alf3, alf4, alf5, alf6, alf7, alf8, setT_nm0, List.set_cons_succ, List.set_cons_zero, Nat.reduceLT, if_pos (small_n (show 2 ≤ 1000 by omega)), if_pos (small_n (show 0 ≤ 1000 by omega)), if_pos (small_n (show 4 ≤ 1000 by omega)), al_2, e1, e2, e3, e4, setTs_4]
  simp [e5]
theorem seq_data (ds : List PyData) (M : Mem) : seqD M (.p (.list ds)) = some (ds.map .p) := rfl
theorem signs_map (ns : List Nat) : (ns.map fun c => PyData.str (sign c)).map D.p = ns.map sgn := by rw [List.map_map]; rfl
theorem lrg_ok {M : Mem} {w : Int} (h : w = 99 ∨ w = 24) : lrgD true [.p (.int 1), .p (.int (w + 1))] M = some (.ref M.length, M ++ [.lst (rngD 1 w.toNat)]) := by
  have e : ((w + 1) - 1).toNat = w.toNat := by congr 1; omega
  have h1 : rngI [.p (.int 1), .p (.int (w + 1))] = some (1, w + 1) := rfl
  have h2 : (big 1 ∧ big (w + 1)) ∧ (w + 1 - 1).toNat ≤ 2 ^ 24 := by
    unfold big
    omega
  unfold lrgD
  simp only [h1]
  rw [if_pos h2, e]
  rfl
def kv (p : Nat × Nat) : Key × D := (.inr (sign p.1), .ref p.2)
theorem put_new {ps : List (Nat × Nat)} {c a : Nat} (h : c ∉ ps.map (·.1)) : putKD (ps.map kv) (.inr (sign c)) (.ref a) = (ps ++ [(c, a)]).map kv := by
  unfold putKD
  rw [if_neg]
  · simp [kv]
  · intro hh
    rw [List.any_eq_true] at hh
    obtain ⟨z, hz, e⟩ := hh
    obtain ⟨p, hp, rfl⟩ := List.mem_map.mp hz
    have e : kv p = ((.inr (sign c) : Key), D.ref p.2) := by
      have : (kv p).1 = .inr (sign c) := of_decide_eq_true e
      exact Prod.ext this rfl
    have e2 : (Sum.inr (sign p.1) : Key) = .inr (sign c) := congrArg Prod.fst e
    injection e2 with e2
    exact h (List.mem_map.mpr ⟨p, hp, sign_inj.mp e2⟩)
theorem get_kv : ∀ {ps : List (Nat × Nat)} {c a : Nat}, (ps.map (·.1)).Nodup → (c, a) ∈ ps → getKD (ps.map kv) (.inr (sign c)) = some (.ref a)
  | [], c, a, _, h => by cases h
  | p :: ps, c, a, nd, h => by
    rw [List.map_cons, List.nodup_cons] at nd
    unfold getKD
    rw [List.map_cons, List.find?_cons]
    rcases List.mem_cons.mp h with e | e
    · subst e
      simp [kv]
    · have : p.1 ≠ c := fun z => nd.1 (z ▸ List.mem_map.mpr ⟨_, e, rfl⟩)
      have d : decide ((kv p).1 = (.inr (sign c) : Key)) = false := by
        apply decide_eq_false
        intro q
        have q : (Sum.inr (sign p.1) : Key) = .inr (sign c) := q
        injection q with q
        exact this (sign_inj.mp q)
      rw [d]
      have := get_kv (ps := ps) (c := c) (a := a) nd.2 e
      unfold getKD at this
      exact this
theorem ix_dct {M : Mem} {m : Nat} {kds : List (Key × D)} {c : Nat} {d : D} (h : M[m]? = some (.dct kds)) (hg : getKD kds (.inr (sign c)) = some d) : ixD (.ref m) (sgn c) M = some (d, M) := by
  simp [ixD, celD, h, keyD, sgn, hg]
theorem set_dct {M : Mem} {m : Nat} {kds : List (Key × D)} {c : Nat} {d : D} (h : M[m]? = some (.dct kds)) (hl : kds.length ≤ 1000) : setIt (.ref m) (sgn c) d M = some (M.set m (.dct (putKD kds (.inr (sign c)) d))) := by
  simp only [setIt, celD, h, keyD, sgn, Option.bind_some]
  rw [if_pos (by rw [sizeLine_eq]; omega)]
theorem new_take {α : Type} {ns : List α} {i : Nat} {s : α} (nd : ns.Nodup) (h : ns[i]? = some s) : s ∉ ns.take i := by
  intro hs
  have hi := (List.getElem?_eq_some_iff.mp h).1
  have e : ns = ns.take i ++ s :: ns.drop (i + 1) := by
    have := List.take_append_drop i ns
    rw [List.drop_eq_getElem_cons hi, (List.getElem?_eq_some_iff.mp h).2] at this
    exact this.symm
  rw [e, List.nodup_append] at nd
  exact nd.2.2 s hs s List.mem_cons_self rfl
theorem row_s4 (Γ : Wd) {xi : Str → Option Nat} {n m F E : Nat} {M : Mem} {a b c : D} {wide style : Int} {ns : List Nat} (p : Pool n m M) (hF : M[F]? = some (.lst [])) (hE : M[E]? = some (.dct [])) (mE : m ≠ E) (mF : m ≠ F) (hw : wide = 99 ∨ wide = 24) (nd : ns.Nodup) (hl : ns.length ≤ 4) :
    ∃ (x10 : Option D) (ps : List (Nat × Nat)) (M' : Mem), execS Γ xi row_4 [some (.ref m), some a, some b, some c, none, some (.p (.list (ns.map fun c => .str (sign c)))), some (.p (.int wide)), some (.p (.int style)), some (.ref F), some (.ref E), none, none] M = .next [some (.ref m), some a, some b, some c, none, some (.p (.list (ns.map fun c => .str (sign c)))), some (.p (.int wide)), some (.p (.int style)), some (.ref F), some (.ref E), x10, none] M' ∧
      Pool n m M' ∧ M'[F]? = some (.lst []) ∧ M'[E]? = some (.dct (ps.map kv)) ∧ ps.map (·.1) = ns ∧ (ps.map (·.2)).Nodup ∧ (∀ q ∈ ps, q.2 ≠ m ∧ q.2 ≠ F ∧ q.2 ≠ E ∧ M'[q.2]? = some (.lst (rngD 1 wide.toNat))) ∧ M.length ≤ M'.length := by
  have wk := walk_seq (o := .p (.list (ns.map fun c => .str (sign c)))) (M := M) (seq_data _ _)
  let I : Nat → Lo → Mem → Prop := fun i l M' => ∃ (x10 : Option D) (ps : List (Nat × Nat)), l = [some (.ref m), some a, some b, some c, none, some (.p (.list (ns.map fun c => .str (sign c)))), some (.p (.int wide)), some (.p (.int style)), some (.ref F), some (.ref E), x10, none] ∧
    Pool n m M' ∧ M'[F]? = some (.lst []) ∧ M'[E]? = some (.dct (ps.map kv)) ∧ ps.map (·.1) = ns.take i ∧ (ps.map (·.2)).Nodup ∧ (∀ q ∈ ps, q.2 ≠ m ∧ q.2 ≠ F ∧ q.2 ≠ E ∧ M'[q.2]? = some (.lst (rngD 1 wide.toNat))) ∧ M.length ≤ M'.length
  have FE : F ≠ E := fun z => by rw [z, hE] at hF; cases hF
  have stay : ∀ M' : Mem, stays [(D.p (.list (ns.map fun c => .str (sign c))), (ns.map fun c => PyData.str (sign c)).map D.p)] M' = true := fun M' => stays_one (by simp [seqOrTup, seqD])
  obtain ⟨l', M', run, x10, ps, rfl, h1, h2, h3, h4, h5, h6, h7⟩ := forL_inv (w := [(D.p (.list (ns.map fun c => .str (sign c))), (ns.map fun c => PyData.str (sign c)).map D.p)]) (t := .nm 10 0) (body := execB Γ xi row_b4) I (ds := (ns.map fun c => PyData.str (sign c)).map D.p) (M := M) (l := [some (.ref m), some a, some b, some c, none, some (.p (.list (ns.map fun c => .str (sign c)))), some (.p (.int wide)), some (.p (.int style)), some (.ref F), some (.ref E), none, none])
    (by
      rintro i l M' d hd ⟨x10, ps, rfl, h1, h2, h3, h4, h5, h6, h7⟩
      refine ⟨stay M', _, setT_n (by simp), ?_⟩
      rw [signs_map, List.getElem?_map] at hd
      cases hc : ns[i]? with
      | none => rw [hc] at hd; cases hd
      | some s =>
        rw [hc] at hd
        have hd : d = sgn s := by simpa using hd.symm
        subst hd
        have hi : i < ns.length := (List.getElem?_eq_some_iff.mp hc).1
        have plen : ps.length = i := by
          have := congrArg List.length h4
          rw [List.length_map, List.length_take] at this
          omega
        have new : s ∉ ps.map (·.1) := by
          rw [h4]
          exact new_take nd hc
        have g3 : (M' ++ [.lst (rngD 1 wide.toNat)])[E]? = some (.dct (ps.map kv)) := get_app h3
        have hE' : E < M'.length := (List.getElem?_eq_some_iff.mp h3).1
        have hF' : F < M'.length := (List.getElem?_eq_some_iff.mp h2).1
        have hm' : m < M'.length := h1.lt
        refine ⟨[some (.ref m), some a, some b, some c, none, some (.p (.list (ns.map fun c => .str (sign c)))), some (.p (.int wide)), some (.p (.int style)), some (.ref F), some (.ref E), some (sgn s), none], (M' ++ [Cell.lst (rngD 1 wide.toNat)]).set E (Cell.dct ((ps ++ [(s, M'.length)]).map kv)), .inl ?_, some (sgn s), ps ++ [(s, M'.length)], rfl, ?_, ?_, ?_, ?_, ?_, ?_, ?_⟩
        · rw [← put_new new]
          have e1 := lrg_ok (M := M') hw
          have e2 := set_dct (c := s) (d := .ref M'.length) g3 (by rw [List.length_map]; omega)
          simp only [row_b4, execB, execS, evalE, evalA, evalAnd, evalOr, startD, List.map, List.cons_append, List.nil_append, List.length_cons, List.length_nil, List.replicate, Nat.reduceAdd, Nat.reduceSub, get0, getS, bind_ok, to_ok, then_next, then_ret, out_ret, out_next, ofO_some, truB, if_t, if_f, if_true, sz0, sz1, sz2, sz3, sz4, sz5, sz6, sz7, sz8, sz9, sz10, sz11, sz12, mkT1, mkT2, mkT3, al_tr, alf0, alf1, alf2, alf3, alf4, alf5, alf6, alf7, alf8, setT_nm0, List.set_cons_succ, List.set_cons_zero, Nat.reduceLT, List.set_cons_succ, List.set_cons_zero, ad_ii, e1, e2]
        · exact h1.app.set (Ne.symm mE)
        · exact get_set (get_app h2) (Ne.symm FE)
        · exact get_self g3
        · rw [List.map_append, h4, List.take_add_one, hc]
          rfl
        · rw [List.map_append, List.nodup_append]
          refine ⟨h5, by simp, ?_⟩
          intro x hx y hy e
          obtain ⟨q, hq, rfl⟩ := List.mem_map.mp hx
          have hy : y = M'.length := by simpa using hy
          have := (List.getElem?_eq_some_iff.mp (h6 q hq).2.2.2).1
          omega
        · intro q hq
          rcases List.mem_append.mp hq with hq | hq
          · obtain ⟨q1, q2, q3, q4⟩ := h6 q hq
            exact ⟨q1, q2, q3, get_set (get_app q4) (Ne.symm q3)⟩
          · have hq : q = (s, M'.length) := by simpa using hq
            subst hq
            exact ⟨by show M'.length ≠ m; omega, by show M'.length ≠ F; omega, by show M'.length ≠ E; omega, get_set get_new (by show E ≠ M'.length; omega)⟩
        · rw [List.length_set, List.length_append]; omega)
    (fun _ M' _ => stay M')
    ⟨none, [], rfl, p, hF, hE, rfl, by simp, ⟨(fun q hq => by cases hq), Nat.le_refl _⟩⟩
  refine ⟨x10, ps, M', ?_, h1, h2, h3, ?_, h5, h6, h7⟩
  · simp only [row_4, execB, execS, evalE, evalA, evalAnd, evalOr, startD, List.map, List.cons_append, List.nil_append, List.length_cons, List.length_nil, List.replicate, Nat.reduceAdd, Nat.reduceSub, get0, getS, bind_ok, to_ok, then_next, then_ret, out_ret, out_next, ofO_some, truB, if_t, if_f, if_true, sz0, sz1, sz2, sz3, sz4, sz5, sz6, sz7, sz8, sz9, sz10, sz11, sz12, mkT1, mkT2, mkT3, al_tr, alf0, alf1, alf2, alf3, alf4, alf5, alf6, alf7, alf8, setT_nm0, List.set_cons_succ, List.set_cons_zero, Nat.reduceLT, wk, run]
  · rw [h4, List.length_map, List.length_map, List.take_length]
end Mini.Std

namespace Mini.Std
open PySem PySem.Spec PyProof.Rows L2 Mini
variable {gg : Str → Option PyData} {xx : Str → Option Nat} {T : Tab} {cc : Bool}
theorem nodup_inj {α β : Type} {f : α → β} : ∀ {ps : List α} {p q : α}, (ps.map f).Nodup → p ∈ ps → q ∈ ps → f p = f q → p = q
  | [], p, q, _, h, _, _ => by cases h
  | x :: ps, p, q, nd, hp, hq, e => by
    rw [List.map_cons, List.nodup_cons] at nd
    rcases List.mem_cons.mp hp with h1 | h1
    · rcases List.mem_cons.mp hq with h2 | h2
      · rw [h1, h2]
      · exact absurd (List.mem_map.mpr ⟨q, h2, by rw [← e, h1]⟩) nd.1
    · rcases List.mem_cons.mp hq with h2 | h2
      · exact absurd (List.mem_map.mpr ⟨p, h1, by rw [e, h2]⟩) nd.1
      · exact nodup_inj nd.2 h1 h2 e
theorem int_b {c b : Bool} {M : Mem} : bltD c .int [.p (.bool b)] M = some (.p (.int (if b then 1 else 0)), M) := rfl
theorem mk_item {c : Nat} {v : Int} : mkT [sgn c, .p (.int v)] = .p (item (c, v)) := rfl
theorem ix_data {ds : List PyData} {i : Int} {d : PyData} {M : Mem} (h0 : 0 ≤ i) (h : ds[i.toNat]? = some d) : ixD (.p (.list ds)) (.p (.int i)) M = some (.p d, M) := by
  have e : ixD (.p (.list ds)) (.p (.int i)) M = (atI (ds.map .p) i).map fun d => (d, M) := rfl
  have g : (ds.map D.p)[i.toNat]? = some (.p d) := by rw [List.getElem?_map, h]; rfl
  rw [e, at_nat h0 g]
  rfl
def numD (v : Int) : D := .p (.int v)
theorem at0' {a : D} {xs : List D} : atI (a :: xs) 0 = some a := by
  apply at_nat (Int.le_refl 0)
  rfl
theorem pick4 {a b c d N : Int} {s : Int} (h0 : 0 ≤ s) (h4 : s < 4) (ha : 0 ≤ a ∧ a < N) (hb : 0 ≤ b ∧ b < N) (hc : 0 ≤ c ∧ c < N) (hd : 0 ≤ d ∧ d < N) : ∃ v : Int, atI [D.p (.int a), D.p (.int b), D.p (.int c), D.p (.int d)] s = some (D.p (.int v)) ∧ 0 ≤ v ∧ v < N := by
  have : s = 0 ∨ s = 1 ∨ s = 2 ∨ s = 3 := by omega
  rcases this with rfl | rfl | rfl | rfl
  · exact ⟨a, rfl, ha⟩
  · exact ⟨b, rfl, hb⟩
  · exact ⟨c, rfl, hc⟩
  · exact ⟨d, rfl, hd⟩
theorem log_1000 {x : Int} (h0 : 0 ≤ x) (h : x < 10000) : x.natAbs.log2 ≤ 20 := log_small h0 (by omega)
/-- what stands behind the i-th turn -/
def RowI (n m F E : Nat) (wide : Int) (ps : List (Nat × Nat)) (M0 i : Nat) (xs : List (Nat × Int)) (M : Mem) : Prop :=
  Pool (n + 3 * i) m M ∧ M[E]? = some (.dct (ps.map kv)) ∧ M[F]? = some (.lst (row xs)) ∧ xs.length = i ∧ xs.Nodup ∧ (∀ x ∈ xs, x.1 ∈ ps.map (·.1) ∧ 1 ≤ x.2 ∧ x.2 ≤ wide) ∧ M0 ≤ M.length ∧
    ∀ q ∈ ps, ∃ nums : List Int, M[q.2]? = some (.lst (nums.map numD)) ∧ nums.Nodup ∧ (∀ v ∈ nums, 1 ≤ v ∧ v ≤ wide ∧ (q.1, v) ∉ xs) ∧ wide ≤ nums.length + i ∧ nums.length ≤ 99
theorem row_turn [Has T "_law_draw" std__law_draw] (k : Nat) {n m F E M0 i : Nat} {M : Mem} {a c : D} {many wide style : Int} {ns : List Nat} {ps : List (Nat × Nat)} {xs : List (Nat × Int)} {x10 x11 : Option D}
    (hn : n + 3 * i ≤ 10 ^ 10) (hi : (i : Int) < many) (hm : many ≤ 24) (hw : wide = 99 ∨ wide = 24) (s0 : 0 ≤ style) (s4 : style < 4) (nl : ns ≠ []) (ns4 : ns.length ≤ 4) (pn : ps.map (·.1) = ns) (nd : ns.Nodup) (nd2 : (ps.map (·.2)).Nodup)
    (off : ∀ q ∈ ps, q.2 ≠ m ∧ q.2 ≠ F ∧ q.2 ≠ E) (mE : m ≠ E) (mF : m ≠ F) (I : RowI n m F E wide ps M0 i xs M) :
    ∃ (y10 y11 : Option D) (xs' : List (Nat × Int)) (M' : Mem), execB ⟨callD gg xx T (k + 1), gg⟩ xx row_b5 [some (.ref m), some a, some (.p (.int many)), some c, some (.p (.int i)), some (.p (.list (ns.map fun c => .str (sign c)))), some (.p (.int wide)), some (.p (.int style)), some (.ref F), some (.ref E), x10, x11] M =
      .next [some (.ref m), some a, some (.p (.int many)), some c, some (.p (.int i)), some (.p (.list (ns.map fun c => .str (sign c)))), some (.p (.int wide)), some (.p (.int style)), some (.ref F), some (.ref E), y10, y11] M' ∧ RowI n m F E wide ps M0 (i + 1) xs' M' := by
  obtain ⟨p, hE, hF, hx, ndx, okx, hM0, hnum⟩ := I
  have FE : F ≠ E := fun z => by rw [z, hE] at hF; cases hF
  have nS : 0 < ns.length := List.length_pos_iff.mpr nl
  have ls : ∀ (c : Bool) (M : Mem), bltD c .len [.p (.list (ns.map fun c => .str (sign c)))] M = some (.p (.int ns.length), M) := fun c M => by
    rw [len_seq (seq_data _ _), List.length_map, List.length_map]
  obtain ⟨r0, M1, e1, a1, b1, p1, l1, g1⟩ := draw_1 (gg := gg) (xx := xx) (T := T) k (cnt := (ns.length : Int)) p (by omega) (by omega) (by omega)
  have q1 : 0 ≤ (i : Int) % ns.length ∧ (i : Int) % ns.length < ns.length := ⟨Int.emod_nonneg _ (by omega), Int.emod_lt_of_pos _ (by omega)⟩
  have q2 : 0 ≤ (i : Int) * ns.length / many ∧ (i : Int) * ns.length / many < ns.length := by
    refine ⟨Int.ediv_nonneg (Int.mul_nonneg (by omega) (by omega)) (by omega), Int.ediv_lt_of_lt_mul (by omega) ?_⟩
    rw [Int.mul_comm]
    exact Int.mul_lt_mul_of_pos_left hi (by omega)
  have t1 : ∀ M : Mem, binD false .Mod (.p (.int i)) (.p (.int ns.length)) M = some (.p (.int ((i : Int) % ns.length)), M) := fun M => mod_ii (by omega)
  have t2 : ∀ M : Mem, binD false .Mult (.p (.int i)) (.p (.int ns.length)) M = some (.p (.int ((i : Int) * ns.length)), M) := fun M => mu_ii (by
    have h1 := log_1000 (x := (i : Int)) (by omega) (by omega)
    have h2 := log_1000 (x := (ns.length : Int)) (by omega) (by omega)
    omega)
  have t3 : ∀ M : Mem, binD false .FloorDiv (.p (.int ((i : Int) * ns.length))) (.p (.int many)) M = some (.p (.int ((i : Int) * ns.length / many)), M) := fun M => fd_ii (by omega) (by
    have h1 := log_1000 (x := many) (by omega) (by omega)
    omega)
  have al1 : al true [.p (.int r0), .p (.int ((i : Int) % ns.length)), .p (.int ((i : Int) * ns.length / many))] M1 = some (.ref M1.length, M1 ++ [.lst [.p (.int r0), .p (.int ((i : Int) % ns.length)), .p (.int ((i : Int) * ns.length / many))]]) := rfl
  have hA : (M1 ++ [Cell.lst [.p (.int r0), .p (.int ((i : Int) % ns.length)), .p (.int ((i : Int) * ns.length / many))]])[M1.length]? = some (.lst [.p (.int r0), .p (.int ((i : Int) % ns.length)), .p (.int ((i : Int) * ns.length / many))]) := get_new
  have hmM : m < M.length := p.lt
  have hFM : F < M.length := (List.getElem?_eq_some_iff.mp hF).1
  have hEM : E < M.length := (List.getElem?_eq_some_iff.mp hE).1
  obtain ⟨r3, M2, e2, a2, b2, p2, l2, g2⟩ := draw_1 (gg := gg) (xx := xx) (T := T) k (cnt := 4) (p1.app (N := [Cell.lst [.p (.int r0), .p (.int ((i : Int) % ns.length)), .p (.int ((i : Int) * ns.length / many))]])) (by omega) (by omega) (by omega)
  have hA2 := g2 M1.length _ (by omega) hA
  have q3 : 0 ≤ r0 * (if decide (r3 = 0) then 1 else 0) ∧ r0 * (if decide (r3 = 0) then 1 else 0) < (ns.length : Int) := by
    split <;> omega
  have t4 : ∀ M : Mem, binD false .Mult (.p (.int r0)) (.p (.int (if decide (r3 = 0) = true then 1 else 0))) M = some (.p (.int (r0 * (if decide (r3 = 0) = true then 1 else 0))), M) := fun M => mu_ii (by
    have h1 := log_1000 (x := r0) (by omega) (by omega)
    have h2 := log_1000 (x := if decide (r3 = 0) = true then 1 else 0) (by split <;> omega) (by split <;> omega)
    omega)
  -- the third memory: M2 with the cell of choices
  let M3 : Mem := M2.set M1.length (.lst [.p (.int r0), .p (.int ((i : Int) % ns.length)), .p (.int ((i : Int) * ns.length / many)), .p (.int (r0 * (if decide (r3 = 0) = true then 1 else 0)))])
  have t5 : mthD false .append (.ref M1.length) [.p (.int (r0 * (if decide (r3 = 0) = true then 1 else 0)))] M2 = some (nonD, M3) := app_at (y := .p (.int (r0 * (if decide (r3 = 0) = true then 1 else 0)))) (c := false) hA2 (by simp)
  have hA3 : M3[M1.length]? = some (.lst [.p (.int r0), .p (.int ((i : Int) % ns.length)), .p (.int ((i : Int) * ns.length / many)), .p (.int (r0 * (if decide (r3 = 0) = true then 1 else 0)))]) := get_self hA2
  obtain ⟨v, t6, v0, v1⟩ := pick4 (N := ns.length) s0 s4 ⟨a1, b1⟩ q1 q2 q3
  have hv : v.toNat < ns.length := by omega
  let s := ns[v.toNat]
  have t7 : ∀ M : Mem, ixD (.p (.list (ns.map fun c => .str (sign c)))) (.p (.int v)) M = some (sgn s, M) := fun M => ix_data v0 (by rw [List.getElem?_map, List.getElem?_eq_getElem hv]; rfl)
  have hs : s ∈ ps.map (·.1) := by rw [pn]; exact List.getElem_mem hv
  obtain ⟨⟨s', ad⟩, hq, hs'⟩ := List.mem_map.mp hs
  have hs' : s' = s := hs'
  subst hs'
  obtain ⟨nums, hc, ndn, okn, ln, l99⟩ := hnum _ hq
  obtain ⟨om, oF, oE⟩ := off _ hq
  have om : ad ≠ m := om
  have oF : ad ≠ F := oF
  have oE : ad ≠ E := oE
  have hc : M[ad]? = some (.lst (nums.map numD)) := hc
  have had : ad < M.length := (List.getElem?_eq_some_iff.mp hc).1
  have keep3 : ∀ (j : Nat) (z : Cell), j ≠ m → M[j]? = some z → M3[j]? = some z := fun j z hj h => by
    have hjl := (List.getElem?_eq_some_iff.mp h).1
    exact get_set (g2 j z hj (get_app (g1 j z hj h))) (by omega)
  have p3 : Pool (n + 3 * i + 1 + 1) m M3 := p2.set (by omega)
  have l3 : M3.length = M.length + 1 := by
    show (M2.set _ _).length = _
    rw [List.length_set, l2, List.length_append]
    simp [l1]
  have E3 := keep3 E _ (Ne.symm mE) hE
  have F3 := keep3 F _ (Ne.symm mF) hF
  have c3 := keep3 ad _ om hc
  have t8 := ix_dct (c := s) E3 (get_kv (by rw [pn]; exact nd) hq)
  have ln1 : 0 < nums.length := by omega
  have t9 : ∀ c : Bool, bltD c .len [.ref ad] M3 = some (.p (.int nums.length), M3) := fun c => by rw [len_seq (seq_ref c3), List.length_map]
  obtain ⟨r4, M4, e4, a4, b4, p4, l4, g4⟩ := draw_1 (gg := gg) (xx := xx) (T := T) k (cnt := (nums.length : Int)) p3 (by omega) (by omega) (by omega)
  have hr : r4.toNat < nums.length := by omega
  have c4 := g4 ad _ om c3
  have t10 := pop_at (c := false) (i := r4) (y := numD nums[r4.toNat]) c4 a4 (by rw [List.getElem?_map, List.getElem?_eq_getElem hr]; rfl) (by omega)
  let M5 : Mem := M4.set ad (.lst ((nums.map numD).eraseIdx r4.toNat))
  have F5 : M5[F]? = some (.lst (row xs)) := get_set (g4 F _ (Ne.symm mF) F3) oF
  have E5 : M5[E]? = some (.dct (ps.map kv)) := get_set (g4 E _ (Ne.symm mE) E3) oE
  have t11 := app_at (y := .p (item (s, nums[r4.toNat]))) (c := false) F5 (by unfold row; rw [List.length_map]; omega)
  have new : (s, nums[r4.toNat]) ∉ xs := (okn _ (List.getElem_mem hr)).2.2
  refine ⟨some (sgn s), some (.ref M1.length), xs ++ [(s, nums[r4.toNat])], M5.set F (.lst (row xs ++ [.p (item (s, nums[r4.toNat]))])), ?_, ?_, ?_, ?_, ?_, ?_, ?_, ?_, ?_⟩
  · have m5 : M4.set ad (.lst ((nums.map numD).eraseIdx r4.toNat)) = M5 := rfl
    have i3 : ixD (.ref M1.length) (.p (.int style)) M3 = some (.p (.int v), M3) := by
      rw [ix_ref hA3]
      show (atI [_, _, _, _] style).map _ = _
      rw [t6]
      rfl
    have i1 := ix_ref (k := 0) hA
    rw [at0'] at i1
    simp only [row_b5, execB, execS, evalE, evalA, evalAnd, evalOr, startD, List.map, List.cons_append, List.nil_append, List.length_cons, List.length_nil, List.replicate, Nat.reduceAdd, Nat.reduceSub, get0, getS, bind_ok, to_ok, then_next, then_ret, out_ret, out_next, ofO_some, truB, if_t, if_f, if_true, sz0, sz1, sz2, sz3, sz4, sz5, sz6, sz7, sz8, sz9, sz10, sz11, sz12, mkT1, mkT2, mkT3, al_tr, alf0, alf1, alf2, alf3, alf4, alf5, alf6, alf7, alf8, setT_nm0, List.set_cons_succ, List.set_cons_zero, Nat.reduceLT, ls, e1, t1, t2, t3, if_pos (small_n (show 3 ≤ 1000 by omega)), al1, setT_n, Nat.reduceLT, List.set_cons_succ, List.set_cons_zero, rcv_ref (b := .append) rfl hA, i1, Option.map_some, e2, eq_ii, int_b, t4, t5, i3, t7, rcv_ref (b := .append) rfl F3, t8, rcv_ref (b := .pop) rfl c3, t9, e4, t10, m5, if_pos (small_n (show 2 ≤ 1000 by omega))]
    rw [show mkT [sgn s, numD nums[r4.toNat]] = .p (item (s, nums[r4.toNat])) from rfl, t11]
    rfl
  · exact ((p4.mono (by omega)).set om).set (Ne.symm mF)
  · exact get_set E5 FE
  · have : row (xs ++ [(s, nums[r4.toNat])]) = row xs ++ [.p (item (s, nums[r4.toNat]))] := by unfold row; rw [List.map_append]; rfl
    rw [this]
    exact get_self F5
  · rw [List.length_append, hx]; rfl
  · rw [List.nodup_append]
    refine ⟨ndx, by simp, ?_⟩
    intro y hy z hz e
    have hz : z = (s, nums[r4.toNat]) := by simpa using hz
    rw [e, hz] at hy
    exact new hy
  · intro y hy
    rcases List.mem_append.mp hy with hy | hy
    · exact okx y hy
    · have hy : y = (s, nums[r4.toNat]) := by simpa using hy
      subst hy
      have := okn _ (List.getElem_mem hr)
      exact ⟨hs, this.1, this.2.1⟩
  · rw [List.length_set]
    show M0 ≤ (M4.set _ _).length
    rw [List.length_set, l4, l3]
    omega
  · intro q hq2
    by_cases hqa : q = (s, ad)
    · subst hqa
      have pm := erase_perm (xs := nums) (i := r4.toNat) (List.getElem?_eq_getElem hr)
      have nd3 := pm.nodup_iff.mpr ndn
      rw [List.nodup_cons] at nd3
      refine ⟨nums.eraseIdx r4.toNat, ?_, nd3.2, ?_, ?_, ?_⟩
      · rw [← eraseIdx_map]
        exact get_set (get_self c4) (Ne.symm oF)
      · intro w hw2
        have hin : w ∈ nums := pm.mem_iff.mp (List.mem_cons_of_mem _ hw2)
        refine ⟨(okn w hin).1, (okn w hin).2.1, ?_⟩
        intro hh
        rcases List.mem_append.mp hh with hh | hh
        · exact (okn w hin).2.2 hh
        · have hh : w = nums[r4.toNat] := by simpa using hh
          exact nd3.1 (hh ▸ hw2)
      · rw [List.length_eraseIdx_of_lt hr]; omega
      · rw [List.length_eraseIdx_of_lt hr]; omega
    · obtain ⟨nums2, h1, h2, h3, h4, h5⟩ := hnum q hq2
      obtain ⟨o1, o2, o3⟩ := off q hq2
      have ne2 : q.2 ≠ ad := fun e => hqa (nodup_inj nd2 hq2 hq e)
      have ne1 : q.1 ≠ s := fun e => hqa (nodup_inj (by rw [pn]; exact nd) hq2 hq e)
      refine ⟨nums2, get_set (get_set (g4 q.2 _ o1 (keep3 q.2 _ o1 h1)) (Ne.symm ne2)) (Ne.symm o2), h2, ?_, by omega, h5⟩
      intro w hw2
      refine ⟨(h3 w hw2).1, (h3 w hw2).2.1, ?_⟩
      intro hh
      rcases List.mem_append.mp hh with hh | hh
      · exact (h3 w hw2).2.2 hh
      · have hh : q.1 = s ∧ w = nums[r4.toNat] := by simpa using hh
        exact ne1 hh.1
end Mini.Std

namespace Mini.Std
open PySem PySem.Spec PyProof.Rows L2 Mini
variable {gg : Str → Option PyData} {xx : Str → Option Nat} {T : Tab} {cc : Bool}
theorem withK_nodup {κ : Type} [DecidableEq κ] {ks : List κ} {k : κ} (h : ks.Nodup) : (withK ks k).Nodup := by
  unfold withK
  split
  · exact h
  · rename_i hk
    rw [List.nodup_append]
    refine ⟨h, by simp, ?_⟩
    intro a ha b hb e
    have hb : b = k := by simpa using hb
    exact hk (hb ▸ e ▸ ha)
theorem dedupK_nodup (ks : List Key) : (dedupK ks).Nodup := by
  unfold dedupK
  have key : ∀ (ks acc : List Key), acc.Nodup → (ks.foldl withK acc).Nodup := by
    intro ks
    induction ks with
    | nil => intro acc h; exact h
    | cons k ks ih => intro acc h; exact ih _ (withK_nodup h)
  exact key ks [] (by simp)
theorem sub_len {κ : Type} [DecidableEq κ] : ∀ {xs ys : List κ}, xs.Nodup → (∀ x ∈ xs, x ∈ ys) → xs.length ≤ ys.length
  | [], ys, _, _ => Nat.zero_le _
  | x :: xs, ys, nd, h => by
    rw [List.nodup_cons] at nd
    have hx : x ∈ ys := h x List.mem_cons_self
    have ih := sub_len (xs := xs) (ys := ys.erase x) nd.2 (fun y hy => (List.mem_erase_of_ne (fun (e : y = x) => nd.1 (e ▸ hy))).mpr (h y (List.mem_cons_of_mem _ hy)))
    rw [List.length_erase_of_mem hx] at ih
    have := List.length_pos_of_mem hx
    rw [List.length_cons]
    omega
theorem tags_few {xs : List (Nat × Int)} {ns : List Nat} (h : ∀ x ∈ xs, x.1 ∈ ns) : (dedupK (tagKeys xs)).length ≤ ns.length := by
  have := sub_len (xs := dedupK (tagKeys xs)) (ys := ns.map fun c => (.inr (sign c) : Key)) (dedupK_nodup _) (fun k hk => by
    rw [dedupK_mem] at hk
    obtain ⟨x, hx, rfl⟩ := List.mem_map.mp hk
    exact List.mem_map.mpr ⟨x.1, h x hx, rfl⟩)
  rw [List.length_map] at this
  exact this
/-- _law_row draws a good row into a new cell -/
theorem row_ok [Has T "_law_row" std__law_row] [Has T "_law_draw" std__law_draw] (k : Nat) {n m : Nat} {M : Mem} {most : Int} (p : Pool n m M) (hn : n ≤ 10 ^ 9) (h0 : 1 ≤ most) (h1 : most ≤ 24) :
    ∃ (F : Nat) (xs : List (Nat × Int)) (M' : Mem), callD gg xx T (k + 2) "_law_row" [.ref m, .p (.int most)] M = .ok (.ref F) M' ∧ M'[F]? = some (.lst (row xs)) ∧ Good xs ∧ (xs.length : Int) ≤ most ∧ Pool (n + 100) m M' ∧ m ≠ F ∧ M.length ≤ F := by
  have hm := p.lt
  obtain ⟨many, M1, e1, mn0, mn1, p1, l1⟩ := row_s0 (gg := gg) (xx := xx) (T := T) k p (by omega) h0 h1
  have e2 := row_s1 ⟨callD gg xx T (k + 1), gg⟩ (xx := xx) (m := m) (M := M1) (a := .p (.int most)) (b := .p (.int many))
  obtain ⟨ns, M2, e3, p2, l2, nd, rng, n1, n4⟩ := row_s2 (gg := gg) (xx := xx) (T := T) k (L := M1.length) (a := .p (.int most)) (b := .p (.int many)) (p1.app (N := [.lst ((List.range' 97 26).map sgn)])) (by omega) get_new (by omega)
  rw [List.length_append] at l2
  obtain ⟨wide, style, M3, e4, p3, l3, hw, s0, s4⟩ := row_s3 (gg := gg) (xx := xx) (T := T) k (a := .p (.int most)) (b := .p (.int many)) (c := .ref M1.length) (e := .p (.list (ns.map fun c => .str (sign c)))) p2 (by omega)
  have l2 : M2.length = M.length + 1 := by rw [l2, l1]; rfl
  have hF : (M3 ++ [Cell.lst [], .dct []])[M2.length]? = some (.lst []) := by rw [← l3]; exact get_new
  have hE : (M3 ++ [Cell.lst [], .dct []])[M2.length + 1]? = some (.dct []) := by rw [← l3]; simp
  obtain ⟨x10, ps, M4, e5, p4, F4, E4, pn, nd2, off, l4⟩ := row_s4 ⟨callD gg xx T (k + 1), gg⟩ (xi := xx) (a := .p (.int most)) (b := .p (.int many)) (c := .ref M1.length) (style := style) (p3.app (N := [.lst [], .dct []])) hF hE (by omega) (by omega) hw nd n4
  have l4 : M.length + 3 ≤ M4.length := by rw [List.length_append, l3, l2] at l4; exact l4
  have wk := walk_rng1 (p := 0) (q := 0) (j := many) (M := M4) (by unfold big; omega)
  let I : Nat → Lo → Mem → Prop := fun i l M' => ∃ (x4 x10 x11 : Option D) (xs : List (Nat × Int)), l = [some (.ref m), some (.p (.int most)), some (.p (.int many)), some (.ref M1.length), x4, some (.p (.list (ns.map fun c => .str (sign c)))), some (.p (.int wide)), some (.p (.int style)), some (.ref M2.length), some (.ref (M2.length + 1)), x10, x11] ∧ RowI (n + 3 + 5 + 2) m M2.length (M2.length + 1) wide ps 0 i xs M'
  have wd : 24 ≤ wide ∧ wide ≤ 99 := by omega
  obtain ⟨l5, M5, e6, x4', x10', x11', xs, rfl, p5, E5, F5, hx, ndx, okx, -, -⟩ := forL_inv (w := []) (t := .nm 4 0) (body := execB ⟨callD gg xx T (k + 1), gg⟩ xx row_b5) I (ds := rngD 0 many.toNat) (M := M4) (l := [some (.ref m), some (.p (.int most)), some (.p (.int many)), some (.ref M1.length), none, some (.p (.list (ns.map fun c => .str (sign c)))), some (.p (.int wide)), some (.p (.int style)), some (.ref M2.length), some (.ref (M2.length + 1)), x10, none])
    (by
      rintro i l M' d hd ⟨x4, x10, x11, xs, rfl, J⟩
      obtain ⟨hi, rfl⟩ := rng_get hd
      refine ⟨stays_nil, _, setT_n (by simp), ?_⟩
      obtain ⟨y10, y11, xs', M'', run, J'⟩ := row_turn (gg := gg) (xx := xx) (T := T) (n := n + 3 + 5 + 2) (i := i) (many := many) k (a := .p (.int most)) (c := .ref M1.length) (x10 := x10) (x11 := x11) (by omega) (by omega) (by omega) hw s0 s4 (by intro z; rw [z] at n1; cases n1) n4 pn nd nd2 (fun q hq => ⟨(off q hq).1, (off q hq).2.1, (off q hq).2.2.1⟩) (by omega) (by omega) J
      rw [show (0 : Int) + i = i by omega]
      exact ⟨_, M'', .inl run, _, y10, y11, xs', rfl, J'⟩)
    (fun _ _ _ => stays_nil)
    ⟨none, x10, none, [], rfl, p4, E4, F4, rfl, by simp, (fun x hx => by cases hx), Nat.zero_le _, fun q hq => by
      obtain ⟨-, -, -, h⟩ := off q hq
      refine ⟨(List.range wide.toNat).map fun (k : Nat) => (1 : Int) + (k : Int), ?_, ?_, ?_, ?_, ?_⟩
      · rw [h]
        unfold rngD
        rw [List.map_map]
        rfl
      · rw [List.Nodup, List.pairwise_map]
        exact List.nodup_range.imp fun h e => h (by omega)
      · intro v hv
        obtain ⟨j, hj, rfl⟩ := List.mem_map.mp hv
        have := List.mem_range.mp hj
        exact ⟨by omega, by omega, by simp⟩
      · rw [List.length_map, List.length_range]; omega
      · rw [List.length_map, List.length_range]; omega⟩
  have lx : xs.length = many.toNat := by rw [hx, rng_len]
  refine ⟨M2.length, xs, M5, ?_, F5, ⟨?_, ndx, by omega, by omega, ?_⟩, by omega, p5.mono (by rw [rng_len]; omega), by omega, by omega⟩
  · rw [call_has (F := std__law_row) inferInstance rfl]
    have start : startD std__law_row.N [D.ref m, .p (.int most)] = [some (.ref m), some (.p (.int most)), none, none, none, none, none, none, none, none, none, none] := rfl
    have e7 : execS ⟨callD gg xx T (k + 1), gg⟩ xx row_5 [some (.ref m), some (.p (.int most)), some (.p (.int many)), some (.ref M1.length), none, some (.p (.list (ns.map fun c => .str (sign c)))), some (.p (.int wide)), some (.p (.int style)), some (.ref M2.length), some (.ref (M2.length + 1)), x10, none] M4 = .next [some (.ref m), some (.p (.int most)), some (.p (.int many)), some (.ref M1.length), x4', some (.p (.list (ns.map fun c => .str (sign c)))), some (.p (.int wide)), some (.p (.int style)), some (.ref M2.length), some (.ref (M2.length + 1)), x10', x11'] M5 := by
      simp only [row_5, execB, execS, evalE, evalA, evalAnd, evalOr, startD, List.map, List.cons_append, List.nil_append, List.length_cons, List.length_nil, List.replicate, Nat.reduceAdd, Nat.reduceSub, get0, getS, bind_ok, to_ok, then_next, then_ret, out_ret, out_next, ofO_some, truB, if_t, if_f, if_true, sz0, sz1, sz2, sz3, sz4, sz5, sz6, sz7, sz8, sz9, sz10, sz11, sz12, mkT1, mkT2, mkT3, al_tr, alf0, alf1, alf2, alf3, alf4, alf5, alf6, alf7, alf8, setT_nm0, List.set_cons_succ, List.set_cons_zero, Nat.reduceLT, wk, e6]
    have body : outR (execB ⟨callD gg xx T (k + 1), gg⟩ xx std__law_row.body (startD std__law_row.N [D.ref m, .p (.int most)]) M) = .ok (.ref M2.length) M5 := by
      rw [start]
      simp only [std__law_row, execB, e1, then_next, e2, e3, e4, e5, e7]
      rfl
    rw [body, gc_no]
    unfold D.bd
    exact decide_eq_false (by omega)
  · intro x hx2
    obtain ⟨h1, h2, h3⟩ := okx x hx2
    rw [pn] at h1
    have := rng _ h1
    exact ⟨this.1, this.2, h2, by omega⟩
  · have := tags_few (xs := xs) (ns := ns) fun x hx2 => by rw [← pn]; exact (okx x hx2).1
    omega
end Mini.Std

namespace Mini.Std
open PySem PySem.Spec PyProof.Rows L2 Mini
variable {gg : Str → Option PyData} {xx : Str → Option Nat} {T : Tab} {cc : Bool}
def law_b : List S := [
    .ite (.not (.cal "_law_holds" [(.cal "_law_source" [(.var 2 0), (.var 1 0)] 0 0), (.ife (.cmp .Eq (.var 0 0) (.lst false [] 0) 0) (.int 5 0) (.int 24 0) 0)] 0 0) 0) [
      .ret (.bl false 0) 0] [] 0]
def std_law (L : Int) : Fn := ⟨1, ["_law_script", "_law_k", "_law_cell"], [
  .for_ (.enu 0 0) [(.sl false (.bin false .Add (.var 0 0) (.lst false [(.int 0 0)] 0) 0) .nop (.blt false .max [(.int 1 0), (.blt false .min [(.blt false .len [(.var 0 0)] 0 0), (.int L 0)] 0 0)] 0 0) 0 0)] (.tp [(.nm 1 0), (.nm 2 0)] 0 0) law_b 0,
  .ret (.bl true 0) 0]⟩
theorem gc_any (M M' : Mem) (d : D) : ∃ M'', gc M (.ok d M') = .ok d M'' := by
  by_cases h : gcOk M d M'
  · exact ⟨_, if_pos h⟩
  · exact ⟨_, if_neg h⟩
theorem enu_get : ∀ {xs : List D} {n i : Nat} {d : D}, (enuD n xs)[i]? = some d → ∃ x, xs[i]? = some x ∧ d = mkT [.p (.int ((n + i : Nat) : Int)), x]
  | [], n, i, d, h => by simp [enuD] at h
  | x :: xs, n, 0, d, h => by
    unfold enuD at h
    exact ⟨x, rfl, by simpa using h.symm⟩
  | x :: xs, n, i + 1, d, h => by
    unfold enuD at h
    obtain ⟨y, h1, h2⟩ := enu_get (xs := xs) (n := n + 1) (i := i) (d := d) (by simpa using h)
    exact ⟨y, by simpa using h1, by rw [h2]; congr 4; omega⟩
theorem enu_len : ∀ {xs : List D} {n : Nat}, (enuD n xs).length = xs.length
  | [], n => rfl
  | x :: xs, n => by unfold enuD; rw [List.length_cons, List.length_cons, enu_len]
theorem cut_map {α β : Type} (f : α → β) (xs : List α) (lo hi : Option Int) : cutL (xs.map f) lo hi = (cutL xs lo hi).map f := by
  unfold cutL
  rw [List.length_map, List.map_take, List.map_drop]
theorem cut_len {α : Type} (xs : List α) (lo hi : Option Int) : (cutL xs lo hi).length ≤ xs.length := by
  unfold cutL
  rw [List.length_take, List.length_drop]
  omega
theorem setT_2 {a b : D} {p1 p2 ps q : Nat} {s x y : Option D} : setT (.tp [(.nm 1 p1), (.nm 2 p2)] ps q) (mkT [a, b]) [s, x, y] = some [s, some a, some b] := by
  unfold setT
  rw [tup_mkT]
  rfl
theorem law_ok {L : Int} [Has T "law" (std_law L)] [Has T "_law_source" std__law_source] (k : Nat) (H : ∀ (M : Mem) (m : Nat) (most : Int), Pool 0 m M → 5 ≤ most → most ≤ 24 → ∃ M', callD gg xx T (k + 1) "_law_holds" [.ref m, .p (.int most)] M = .ok (.p (.bool true)) M') :
    ∀ ns : List Int, ns.length ≤ 63 → ∃ M', callD gg xx T (k + 2) "law" [.p (.list (ns.map .int))] [] = .ok (.p (.bool true)) M' := by
  intro ns hns
  rw [call_has (F := std_law L) inferInstance rfl]
  let cs : List Int := cutL (ns ++ [0]) none (some (if (if L < (ns.length : Int) then L else (ns.length : Int)) > 1 then (if L < (ns.length : Int) then L else (ns.length : Int)) else 1))
  have lcs : cs.length ≤ 64 := by
    have := cut_len (ns ++ [0]) none (some (if (if L < (ns.length : Int) then L else (ns.length : Int)) > 1 then (if L < (ns.length : Int) then L else (ns.length : Int)) else 1))
    rw [List.length_append] at this
    exact Nat.le_trans this (by simp; omega)
  have seq : ∀ M, seqD M (.p (.list (ns.map .int))) = some ((ns.map .int).map .p) := fun M => rfl
  have ls : ∀ (c : Bool) (M : Mem), bltD c .len [.p (.list (ns.map .int))] M = some (.p (.int ns.length), M) := fun c M => by
    rw [len_seq (seq_data _ _), List.length_map, List.length_map]
  have add : binD false .Add (.p (.list (ns.map .int))) (.p (.list [.int 0])) [] = some (.p (.list ((ns ++ [0]).map .int)), []) := by
    have e : binD false .Add (.p (.list (ns.map .int))) (.p (.list [.int 0])) [] = (if ((ns.map PyData.int).map D.p).length + ([PyData.int 0].map D.p).length ≤ sizeLine then al false ((ns.map PyData.int).map D.p ++ [PyData.int 0].map D.p) [] else none) := rfl
    rw [e, if_pos (small_n (by simp; omega)), ← List.map_append]
    unfold al
    rw [if_neg (by decide), Mini.pAll_map]
    simp
  have cut : ∀ j : Int, slD false (.p (.list ((ns ++ [0]).map .int))) none (some j) [] = some (.p (.list ((cutL (ns ++ [0]) none (some j)).map .int)), []) := fun j => by
    have e : slD false (.p (.list ((ns ++ [0]).map .int))) none (some j) [] = al false (cutL (((ns ++ [0]).map PyData.int).map D.p) none (some j)) [] := rfl
    rw [e, cut_map, cut_map]
    unfold al
    rw [if_neg (by decide), Mini.pAll_map]
    rfl
  have eqe : ∀ M : Mem, ∃ b : Bool, cmpD .Eq (.p (.list (ns.map .int))) (.p (.list [])) M = some (.p (.bool b), M) := fun M => by
    refine ⟨PyData.eqv (.list (ns.map .int)) (.list []), ?_⟩
    have e : cmpD .Eq (.p (.list (ns.map .int))) (.p (.list [])) M = (eqP (.list (ns.map .int)) (.list [])).map fun k => (.p (.bool k), M) := rfl
    rw [e]
    unfold eqP
    rw [if_pos (by rw [Bool.or_eq_true]; exact .inr rfl)]
    rfl
  have wk : walkR (.enu 0 0) [.p (.list (cs.map .int))] [] = .ok (enuD 0 ((cs.map PyData.int).map D.p), [(.p (.list (cs.map .int)), (cs.map PyData.int).map D.p)]) [] := rfl
  have stay : ∀ M' : Mem, stays [(D.p (.list (cs.map .int)), (cs.map PyData.int).map D.p)] M' = true := fun M' => stays_one (by simp [seqOrTup, seqD])
  let I : Nat → Lo → Mem → Prop := fun i l M' => ∃ x y, l = [some (.p (.list (ns.map .int))), x, y]
  obtain ⟨l', M', run, x, y, rfl⟩ := forL_inv (w := [(D.p (.list (cs.map .int)), (cs.map PyData.int).map D.p)]) (t := .tp [(.nm 1 0), (.nm 2 0)] 0 0) (body := execB ⟨callD gg xx T (k + 1), gg⟩ xx law_b) I (ds := enuD 0 ((cs.map PyData.int).map D.p)) (M := []) (l := [some (.p (.list (ns.map .int))), none, none])
    (by
      rintro i l M d hd ⟨x, y, rfl⟩
      obtain ⟨z, hz, rfl⟩ := enu_get hd
      have hi : i < cs.length := by
        have := (List.getElem?_eq_some_iff.mp hz).1
        rw [List.length_map, List.length_map] at this
        exact this
      rw [List.getElem?_map, List.getElem?_map, List.getElem?_eq_getElem hi] at hz
      have hz : z = .p (.int cs[i]) := by simpa using hz.symm
      subst hz
      refine ⟨stay M, _, setT_2, ?_⟩
      obtain ⟨c2, e1, p1⟩ := source_ok (gg := gg) (xx := xx) (T := T) k M (cell := cs[i]) (kk := ((0 + i : Nat) : Int)) (by omega) (by omega)
      obtain ⟨b, e2⟩ := eqe (M ++ [c2])
      obtain ⟨M3, e3⟩ := H (M ++ [c2]) M.length (if b = true then 5 else 24) p1 (by split <;> omega) (by split <;> omega)
      refine ⟨_, M3, .inl ?_, some (.p (.int ((0 + i : Nat) : Int))), some (.p (.int cs[i])), rfl⟩
      have e0 : al false [] (M ++ [c2]) = some (.p (.list []), M ++ [c2]) := rfl
      cases b with
      | true =>
        simp only [if_true] at e3
        simp only [law_b, execB, execS, evalE, evalA, evalAnd, evalOr, startD, List.map, List.cons_append, List.nil_append, List.length_cons, List.length_nil, List.replicate, Nat.reduceAdd, Nat.reduceSub, get0, getS, bind_ok, to_ok, then_next, then_ret, out_ret, out_next, ofO_some, truB, if_t, if_f, if_true, sz0, sz1, sz2, sz3, sz4, sz5, sz6, sz7, sz8, sz9, sz10, sz11, sz12, mkT1, mkT2, mkT3, al_tr, alf0, alf1, alf2, alf3, alf4, alf5, alf6, alf7, alf8, setT_nm0, List.set_cons_succ, List.set_cons_zero, Nat.reduceLT, e1, if_pos (small_n (show 0 ≤ 1000 by omega)), e0, e2, e3, Bool.not_true]
      | false =>
        simp only [Bool.false_eq_true, if_false] at e3
        simp only [law_b, execB, execS, evalE, evalA, evalAnd, evalOr, startD, List.map, List.cons_append, List.nil_append, List.length_cons, List.length_nil, List.replicate, Nat.reduceAdd, Nat.reduceSub, get0, getS, bind_ok, to_ok, then_next, then_ret, out_ret, out_next, ofO_some, truB, if_t, if_f, if_true, sz0, sz1, sz2, sz3, sz4, sz5, sz6, sz7, sz8, sz9, sz10, sz11, sz12, mkT1, mkT2, mkT3, al_tr, alf0, alf1, alf2, alf3, alf4, alf5, alf6, alf7, alf8, setT_nm0, List.set_cons_succ, List.set_cons_zero, Nat.reduceLT, e1, if_pos (small_n (show 0 ≤ 1000 by omega)), e0, e2, e3, Bool.not_true])
    (fun _ M _ => stay M)
    ⟨none, none, rfl⟩
  have body : outR (execB ⟨callD gg xx T (k + 1), gg⟩ xx (std_law L).body (startD (std_law L).N [.p (.list (ns.map .int))]) []) = .ok (.p (.bool true)) M' := by
    have e1 : al false [.p (.int 0)] [] = some (.p (.list [.int 0]), []) := rfl
    simp only [std_law, execB, execS, evalE, evalA, evalAnd, evalOr, startD, List.map, List.cons_append, List.nil_append, List.length_cons, List.length_nil, List.replicate, Nat.reduceAdd, Nat.reduceSub, get0, getS, bind_ok, to_ok, then_next, then_ret, out_ret, out_next, ofO_some, truB, if_t, if_f, if_true, sz0, sz1, sz2, sz3, sz4, sz5, sz6, sz7, sz8, sz9, sz10, sz11, sz12, mkT1, mkT2, mkT3, al_tr, alf0, alf1, alf2, alf3, alf4, alf5, alf6, alf7, alf8, setT_nm0, List.set_cons_succ, List.set_cons_zero, Nat.reduceLT, if_pos (small_n (show 1 ≤ 1000 by omega)), e1, add, E.isNop, optI, ls, min_ii, max_ii, asInt, cut]
    show outR ((((walkR (.enu 0 0) [.p (.list (cs.map .int))] []).to _ _).andThen _)) = _
    rw [wk]
    simp only [to_ok, run, then_next, then_ret, out_ret]
  rw [body]
  exact gc_any _ _ _
end Mini.Std

namespace Mini.Std
open PySem PySem.Spec PyProof.Rows L2 Mini
variable {gg : Str → Option PyData} {xx : Str → Option Nat} {T : Tab} {cc : Bool}
/-- data whose written form is short -/
def fine (d : PyData) : Bool := PyData.leavesShort 20 d && d.showable && decide (d.depth ≤ 60) && decide (d.weight ≤ 100000)
theorem fine_shown {d : PyData} (h : fine d = true) : d.shown.length ≤ sizeLine := by
  unfold fine at h
  simp only [Bool.and_eq_true, decide_eq_true_eq] at h
  have := PyData.shown_le 20 (by decide) d h.1.1.1
  rw [sizeLine_eq]
  omega
theorem repr_ok {x : D} {d : PyData} {M : Mem} {c : Bool} (hr : res 6 M x = some d) (hs : shP d = true) (h : fine d = true) : bltD c .repr [x] M = some (.p (.str d.shown), M) := by
  have l := fine_shown h
  unfold fine at h
  simp only [Bool.and_eq_true, decide_eq_true_eq] at h
  simp only [bltD, one1, bRepr, hr]
  rw [if_pos ⟨hs, h.1.1.2, by unfold okd; exact decide_eq_true (by omega), l⟩]
theorem int_short {n : Int} (h1 : 1 ≤ n) (h2 : n ≤ 99) : (PyData.shown (.int n)).length ≤ 20 := by
  have key : ((List.range 100).all fun i => decide ((PyData.shown (.int (i : Int))).length ≤ 20)) = true := by decide +kernel
  have := List.all_eq_true.mp key n.toNat (List.mem_range.mpr (by omega))
  rw [show ((n.toNat : Nat) : Int) = n by omega] at this
  exact of_decide_eq_true this
theorem log_99 {n : Int} (h1 : 1 ≤ n) (h2 : n ≤ 99) : n.natAbs.log2 ≤ 7 := log_small (by omega) (by omega)
theorem row_parts : ∀ {xs : List (Nat × Int)}, (∀ x ∈ xs, ItOk x) → PyData.leavesShortAll 20 (xs.map item) = true ∧ PyData.showableAll (xs.map item) = true ∧ PyData.depthAll (xs.map item) ≤ 1 ∧ PyData.weightAll (xs.map item) ≤ 20 * xs.length
  | [], _ => ⟨rfl, rfl, Nat.zero_le _, Nat.zero_le _⟩
  | x :: xs, h => by
    obtain ⟨a, b, c, d⟩ := row_parts fun y hy => h y (List.mem_cons_of_mem _ hy)
    obtain ⟨h1, h2, h3, h4⟩ := h x List.mem_cons_self
    have hi := int_short h3 h4
    have hl := log_99 h3 h4
    refine ⟨?_, ?_, ?_, ?_⟩
    · rw [List.map_cons]
      unfold PyData.leavesShortAll
      rw [a]
      simp only [item, PyData.leavesShort, PyData.leavesShortAll, sign, hi, decide_true, Bool.and_true]
      have : x.1 < 16 ^ 8 := by omega
      simp [this]
    · rw [List.map_cons]
      unfold PyData.showableAll
      rw [b]
      simp only [item, PyData.showable, PyData.showableAll, Bool.and_true, Bool.true_and]
      exact decide_eq_true (by omega)
    · rw [List.map_cons]
      unfold PyData.depthAll
      have : (item x).depth = 1 := rfl
      omega
    · rw [List.map_cons]
      unfold PyData.weightAll
      have : (item x).weight ≤ 12 := by
        simp only [item, PyData.weight, PyData.weightAll, sign]
        split <;> simp <;> omega
      rw [List.length_cons]
      omega
theorem fine_row {xs : List (Nat × Int)} (h : ∀ x ∈ xs, ItOk x) (hl : xs.length ≤ 100) : fine (.list (xs.map item)) = true := by
  obtain ⟨a, b, c, d⟩ := row_parts h
  unfold fine
  simp only [PyData.leavesShort, PyData.showable, PyData.depth, PyData.weight, Bool.and_eq_true, decide_eq_true_eq]
  refine ⟨⟨⟨a, b⟩, ?_⟩, ?_⟩
  · exact decide_eq_true (by omega)
  · exact decide_eq_true (by omega)
theorem res_cell {n : Nat} {M : Mem} {m : Nat} {ys : List PyData} (h : M[m]? = some (.lst (ys.map .p))) : res (n + 1) M (.ref m) = some (.list ys) := by
  simp only [res, h, resAll_p, Option.map_some]
theorem res_p {n : Nat} {M : Mem} {d : PyData} : res n M (.p d) = some d := by cases n <;> rfl
/-- what repr gives of a row -/
def rep (xs : List (Nat × Int)) : Str := (PyData.list (xs.map item)).shown
theorem repr_row {M : Mem} {m : Nat} {xs : List (Nat × Int)} {c : Bool} (h : M[m]? = some (.lst (row xs))) (ok : ∀ x ∈ xs, ItOk x) (hl : xs.length ≤ 100) : bltD c .repr [.ref m] M = some (.p (.str (rep xs)), M) :=
  repr_ok (res_cell (by rw [← row_eq]; exact h)) rfl (fine_row ok hl)
theorem ne_ss {a b : Str} {M : Mem} : cmpD .NotEq (.p (.str a)) (.p (.str b)) M = some (.p (.bool (!decide (a = b))), M) := by
  have e : cmpD .NotEq (.p (.str a)) (.p (.str b)) M = ((eqP (.str a) (.str b)).map (!·)).map fun k => (.p (.bool k), M) := rfl
  rw [e]
  unfold eqP
  rw [if_pos (by rfl)]
  simp [PyData.eqv]
  by_cases h : a = b <;> simp [h]
theorem fit_item (x : Nat × Int) : fit 1 (item x) = true := rfl
theorem fit_row {xs : List (Nat × Int)} (hl : xs.length ≤ 1000) : fit 2 (.list (xs.map item)) = true := by
  unfold fit
  rw [Bool.and_eq_true, decide_eq_true_eq, List.length_map, List.all_eq_true]
  refine ⟨hl, fun y hy => ?_⟩
  obtain ⟨x, _, rfl⟩ := List.mem_map.mp hy
  exact fit_item x
theorem seq_app {o : D} {xs : List D} {M N : Mem} (h : seqD M o = some xs) : seqD (M ++ N) o = some xs := by
  cases o with
  | tr ds => cases h
  | p d => cases d with
    | list ys => exact h
    | _ => cases h
  | ref m =>
    unfold seqD at h ⊢
    simp only at h ⊢
    cases e : M[m]? with
    | none => rw [e] at h; cases h
    | some c => rw [get_app e]; rw [e] at h; exact h
/-- same items in another order -/
theorem Good.perm {xs ys : List (Nat × Int)} (g : Good xs) (h : ys.Perm xs) : Good ys where
  ok := fun x hx => g.ok x (h.mem_iff.mp hx)
  nd := h.nodup_iff.mpr g.nd
  one := by rw [h.length_eq]; exact g.one
  few := by rw [h.length_eq]; exact g.few
  tags := by
    have := sub_len (xs := dedupK (tagKeys ys)) (ys := dedupK (tagKeys xs)) (dedupK_nodup _) (fun k hk => by
      rw [dedupK_mem] at hk ⊢
      obtain ⟨x, hx, rfl⟩ := List.mem_map.mp hk
      exact List.mem_map.mpr ⟨x, h.mem_iff.mp hx, rfl⟩)
    exact Nat.le_trans this g.tags
theorem row_len (xs : List (Nat × Int)) : (row xs).length = xs.length := by unfold row; rw [List.length_map]
theorem row_get {xs : List (Nat × Int)} {i : Nat} {d : D} (h : (row xs)[i]? = some d) : ∃ x, xs[i]? = some x ∧ d = .p (item x) := by
  unfold row at h
  rw [List.getElem?_map] at h
  cases e : xs[i]? with
  | none => rw [e] at h; cases h
  | some x => rw [e] at h; exact ⟨x, rfl, by simpa using h.symm⟩
theorem get_at {xs : List (Nat × Int)} {i : Nat} (h : i < xs.length) : (row xs)[i]? = some (.p (item xs[i])) := by
  unfold row
  rw [List.getElem?_map, List.getElem?_eq_getElem h]; rfl
theorem ins_at {M : Mem} {m : Nat} {xs : List D} {i : Int} {y : D} {c : Bool} (h : M[m]? = some (.lst xs)) (hl : xs.length ≤ 1000) (h0 : 0 ≤ i) (h1 : i < 1000) : mthD c .insert (.ref m) [.p (.int i), y] M = some (nonD, M.set m (.lst (xs.take i.toNat ++ y :: xs.drop i.toNat))) := by
  simp only [mthD, mInsert, cel, celL, h]
  rw [if_pos ⟨by rw [sizeLine_eq]; omega, h0, by omega⟩]
/-- the pool, the row -/
structure St (n m r : Nat) (xs : List (Nat × Int)) (M : Mem) : Prop where
  pool : Pool n m M
  row : M[r]? = some (.lst (row xs))
  good : Good xs
  ne : m ≠ r
theorem St.app {n m r : Nat} {xs : List (Nat × Int)} {M N : Mem} (s : St n m r xs M) : St n m r xs (M ++ N) := ⟨s.pool.app, get_app s.row, s.good, s.ne⟩
theorem St.set {n m r j : Nat} {xs : List (Nat × Int)} {M : Mem} {c : Cell} (s : St n m r xs M) (h1 : j ≠ m) (h2 : j ≠ r) : St n m r xs (M.set j c) := ⟨s.pool.set h1, get_set s.row h2, s.good, s.ne⟩
theorem St.lt {n m r : Nat} {xs : List (Nat × Int)} {M : Mem} (s : St n m r xs M) : m < M.length ∧ r < M.length := ⟨s.pool.lt, (List.getElem?_eq_some_iff.mp s.row).1⟩
theorem St.draw [Has T "_law_draw" std__law_draw] (k : Nat) {n m r : Nat} {xs : List (Nat × Int)} {M : Mem} {cnt : Int} (s : St n m r xs M) (hn : n ≤ 10 ^ 10) (hc : 0 < cnt) (hs : cnt < 1000) :
    ∃ (v : Int) (M2 : Mem), callD gg xx T (k + 1) "_law_draw" [.ref m, .p (.int cnt)] M = .ok (.p (.int v)) M2 ∧ 0 ≤ v ∧ v < cnt ∧ St (n + 1) m r xs M2 ∧ M2.length = M.length ∧ ∀ i c, i ≠ m → M[i]? = some c → M2[i]? = some c := by
  obtain ⟨v, M2, e, v0, v1, p, l, g⟩ := draw_1 (gg := gg) (xx := xx) (T := T) k s.pool (by omega) hc hs
  exact ⟨v, M2, e, v0, v1, ⟨p, g _ _ (Ne.symm s.ne) s.row, s.good, s.ne⟩, l, g⟩
/-- row.insert(draw, row.pop(draw)) -/
def move_s : S := .exp (.mth false (.var 2 0) .insert [(.cal "_law_draw" [(.var 0 0), (.blt false .len [(.var 2 0)] 0 0)] 0 0), (.mth false (.var 2 0) .pop [(.cal "_law_draw" [(.var 0 0), (.blt false .len [(.var 2 0)] 0 0)] 0 0)] 0 0)] 0 0) 0
theorem get_l {l : Lo} {i : Nat} {d : D} {M : Mem} (h : l[i]? = some (some d)) : getL l i M = .ok d M := by unfold getL; rw [h]
theorem move_ok [Has T "_law_draw" std__law_draw] (k : Nat) {n m r : Nat} {xs : List (Nat × Int)} {M : Mem} {l : Lo} (s : St n m r xs M) (hn : n ≤ 10 ^ 9) (h0 : l[0]? = some (some (.ref m))) (h2 : l[2]? = some (some (.ref r))) :
    ∃ (ys : List (Nat × Int)) (M' : Mem), execS ⟨callD gg xx T (k + 1), gg⟩ xx move_s l M = .next l M' ∧ St (n + 2) m r ys M' ∧ ys.Perm xs := by
  have g0 := fun M => get_l (M := M) h0
  have g2 := fun M => get_l (M := M) h2
  have one := s.good.one
  have few := s.good.few
  have lr : ∀ {M : Mem}, M[r]? = some (.lst (row xs)) → ∀ c : Bool, bltD c .len [.ref r] M = some (.p (.int xs.length), M) := fun h c => by rw [len_seq (seq_ref h), row_len]
  obtain ⟨v, M1, e1, v0, v1, s1, -, -⟩ := s.draw (gg := gg) (xx := xx) (T := T) k (cnt := (xs.length : Int)) (by omega) (by omega) (by omega)
  obtain ⟨w, M2, e2, w0, w1, s2, -, -⟩ := s1.draw (gg := gg) (xx := xx) (T := T) k (cnt := (xs.length : Int)) (by omega) (by omega) (by omega)
  have hw : w.toNat < xs.length := by omega
  have e3 := pop_at (c := false) s2.row w0 (get_at hw) (by omega)
  have e4 := ins_at (c := false) (i := v) (y := .p (item xs[w.toNat])) (get_self (d := .lst ((row xs).eraseIdx w.toNat)) s2.row) (by
    rw [List.length_eraseIdx_of_lt (by rw [row_len]; exact hw), row_len]
    omega) v0 (by omega)
  have pm : ((xs.eraseIdx w.toNat).take v.toNat ++ xs[w.toNat] :: (xs.eraseIdx w.toNat).drop v.toNat).Perm xs := by
    have h1 := erase_perm (xs := xs) (i := w.toNat) (List.getElem?_eq_getElem hw)
    refine List.Perm.trans ?_ h1
    refine List.perm_middle.trans ?_
    rw [List.take_append_drop]
  refine ⟨(xs.eraseIdx w.toNat).take v.toNat ++ xs[w.toNat] :: (xs.eraseIdx w.toNat).drop v.toNat, (M2.set r (.lst ((row xs).eraseIdx w.toNat))).set r (.lst (((row xs).eraseIdx w.toNat).take v.toNat ++ .p (item xs[w.toNat]) :: ((row xs).eraseIdx w.toNat).drop v.toNat)), ?_, ⟨?_, ?_, s.good.perm pm, s.ne⟩, pm⟩
  · simp only [move_s, execB, execS, evalE, evalA, evalAnd, evalOr, startD, List.map, List.cons_append, List.nil_append, List.length_cons, List.length_nil, List.replicate, Nat.reduceAdd, Nat.reduceSub, get0, getS, bind_ok, to_ok, then_next, then_ret, out_ret, out_next, ofO_some, truB, if_t, if_f, if_true, sz0, sz1, sz2, sz3, sz4, sz5, sz6, sz7, sz8, sz9, sz10, sz11, sz12, mkT1, mkT2, mkT3, al_tr, alf0, alf1, alf2, alf3, alf4, alf5, alf6, alf7, alf8, setT_nm0, List.set_cons_succ, List.set_cons_zero, Nat.reduceLT, g0, g2, rcv_ref (b := .insert) rfl s.row, lr s.row, e1, rcv_ref (b := .pop) rfl s1.row, lr s1.row, e2, e3, e4]
  · exact (s2.pool.set (Ne.symm s.ne)).set (Ne.symm s.ne)
  · have : row ((xs.eraseIdx w.toNat).take v.toNat ++ xs[w.toNat] :: (xs.eraseIdx w.toNat).drop v.toNat) = ((row xs).eraseIdx w.toNat).take v.toNat ++ .p (item xs[w.toNat]) :: ((row xs).eraseIdx w.toNat).drop v.toNat := by
      unfold row
      rw [eraseIdx_map, List.map_append, List.map_cons, List.map_take, List.map_drop]
    rw [this]
    exact get_self (get_self s2.row)
end Mini.Std

/-! more defs of the program, without their places -/
namespace Mini.Std
open PySem PySem.Spec PyProof.Rows L2 Mini
/- k02 k04 -/
def runs_in_0 : S := .asg (.nm 1 0) (.lst true [] 0) 0
def runs_in_1b_0 : S := .ite (.and [(.cmp .NotEq (.var 1 0) (.lst false [] 0) 0), (.cmp .Eq (.ix (.ix (.ix (.var 1 0) (.neg (.int 1 0) 0) 0) (.neg (.int 1 0) 0) 0) (.int 0 0) 0) (.ix (.var 2 0) (.int 0 0) 0) 0)] 0) [
      .exp (.mth false (.ix (.var 1 0) (.neg (.int 1 0) 0) 0) .append [(.var 2 0)] 0 0) 0] [
      .exp (.mth false (.var 1 0) .append [(.lst true [(.var 2 0)] 0)] 0 0) 0] 0
def runs_in_1b : List S := [runs_in_1b_0]
def runs_in_1 : S := .for_ .ov [(.var 0 0)] (.nm 2 0) runs_in_1b 0
def runs_in_2 : S := .ret (.var 1 0) 0
def std_runs_in : Fn := ⟨1, ["order", "found", "item"], [runs_in_0, runs_in_1, runs_in_2]⟩
/- k02 k04 -/
def word_in_0 : S := .ret (.mth false (.str "" 0) .join [(.lc false .ov [(.cal "runs_in" [(.var 0 0)] 0 0)] (.nm 1 0) [] (.ix (.ix (.var 1 0) (.int 0 0) 0) (.int 0 0) 0) [] [("", 1)] 0)] 0 0) 0
def std_word_in : Fn := ⟨1, ["order", "run"], [word_in_0]⟩
/- k02 -/
def tags_of_0 : S := .exp (.cal "check_order" [(.var 0 0)] 0 0) 0
def tags_of_1 : S := .ret (.cal "tags_in" [(.var 0 0)] 0 0) 0
def std_tags_of : Fn := ⟨1, ["order"], [tags_of_0, tags_of_1]⟩
/- k02 -/
def runs_of_0 : S := .exp (.cal "check_order" [(.var 0 0)] 0 0) 0
def runs_of_1 : S := .ret (.cal "runs_in" [(.var 0 0)] 0 0) 0
def std_runs_of : Fn := ⟨1, ["order"], [runs_of_0, runs_of_1]⟩
/- k02 -/
def word_of_0 : S := .exp (.cal "check_order" [(.var 0 0)] 0 0) 0
def word_of_1 : S := .ret (.cal "word_in" [(.var 0 0)] 0 0) 0
def std_word_of : Fn := ⟨1, ["order"], [word_of_0, word_of_1]⟩
/- k04 -/
def sizes_in_0 : S := .ret (.dcp .ov [(.cal "tags_in" [(.var 0 0)] 0 0)] (.nm 1 0) [] (.var 1 0) (.blt false .len [(.cal "view_in" [(.var 0 0), (.var 1 0)] 0 0)] 0 0) [] [("", 1)] 0) 0
def std_sizes_in : Fn := ⟨1, ["order", "tag"], [sizes_in_0]⟩
/- k04 -/
def fixed_items_0 : S := .exp (.cal "check_order" [(.var 0 0)] 0 0) 0
def fixed_items_1 : S := .asg (.nm 1 0) (.cal "word_in" [(.var 0 0)] 0 0) 0
def fixed_items_2 : S := .asg (.nm 2 0) (.cal "sizes_in" [(.var 0 0)] 0 0) 0
def fixed_items_3 (c : Bool) : S := .ret (.lc c .ov [(.var 0 0)] (.nm 3 0) [(.cmp .Eq (.mth false (.var 1 0) .count [(.ix (.var 3 0) (.int 0 0) 0)] 0 0) (.ix (.var 2 0) (.ix (.var 3 0) (.int 0 0) 0) 0) 0)] (.var 3 0) [] [("", 3)] 0) 0
def std_fixed_items (c : Bool) : Fn := ⟨1, ["order", "word", "sizes", "item"], [fixed_items_0, fixed_items_1, fixed_items_2, fixed_items_3 c]⟩
/- k07 -/
def number_in_0 : S := .ite (.or [(.not (.chn .LtE .LtE (.int 1 0) (.blt false .len [(.var 0 0)] 0 0) (.glb "MOST_DIGITS" 0) 0) 0), (.not (.blt false .all [(.lc false .ov [(.var 0 0)] (.nm 1 0) [] (.cmp .In (.var 1 0) (.glb "DIGITS" 0) 0) [] [("", 1)] 0)] 0 0) 0)] 0) [
    .ret (.neg (.int 1 0) 0) 0] [] 0
def number_in_1 : S := .ret (.ife (.or [(.cmp .Eq (.var 0 0) (.str "0" 0) 0), (.cmp .NotEq (.ix (.var 0 0) (.int 0 0) 0) (.str "0" 0) 0)] 0) (.blt false .int [(.var 0 0)] 0 0) (.neg (.int 1 0) 0) 0) 0
def std_number_in : Fn := ⟨1, ["word", "sign"], [number_in_0, number_in_1]⟩
/- k07 -/
def item_in_0 : S := .asg (.nm 1 0) (.tup [(.sl false (.var 0 0) .nop (.int 1 0) 0 0), (.cal "number_in" [(.sl false (.var 0 0) (.int 1 0) .nop 0 0)] 0 0)] 0 0) 0
def item_in_1 : S := .ret (.ife (.cal "is_item" [(.var 1 0)] 0 0) (.var 1 0) (.non 0) 0) 0
def std_item_in : Fn := ⟨1, ["word", "item"], [item_in_0, item_in_1]⟩
/- k07 -/
def word_of_item_0 : S := .asg (.tp [(.nm 1 0), (.nm 2 0)] 0 0) (.var 0 0) 0
def word_of_item_1 : S := .ret (.fst (.fmt (.var 1 0) 0) (.fmt (.var 2 0) 0) [] 0) 0
def std_word_of_item : Fn := ⟨1, ["item", "tag", "number"], [word_of_item_0, word_of_item_1]⟩
/- k07 -/
def format_order_0 : S := .exp (.cal "check_order" [(.var 0 0)] 0 0) 0
def format_order_1 : S := .ret (.mth false (.glb "SPACE" 0) .join [(.lc false .ov [(.var 0 0)] (.nm 1 0) [] (.cal "word_of_item" [(.var 1 0)] 0 0) [] [("", 1)] 0)] 0 0) 0
def std_format_order : Fn := ⟨1, ["order", "item"], [format_order_0, format_order_1]⟩
/- k07 -/
def parse_order_0 : S := .ite (.not (.isi (.var 0 0) .str 0 0 0) 0) [
    .rse "InvalidFormatError" "" 0 0 0 0] [] 0
def parse_order_1 (c : Bool) : S := .asgc 1 0 (.lc c .ov [(.mth false (.var 0 0) .split [(.glb "SPACE" 0)] 0 0)] (.nm 2 0) [] (.cal "item_in" [(.var 2 0)] 0 0) [] [("", 2)] 0) 0
def parse_order_2 : S := .ite (.not (.cal "is_order" [(.var 1 0)] 0 0) 0) [
    .rse "InvalidFormatError" "" 0 0 0 0] [] 0
def parse_order_3 : S := .ret (.var 1 0) 0
def std_parse_order (c : Bool) : Fn := ⟨1, ["text", "order", "word"], [parse_order_0, parse_order_1 c, parse_order_2, parse_order_3]⟩
end Mini.Std

namespace Mini.Std
open PySem PySem.Spec PyProof.Rows L2 Mini
variable {gg : Str → Option PyData} {xx : Str → Option Nat} {T : Tab} {cc : Bool}
abbrev Row := List (Nat × Int)
def addRun (rs : List Row) (x : Nat × Int) : List Row := match rs.getLast? with
  | some r => match r.getLast? with
    | some y => if y.1 = x.1 then rs.dropLast ++ [r ++ [x]] else rs ++ [[x]]
    | none => rs ++ [[x]]
  | none => rs ++ [[x]]
def runsOf (xs : Row) : List Row := xs.foldl addRun []
theorem runs_snoc (xs : Row) (x : Nat × Int) : runsOf (xs ++ [x]) = addRun (runsOf xs) x := by
  unfold runsOf
  rw [List.foldl_append]
  rfl
theorem addRun_nil (x : Nat × Int) : addRun [] x = [[x]] := rfl
theorem addRun_last (rs0 : List Row) (r0 : Row) (y x : Nat × Int) : addRun (rs0 ++ [r0 ++ [y]]) x = if y.1 = x.1 then rs0 ++ [r0 ++ [y] ++ [x]] else rs0 ++ [r0 ++ [y]] ++ [[x]] := by
  unfold addRun
  simp only [List.getLast?_append, List.getLast?_singleton, Option.some_or, List.dropLast_concat]
theorem runs_ne : ∀ xs : Row, ∀ r ∈ runsOf xs, r ≠ [] := by
  have key : ∀ (xs : Row) (acc : List Row), (∀ r ∈ acc, r ≠ []) → ∀ r ∈ xs.foldl addRun acc, r ≠ [] := by
    intro xs
    induction xs with
    | nil => intro acc h; exact h
    | cons x xs ih =>
      intro acc h
      refine ih _ ?_
      intro r hr
      unfold addRun at hr
      have snoc : ∀ {l : List Row} {z : Row}, r ∈ l ++ [z] → r ∈ l ∨ r = z := fun hh => by simpa using hh
      split at hr
      · split at hr
        · split at hr
          · rcases snoc hr with hr | hr
            · exact h r (List.dropLast_subset _ hr)
            · rw [hr]; simp
          · rcases snoc hr with hr | hr
            · exact h r hr
            · rw [hr]; simp
        · rcases snoc hr with hr | hr
          · exact h r hr
          · rw [hr]; simp
      · rcases snoc hr with hr | hr
        · exact h r hr
        · rw [hr]; simp
  exact fun xs => key xs [] (fun r hr => by cases hr)
/-- the runs one behind the other are the row -/
theorem runs_flat (xs : Row) : (runsOf xs).flatten = xs := by
  have key : ∀ (xs : Row) (acc : List Row), (∀ r ∈ acc, r ≠ []) → (xs.foldl addRun acc).flatten = acc.flatten ++ xs := by
    intro xs
    induction xs with
    | nil => intro acc h; simp
    | cons x xs ih =>
      intro acc h
      have e : (addRun acc x).flatten = acc.flatten ++ [x] := by
        rcases List.eq_nil_or_concat acc with rfl | ⟨rs0, r, rfl⟩
        · rfl
        · rw [List.concat_eq_append]
          rcases List.eq_nil_or_concat r with rfl | ⟨r0, y, rfl⟩
          · exact absurd rfl (h [] (by simp))
          · rw [List.concat_eq_append, addRun_last]
            split <;> simp
      have h2 : ∀ r ∈ addRun acc x, r ≠ [] := by
        intro r hr
        unfold addRun at hr
        have snoc : ∀ {l : List Row} {z : Row}, r ∈ l ++ [z] → r ∈ l ∨ r = z := fun hh => by simpa using hh
        split at hr
        · split at hr
          · split at hr
            · rcases snoc hr with hr | hr
              · exact h r (List.dropLast_subset _ hr)
              · rw [hr]; simp
            · rcases snoc hr with hr | hr
              · exact h r hr
              · rw [hr]; simp
          · rcases snoc hr with hr | hr
            · exact h r hr
            · rw [hr]; simp
        · rcases snoc hr with hr | hr
          · exact h r hr
          · rw [hr]; simp
      rw [List.foldl_cons, ih _ h2, e, List.append_assoc]
      rfl
  have := key xs [] (fun r hr => by cases hr)
  unfold runsOf
  simpa using this
theorem runs_len (xs : Row) : (runsOf xs).length ≤ xs.length := by
  have h := runs_flat xs
  have n := runs_ne xs
  have key : ∀ rs : List Row, (∀ r ∈ rs, r ≠ []) → rs.length ≤ rs.flatten.length := by
    intro rs
    induction rs with
    | nil => intro _; simp
    | cons r rs ih =>
      intro hr
      have := ih fun q hq => hr q (List.mem_cons_of_mem _ hq)
      have h1 := List.length_pos_iff.mpr (hr r List.mem_cons_self)
      rw [List.flatten_cons, List.length_append, List.length_cons]
      omega
  have := key _ n
  rw [h] at this
  exact this
/-- the cells of runs from b on -/
def refs (b n : Nat) : List D := (List.range n).map fun j => D.ref (b + 1 + j)
def RM (b : Nat) (rs : List Row) : Mem := .lst (refs b rs.length) :: rs.map fun r => .lst (row r)
theorem RM_len (b : Nat) (rs : List Row) : (RM b rs).length = rs.length + 1 := by simp [RM]
theorem RM_0 {M : Mem} {rs : List Row} : (M ++ RM M.length rs)[M.length]? = some (.lst (refs M.length rs.length)) := by simp [RM]
theorem RM_at {M N : Mem} {rs : List Row} {j : Nat} {r : Row} (h : rs[j]? = some r) : (M ++ RM M.length rs ++ N)[M.length + 1 + j]? = some (.lst (row r)) := by
  have hj := (List.getElem?_eq_some_iff.mp h).1
  rw [List.append_assoc, List.getElem?_append_right (by omega)]
  unfold RM
  rw [show M.length + 1 + j - M.length = j + 1 by omega, List.cons_append, List.getElem?_cons_succ, List.getElem?_append_left (by simpa using hj), List.getElem?_map, h]
  rfl
theorem res_ref {n : Nat} {M : Mem} {m : Nat} {xs : List D} (h : M[m]? = some (.lst xs)) : res (n + 1) M (.ref m) = (resAll (res n M) xs).map .list := by
  conv => lhs; unfold res
  simp only [h]
theorem RM_res {n0 : Nat} {M N : Mem} {rs : List Row} : res (n0 + 2) (M ++ RM M.length rs ++ N) (.ref M.length) = some (.list (rs.map fun r => .list (r.map item))) := by
  have h0 : (M ++ RM M.length rs ++ N)[M.length]? = some (.lst (refs M.length rs.length)) := get_app RM_0
  rw [res_ref h0]
  have key : ∀ (n : Nat), n ≤ rs.length → resAll (res (n0 + 1) (M ++ RM M.length rs ++ N)) ((List.range' (rs.length - n) n).map fun j => D.ref (M.length + 1 + j)) = some ((rs.drop (rs.length - n)).map fun r => .list (r.map item)) := by
    intro n
    induction n with
    | zero => intro _; simp [resAll]
    | succ n ih =>
      intro hn
      have hlt : rs.length - (n + 1) < rs.length := by omega
      have e1 : res (n0 + 1) (M ++ RM M.length rs ++ N) (.ref (M.length + 1 + (rs.length - (n + 1)))) = some (.list (rs[rs.length - (n + 1)].map item)) := res_cell (by rw [← row_eq]; exact RM_at (List.getElem?_eq_getElem hlt))
      have e2 := ih (by omega)
      rw [List.range'_succ, List.map_cons, List.drop_eq_getElem_cons hlt, List.map_cons]
      simp only [resAll, e1]
      rw [show rs.length - (n + 1) + 1 = rs.length - n by omega, e2]
  have := key rs.length (Nat.le_refl _)
  rw [Nat.sub_self] at this
  unfold refs
  rw [List.range_eq_range', this]
  rfl
theorem refs_snoc (b n : Nat) : refs b (n + 1) = refs b n ++ [.ref (b + 1 + n)] := by
  unfold refs
  rw [List.range_succ, List.map_append]
  rfl
theorem set_mid {M : Mem} {c d : Cell} {N : Mem} : (M ++ c :: N).set M.length d = M ++ d :: N := by
  rw [List.set_append_right _ _ (by omega), Nat.sub_self]
  rfl
theorem at_last {xs : List D} {z : D} : atI (xs ++ [z]) (-1) = some z := by
  unfold atI ixN
  rw [if_neg (by decide), List.length_append, if_pos (by simp; omega)]
  have : (-1 + ((xs.length + [z].length : Nat) : Int)).toNat = xs.length := by simp; omega
  rw [this]
  simp
theorem RM_new {M : Mem} {rs : List Row} {x : Nat × Int} : (M ++ RM M.length rs ++ [Cell.lst (row [x])]).set M.length (Cell.lst (refs M.length rs.length ++ [D.ref (M ++ RM M.length rs).length])) = M ++ RM M.length (rs ++ [[x]]) := by
  unfold RM
  rw [List.append_assoc, List.cons_append, set_mid]
  congr 1
  rw [List.length_append (as := rs), List.length_singleton, refs_snoc, List.map_append]
  simp
  omega
theorem RM_more {M : Mem} {rs0 : List Row} {r : Row} {x : Nat × Int} : (M ++ RM M.length (rs0 ++ [r])).set (M.length + 1 + rs0.length) (.lst (row r ++ [.p (item x)])) = M ++ RM M.length (rs0 ++ [r ++ [x]]) := by
  rw [List.set_append_right _ _ (by omega), show M.length + 1 + rs0.length - M.length = rs0.length + 1 by omega]
  unfold RM
  rw [List.set_cons_succ, List.map_append, List.set_append_right _ _ (by simp), List.map_append]
  simp [row]
theorem ne_nil_res {M : Mem} {x : D} {ds : List PyData} (h : res 6 M x = some (.list ds)) : cmpD .NotEq x (.p (.list [])) M = some (.p (.bool (!ds.isEmpty)), M) := by
  have r2 : res 6 M (.p (.list [])) = some (.list []) := rfl
  show two (fun a b => (eqP a b).map (!·)) x (.p (.list [])) M = _
  unfold two
  rw [h, r2]
  simp only
  unfold eqP
  rw [if_pos (by rw [Bool.or_eq_true]; exact .inr rfl)]
  cases ds <;> rfl
theorem it_0 (x : Nat × Int) (M : Mem) : ixD (.p (item x)) (.p (.int 0)) M = some (.p (.str (sign x.1)), M) := rfl
theorem runs_in_ok [Has T "runs_in" std_runs_in] (k : Nat) {o : D} {xs : Row} {M : Mem} (h : seqD M o = some (row xs)) (hl : xs.length ≤ 100) :
    callD gg xx T (k + 1) "runs_in" [o] M = .ok (.ref M.length) (M ++ RM M.length (runsOf xs)) := by
  rw [call_has (F := std_runs_in) inferInstance rfl]
  have wk := walk_seq (M := M ++ [.lst []]) (seq_app (N := [.lst []]) h)
  let I : Nat → Lo → Mem → Prop := fun i l M' => ∃ x2, l = [some o, some (.ref M.length), x2] ∧ M' = M ++ RM M.length (runsOf (xs.take i))
  obtain ⟨l', M', run, x2, rfl, rfl⟩ := forL_inv (w := [(o, row xs)]) (t := .nm 2 0) (body := execB ⟨callD gg xx T k, gg⟩ xx runs_in_1b) I (ds := row xs) (M := M ++ [.lst []]) (l := [some o, some (.ref M.length), none])
    (by
      rintro i l M' d hd ⟨x2, rfl, rfl⟩
      obtain ⟨x, hx, rfl⟩ := row_get hd
      refine ⟨stays_one (by simp [seqOrTup, seq_app h]), _, setT_n (by simp), [some o, some (.ref M.length), some (.p (item x))], M ++ RM M.length (runsOf (xs.take (i + 1))), .inl ?_, _, rfl, rfl⟩
      rw [List.take_add_one, hx, Option.toList_some, runs_snoc]
      have nr := runs_ne (xs.take i)
      have lr : (runsOf (xs.take i)).length ≤ 100 := by
        have := runs_len (xs.take i)
        rw [List.length_take] at this
        omega
      have e0 := ne_nil_res (RM_res (M := M) (N := []) (rs := runsOf (xs.take i)))
      rw [List.append_nil] at e0
      have fl : (runsOf (xs.take i)).flatten.length ≤ 100 := by rw [runs_flat, List.length_take]; omega
      revert nr lr e0 fl
      generalize runsOf (xs.take i) = rs
      intro nr lr e0 fl
      have l0 : (refs M.length rs.length).length ≤ 1000 := by simp [refs]; omega
      have app2 := app_at (M := M ++ RM M.length rs ++ [.lst (row [x])]) (c := false) (y := .ref (M ++ RM M.length rs).length) (get_app RM_0) l0
      rw [RM_new, show row [x] = [D.p (item x)] from rfl] at app2
      have rc : rcv .append (.ref M.length) (M ++ RM M.length rs) = true := rcv_ref rfl RM_0
      rcases List.eq_nil_or_concat rs with rfl | ⟨rs0, r, rfl⟩
      · simp only [runs_in_1b, runs_in_1b_0, execB, execS, evalE, evalA, evalAnd, evalOr, startD, List.map, List.cons_append, List.nil_append, List.length_cons, List.length_nil, List.replicate, Nat.reduceAdd, Nat.reduceSub, get0, getS, bind_ok, to_ok, then_next, then_ret, out_ret, out_next, ofO_some, truB, if_t, if_f, if_true, sz0, sz1, sz2, sz3, sz4, sz5, sz6, sz7, sz8, sz9, sz10, sz11, sz12, mkT1, mkT2, mkT3, al_tr, alf0, alf1, alf2, alf3, alf4, alf5, alf6, alf7, alf8, setT_nm0, List.set_cons_succ, List.set_cons_zero, Nat.reduceLT, e0, List.map_nil, List.isEmpty_nil, Bool.not_true, rc, app2]
        rfl
      · rw [List.concat_eq_append] at *
        rcases List.eq_nil_or_concat r with rfl | ⟨r0, y, rfl⟩
        · exact absurd rfl (nr [] (by simp))
        · rw [List.concat_eq_append] at *
          have ne : ((rs0 ++ [r0 ++ [y]]).map fun r => PyData.list (r.map item)).isEmpty = false := by simp
          have i1 : ixD (.ref M.length) (.p (.int (-1))) (M ++ RM M.length (rs0 ++ [r0 ++ [y]])) = some (.ref (M.length + 1 + rs0.length), M ++ RM M.length (rs0 ++ [r0 ++ [y]])) := by
            rw [ix_ref RM_0, List.length_append, List.length_singleton, refs_snoc, at_last]
            rfl
          have c1 : (M ++ RM M.length (rs0 ++ [r0 ++ [y]]))[M.length + 1 + rs0.length]? = some (.lst (row (r0 ++ [y]))) := by
            have := RM_at (M := M) (N := []) (rs := rs0 ++ [r0 ++ [y]]) (j := rs0.length) (r := r0 ++ [y]) (by simp)
            rw [List.append_nil] at this
            exact this
          have i2 : ixD (.ref (M.length + 1 + rs0.length)) (.p (.int (-1))) (M ++ RM M.length (rs0 ++ [r0 ++ [y]])) = some (.p (item y), M ++ RM M.length (rs0 ++ [r0 ++ [y]])) := by
            rw [ix_ref c1]
            have : row (r0 ++ [y]) = row r0 ++ [.p (item y)] := by unfold row; rw [List.map_append]; rfl
            rw [this, at_last]
            rfl
          have ng : negD (.p (.int 1)) = fun M => some (.p (.int (-1)), M) := rfl
          rw [addRun_last]
          by_cases e : y.1 = x.1
          · have ll : (row (r0 ++ [y])).length ≤ 1000 := by
              rw [row_len]
              rw [List.flatten_append, List.length_append] at fl
              simp only [List.flatten_cons, List.flatten_nil, List.append_nil] at fl
              omega
            have app1 := app_at (c := false) (y := .p (item x)) c1 ll
            rw [RM_more] at app1
            simp only [runs_in_1b, runs_in_1b_0, execB, execS, evalE, evalA, evalAnd, evalOr, startD, List.map, List.cons_append, List.nil_append, List.length_cons, List.length_nil, List.replicate, Nat.reduceAdd, Nat.reduceSub, get0, getS, bind_ok, to_ok, then_next, then_ret, out_ret, out_next, ofO_some, truB, if_t, if_f, if_true, sz0, sz1, sz2, sz3, sz4, sz5, sz6, sz7, sz8, sz9, sz10, sz11, sz12, mkT1, mkT2, mkT3, al_tr, alf0, alf1, alf2, alf3, alf4, alf5, alf6, alf7, alf8, setT_nm0, List.set_cons_succ, List.set_cons_zero, Nat.reduceLT, e0, ne, Bool.not_false, ng, i1, i2, it_0, eq_ss, e, decide_true, rcv_ref (b := .append) rfl c1, app1]
          · have e' : ¬ sign y.1 = sign x.1 := fun z => e (sign_inj.mp z)
            simp only [runs_in_1b, runs_in_1b_0, execB, execS, evalE, evalA, evalAnd, evalOr, startD, List.map, List.cons_append, List.nil_append, List.length_cons, List.length_nil, List.replicate, Nat.reduceAdd, Nat.reduceSub, get0, getS, bind_ok, to_ok, then_next, then_ret, out_ret, out_next, ofO_some, truB, if_t, if_f, if_true, sz0, sz1, sz2, sz3, sz4, sz5, sz6, sz7, sz8, sz9, sz10, sz11, sz12, mkT1, mkT2, mkT3, al_tr, alf0, alf1, alf2, alf3, alf4, alf5, alf6, alf7, alf8, setT_nm0, List.set_cons_succ, List.set_cons_zero, Nat.reduceLT, e0, ne, Bool.not_false, ng, i1, i2, it_0, eq_ss, e', e, decide_false, if_false, rc, app2])
    (fun l M' ⟨x2, _, e⟩ => by rw [e]; exact stays_one (by simp [seqOrTup, seq_app h]))
    ⟨none, rfl, rfl⟩
  rw [row_len, List.take_length] at run
  have body : outR (execB ⟨callD gg xx T k, gg⟩ xx std_runs_in.body (startD std_runs_in.N [o]) M) = .ok (.ref M.length) (M ++ RM M.length (runsOf xs)) := by
    simp only [std_runs_in, runs_in_0, runs_in_1, runs_in_2, execB, execS, evalE, evalA, evalAnd, evalOr, startD, List.map, List.cons_append, List.nil_append, List.length_cons, List.length_nil, List.replicate, Nat.reduceAdd, Nat.reduceSub, get0, getS, bind_ok, to_ok, then_next, then_ret, out_ret, out_next, ofO_some, truB, if_t, if_f, if_true, sz0, sz1, sz2, sz3, sz4, sz5, sz6, sz7, sz8, sz9, sz10, sz11, sz12, mkT1, mkT2, mkT3, al_tr, alf0, alf1, alf2, alf3, alf4, alf5, alf6, alf7, alf8, setT_nm0, List.set_cons_succ, List.set_cons_zero, Nat.reduceLT, wk, run]
  rw [body, gc_no (by simp [D.bd])]
end Mini.Std

namespace Mini.Std
open PySem PySem.Spec PyProof.Rows L2 Mini
variable {gg : Str → Option PyData} {xx : Str → Option Nat} {T : Tab} {cc : Bool}
theorem lcL_get {w : Wk} {body : D → Mem → R (Option D)} {M : Mem} (hs : stays w M = true) : ∀ {ds ys : List D}, ds.length = ys.length → (∀ (i : Nat) d y, ds[i]? = some d → ys[i]? = some y → body d M = .ok (some y) M) → lcL w body ds M = .ok ys M
  | [], [], _, _ => by simp [lcL, hs]
  | [], _ :: _, h, _ => by cases h
  | _ :: _, [], h, _ => by cases h
  | d :: ds, y :: ys, hl, h => by
    have h0 := h 0 d y rfl rfl
    have ih := lcL_get hs (ds := ds) (ys := ys) (by simpa using hl) fun i e z he hz => h (i + 1) e z (by simpa using he) (by simpa using hz)
    simp only [lcL, hs, if_true, h0, bind_ok, ih]
/-- a text of these signs -/
def txt (ws : List Nat) : Str := ⟨ws.toArray⟩
theorem txt_list (ws : List Nat) : (txt ws).cps.toList = ws := rfl
theorem txt_len (ws : List Nat) : (txt ws).length = ws.length := by simp [txt, Str.length]
theorem txt_inj {a b : List Nat} : txt a = txt b ↔ a = b := ⟨fun h => congrArg (fun x : Str => x.cps.toList) h, fun h => by rw [h]⟩
theorem sign_txt (c : Nat) : sign c = txt [c] := rfl
theorem joinL_one : ∀ ws : List Nat, TL.joinL [] (ws.map fun c => [c]) = ws
  | [] => rfl
  | [c] => rfl
  | c :: d :: ws => by
    have := joinL_one (d :: ws)
    simp only [List.map_cons] at this ⊢
    show [c] ++ ([] ++ TL.joinL [] ([d] :: ws.map fun c => [c])) = _
    rw [this]
    rfl
theorem join_signs (ws : List Nat) : Txt.join "" (ws.map sign) = txt ws := by
  have h : TL.tl (Txt.join "" (ws.map sign)) = ws := by
    rw [TL.join_eq, TL.tl_join]
    have e1 : TL.tl ("" : Str) = [] := rfl
    have e2 : (ws.map sign).map TL.tl = ws.map fun c => [c] := by rw [List.map_map]; rfl
    rw [e1, e2, joinL_one]
  have := TL.mk_tl (Txt.join "" (ws.map sign))
  rw [h] at this
  exact this.symm
def headTag (r : Row) : Nat := (r.headD (0, 0)).1
def wordOf (xs : Row) : List Nat := (runsOf xs).map headTag
theorem word_len (xs : Row) : (wordOf xs).length ≤ xs.length := by
  unfold wordOf
  rw [List.length_map]
  exact runs_len xs
theorem strsOf_map : ∀ ws : List Nat, strsOf (ws.map sgn) = some (ws.map sign)
  | [] => rfl
  | c :: ws => by
    have := strsOf_map ws
    rw [List.map_cons]
    unfold strsOf
    unfold sgn at *
    simp only [this, Option.map_some, List.map_cons]
theorem sum_signs (ws : List Nat) : ((ws.map sign).map (·.length)).sum = ws.length := by
  induction ws with
  | nil => rfl
  | cons c ws ih =>
    simp only [List.map_cons, List.sum_cons, ih, List.length_cons]
    show 1 + ws.length = _
    omega
theorem join_ok {ws : List Nat} {M : Mem} {c : Bool} (hl : ws.length ≤ 1000) : mthD c .join (.p (.str "")) [.p (.list (ws.map fun c => .str (sign c)))] M = some (.p (.str (txt ws)), M) := by
  have e1 : (ws.map fun c => PyData.str (sign c)).map D.p = ws.map sgn := by rw [List.map_map]; rfl
  simp only [mthD, mJoin, seqD, e1, Option.bind_some, strsOf_map]
  rw [if_pos, join_signs]
  rw [sum_signs]
  have : ("" : Str).length = 0 := rfl
  rw [this]
  omega
theorem refs_get {b n i : Nat} {d : D} (h : (refs b n)[i]? = some d) : i < n ∧ d = .ref (b + 1 + i) := by
  unfold refs at h
  rw [List.getElem?_map] at h
  by_cases hi : i < n
  · rw [List.getElem?_range hi] at h
    exact ⟨hi, by simpa using h.symm⟩
  · rw [List.getElem?_eq_none (by simpa using hi)] at h
    cases h
theorem word_in_ok [Has T "word_in" std_word_in] [Has T "runs_in" std_runs_in] (k : Nat) {o : D} {xs : Row} {M : Mem} (h : seqD M o = some (row xs)) (hl : xs.length ≤ 100) :
    callD gg xx T (k + 2) "word_in" [o] M = .ok (.p (.str (txt (wordOf xs)))) M := by
  rw [call_has (F := std_word_in) inferInstance rfl]
  have e1 := runs_in_ok (gg := gg) (xx := xx) (T := T) k h hl
  have wk := walk_seq (seq_ref (RM_0 (M := M) (rs := runsOf xs)))
  have lw := word_len xs
  have run := lcL_get (w := [(.ref M.length, refs M.length (runsOf xs).length)]) (body := lcB (evalTs ⟨callD gg xx T (k + 1), gg⟩ []) (evalE ⟨callD gg xx T (k + 1), gg⟩ (.ix (.ix (.var 1 0) (.int 0 0) 0) (.int 0 0) 0)) (.nm 1 0) [1] [some o, none]) (M := M ++ RM M.length (runsOf xs)) (ds := refs M.length (runsOf xs).length) (ys := (wordOf xs).map sgn)
    (stays_one (by simp only [seqOrTup, seq_ref (RM_0 (M := M) (rs := runsOf xs))])) (by simp [refs, wordOf]) (by
      intro i d y hd hy
      obtain ⟨hi, rfl⟩ := refs_get hd
      have er : (runsOf xs)[i]? = some (runsOf xs)[i] := List.getElem?_eq_getElem hi
      have hy : y = sgn (headTag (runsOf xs)[i]) := by
        unfold wordOf at hy
        rw [List.getElem?_map, List.getElem?_map, er] at hy
        simpa using hy.symm
      subst hy
      have c1 := RM_at (M := M) (N := []) er
      rw [List.append_nil] at c1
      have ne := runs_ne xs _ (List.mem_of_getElem? er)
      revert c1 ne
      generalize (runsOf xs)[i] = r
      intro c1 ne
      cases r with
      | nil => exact absurd rfl ne
      | cons x r =>
        have i1 : ixD (.ref (M.length + 1 + i)) (.p (.int 0)) (M ++ RM M.length (runsOf xs)) = some (.p (item x), M ++ RM M.length (runsOf xs)) := by
          rw [ix_ref c1]
          show (atI (.p (item x) :: row r) 0).map _ = _
          rw [at0']
          rfl
        unfold lcB
        simp only [wipeL, setT_n, execB, execS, evalE, evalA, evalAnd, evalOr, startD, List.map, List.cons_append, List.nil_append, List.length_cons, List.length_nil, List.replicate, Nat.reduceAdd, Nat.reduceSub, get0, getS, bind_ok, to_ok, then_next, then_ret, out_ret, out_next, ofO_some, truB, if_t, if_f, if_true, sz0, sz1, sz2, sz3, sz4, sz5, sz6, sz7, sz8, sz9, sz10, sz11, sz12, mkT1, mkT2, mkT3, al_tr, alf0, alf1, alf2, alf3, alf4, alf5, alf6, alf7, alf8, setT_nm0, List.set_cons_succ, List.set_cons_zero, Nat.reduceLT, evalTs, i1, it_0, R.calm]
        rfl)
  simp only [execB, execS, evalE, evalA, evalAnd, evalOr, startD, List.map, List.cons_append, List.nil_append, List.length_cons, List.length_nil, List.replicate, Nat.reduceAdd, Nat.reduceSub, get0, getS, bind_ok, to_ok, then_next, then_ret, out_ret, out_next, ofO_some, truB, if_t, if_f, if_true, sz0, sz1, sz2, sz3, sz4, sz5, sz6, sz7, sz8, sz9, sz10, sz11, sz12, mkT1, mkT2, mkT3, al_tr, alf0, alf1, alf2, alf3, alf4, alf5, alf6, alf7, alf8, setT_nm0, List.set_cons_succ, List.set_cons_zero, Nat.reduceLT] at run
  have fin : ∀ M, finL false ((wordOf xs).map sgn) M = .ok (.p (.list ((wordOf xs).map fun c => .str (sign c)))) M := fun M => by
    unfold finL al
    rw [if_pos (small_n (by rw [List.length_map]; omega)), if_neg (by decide), nums_dt]
    rfl
  have rc : ∀ M, rcv .join (.p (.str "")) M = true := fun M => rfl
  have body : outR (execB ⟨callD gg xx T (k + 1), gg⟩ xx std_word_in.body (startD std_word_in.N [o]) M) = .ok (.p (.str (txt (wordOf xs)))) (M ++ RM M.length (runsOf xs)) := by
    simp only [std_word_in, word_in_0, execB, execS, evalE, evalA, evalAnd, evalOr, startD, List.map, List.cons_append, List.nil_append, List.length_cons, List.length_nil, List.replicate, Nat.reduceAdd, Nat.reduceSub, get0, getS, bind_ok, to_ok, then_next, then_ret, out_ret, out_next, ofO_some, truB, if_t, if_f, if_true, sz0, sz1, sz2, sz3, sz4, sz5, sz6, sz7, sz8, sz9, sz10, sz11, sz12, mkT1, mkT2, mkT3, al_tr, alf0, alf1, alf2, alf3, alf4, alf5, alf6, alf7, alf8, setT_nm0, List.set_cons_succ, List.set_cons_zero, Nat.reduceLT, rc, e1, wk, run, fin, join_ok (show (wordOf xs).length ≤ 1000 by omega)]
  rw [body, gc_p]
end Mini.Std

namespace Mini.Std
open PySem PySem.Spec PyProof.Rows L2 Mini
variable {gg : Str → Option PyData} {xx : Str → Option Nat} {T : Tab} {cc : Bool}
/-! ### the tags as numbers -/
def keyN : Key → Nat
  | .inr s => s.cps.toList.headD 0
  | .inl _ => 0
def tagNs (xs : Row) : List Nat := (sortK (dedupK (tagKeys xs))).map keyN
theorem sorted_tag {xs : Row} {k : Key} (h : k ∈ sortK (dedupK (tagKeys xs))) : ∃ x ∈ xs, k = .inr (sign x.1) := by
  unfold sortK at h
  rw [List.mem_mergeSort, dedupK_mem] at h
  obtain ⟨x, hx, rfl⟩ := List.mem_map.mp h
  exact ⟨x, hx, rfl⟩
theorem tagsL_ns (xs : Row) : tagsL xs = (tagNs xs).map fun c => .str (sign c) := by
  unfold tagsL tagNs
  rw [List.map_map]
  apply List.map_congr_left
  intro k hk
  obtain ⟨x, _, rfl⟩ := sorted_tag hk
  rfl
theorem tagNs_mem {xs : Row} {c : Nat} : c ∈ tagNs xs ↔ ∃ x ∈ xs, x.1 = c := by
  unfold tagNs
  constructor
  · intro h
    obtain ⟨k, hk, rfl⟩ := List.mem_map.mp h
    obtain ⟨x, hx, rfl⟩ := sorted_tag hk
    exact ⟨x, hx, rfl⟩
  · rintro ⟨x, hx, rfl⟩
    refine List.mem_map.mpr ⟨.inr (sign x.1), ?_, rfl⟩
    unfold sortK
    rw [List.mem_mergeSort, dedupK_mem]
    exact List.mem_map.mpr ⟨x, hx, rfl⟩
theorem tagNs_nodup (xs : Row) : (tagNs xs).Nodup := by
  unfold tagNs
  have nd : (sortK (dedupK (tagKeys xs))).Nodup := by
    unfold sortK
    exact (List.mergeSort_perm _ _).nodup_iff.mpr (dedupK_nodup _)
  rw [List.Nodup, List.pairwise_map]
  refine List.Pairwise.imp_of_mem ?_ nd
  intro a b ha hb hne e
  obtain ⟨x, _, rfl⟩ := sorted_tag ha
  obtain ⟨y, _, rfl⟩ := sorted_tag hb
  have e : x.1 = y.1 := e
  exact hne (by rw [e])
theorem tagNs_len (xs : Row) : (tagNs xs).length ≤ xs.length := by
  have := sub_len (xs := tagNs xs) (ys := xs.map (·.1)) (tagNs_nodup xs) fun c hc => by
    obtain ⟨x, hx, rfl⟩ := tagNs_mem.mp hc
    exact List.mem_map.mpr ⟨x, hx, rfl⟩
  rw [List.length_map] at this
  exact this
/-! ### dicts by tags -/
def dctOf (cs : List Nat) (f : Nat → D) : List (Key × D) := cs.map fun c => (.inr (sign c), f c)
theorem put_of {cs : List Nat} {f : Nat → D} {c : Nat} (h : c ∉ cs) : putKD (dctOf cs f) (.inr (sign c)) (f c) = dctOf (cs ++ [c]) f := by
  unfold putKD
  rw [if_neg]
  · simp [dctOf]
  · intro hh
    rw [List.any_eq_true] at hh
    obtain ⟨z, hz, e⟩ := hh
    obtain ⟨d, hd, rfl⟩ := List.mem_map.mp hz
    have e : (Sum.inr (sign d) : Key) = .inr (sign c) := of_decide_eq_true e
    injection e with e
    exact h (sign_inj.mp e ▸ hd)
theorem get_of {f : Nat → D} {c : Nat} : ∀ {cs : List Nat}, c ∈ cs → getKD (dctOf cs f) (.inr (sign c)) = some (f c)
  | [], h => by cases h
  | d :: cs, h => by
    unfold getKD dctOf
    rw [List.map_cons, List.find?_cons]
    by_cases e : d = c
    · subst e
      simp
    · have : decide ((Sum.inr (sign d) : Key) = .inr (sign c)) = false := by
        apply decide_eq_false
        intro q
        injection q with q
        exact e (sign_inj.mp q)
      simp only [this]
      rcases List.mem_cons.mp h with h | h
      · exact absurd h.symm e
      · have := get_of (f := f) (c := c) h
        unfold getKD dctOf at this
        exact this
theorem dcL_signs {w : Wk} {body : D → Mem → R (Option (D × D))} {M : Mem} {f : Nat → D} (hs : ∀ N, stays w (M ++ [.dct N]) = true) : ∀ (cs done : List Nat), (∀ c ∈ cs, ∀ N, body (sgn c) (M ++ [.dct N]) = .ok (some (sgn c, f c)) (M ++ [.dct N])) → (done ++ cs).Nodup → (done ++ cs).length ≤ 1000 →
    dcL M.length w body (cs.map sgn) (M ++ [.dct (dctOf done f)]) = .ok (.ref M.length) (M ++ [.dct (dctOf (done ++ cs) f)])
  | [], done, _, _, _ => by simp [dcL, hs]
  | c :: cs, done, hb, nd, hl => by
    have h0 := hb c List.mem_cons_self (dctOf done f)
    have g : (M ++ [Cell.dct (dctOf done f)])[M.length]? = some (.dct (dctOf done f)) := get_new
    have k0 : keyD (sgn c) = some (.inr (sign c)) := rfl
    have new : c ∉ done := by
      rw [List.nodup_append] at nd
      exact fun h => nd.2.2 c h c List.mem_cons_self rfl
    have ih := dcL_signs hs cs (done ++ [c]) (fun d hd => hb d (List.mem_cons_of_mem _ hd)) (by rw [List.append_assoc]; exact nd) (by rw [List.append_assoc]; exact hl)
    rw [List.map_cons]
    simp only [dcL, hs, if_true, h0, bind_ok, k0, g]
    rw [if_pos (by
      rw [List.length_append] at hl
      unfold dctOf
      rw [List.length_map, sizeLine_eq]
      omega), put_of new, set_mid, ih, List.append_assoc]
    rfl
def cntOf (xs : Row) (c : Nat) : Nat := (xs.filter fun x => x.1 = c).length
def sizesOf (xs : Row) : List (Key × D) := dctOf (tagNs xs) fun c => .p (.int (cntOf xs c))
theorem sizes_in_ok [Has T "sizes_in" std_sizes_in] [Has T "tags_in" (std_tags_in false)] [Has T "view_in" (std_view_in false)] (k : Nat) {o : D} {xs : Row} {M : Mem} (h : seqD M o = some (row xs)) (hl : xs.length ≤ 100) :
    callD gg xx T (k + 2) "sizes_in" [o] M = .ok (.ref M.length) (M ++ [.dct (sizesOf xs)]) := by
  rw [call_has (F := std_sizes_in) inferInstance rfl]
  have e1 := tags_in_ok (gg := gg) (xx := xx) (T := T) (cc := false) k h hl
  rw [giv_f, tagsL_ns] at e1
  have wk := walk_seq (o := .p (.list ((tagNs xs).map fun c => .str (sign c)))) (M := M) (seq_data _ _)
  have tl := tagNs_len xs
  have run := dcL_signs (w := [(D.p (.list ((tagNs xs).map fun c => .str (sign c))), ((tagNs xs).map fun c => PyData.str (sign c)).map D.p)]) (body := dcB (evalTs ⟨callD gg xx T (k + 1), gg⟩ []) (evalE ⟨callD gg xx T (k + 1), gg⟩ (.var 1 0)) (evalE ⟨callD gg xx T (k + 1), gg⟩ (.blt false .len [(.cal "view_in" [(.var 0 0), (.var 1 0)] 0 0)] 0 0)) (.nm 1 0) [1] [some o, none]) (M := M) (f := fun c => .p (.int (cntOf xs c)))
    (fun N => stays_one (by simp [seqOrTup, seqD])) (tagNs xs) [] (by
      intro c hc N
      have e2 := view_in_ok (gg := gg) (xx := xx) (T := T) (cc := false) k (c := c) (seq_app (N := [.dct N]) h) hl
      rw [giv_f] at e2
      have e3 : ∀ (b : Bool) (M : Mem), bltD b .len [.p (.list ((xs.filter fun x => x.1 = c).map item))] M = some (.p (.int (cntOf xs c)), M) := fun b M => by
        rw [len_seq (seq_data _ _), List.length_map, List.length_map]
        rfl
      unfold dcB
      simp only [sgn, wipeL, execB, execS, evalE, evalA, evalAnd, evalOr, startD, List.map, List.cons_append, List.nil_append, List.length_cons, List.length_nil, List.replicate, Nat.reduceAdd, Nat.reduceSub, get0, getS, bind_ok, to_ok, then_next, then_ret, out_ret, out_next, ofO_some, truB, if_t, if_f, if_true, sz0, sz1, sz2, sz3, sz4, sz5, sz6, sz7, sz8, sz9, sz10, sz11, sz12, mkT1, mkT2, mkT3, al_tr, alf0, alf1, alf2, alf3, alf4, alf5, alf6, alf7, alf8, setT_nm0, List.set_cons_succ, List.set_cons_zero, Nat.reduceLT, evalTs, R.calm, e2, e3]) (by simpa using tagNs_nodup xs) (by simp; omega)
  rw [List.nil_append, ← signs_map] at run
  simp only [execB, execS, evalE, evalA, evalAnd, evalOr, startD, List.map, List.cons_append, List.nil_append, List.length_cons, List.length_nil, List.replicate, Nat.reduceAdd, Nat.reduceSub, get0, getS, bind_ok, to_ok, then_next, then_ret, out_ret, out_next, ofO_some, truB, if_t, if_f, if_true, sz0, sz1, sz2, sz3, sz4, sz5, sz6, sz7, sz8, sz9, sz10, sz11, sz12, mkT1, mkT2, mkT3, al_tr, alf0, alf1, alf2, alf3, alf4, alf5, alf6, alf7, alf8, setT_nm0, List.set_cons_succ, List.set_cons_zero, Nat.reduceLT] at run
  have body : outR (execB ⟨callD gg xx T (k + 1), gg⟩ xx std_sizes_in.body (startD std_sizes_in.N [o]) M) = .ok (.ref M.length) (M ++ [.dct (sizesOf xs)]) := by
    have run' := run
    simp only [dctOf, List.map_nil] at run'
    simp only [std_sizes_in, sizes_in_0, execB, execS, evalE, evalA, evalAnd, evalOr, startD, List.map, List.cons_append, List.nil_append, List.length_cons, List.length_nil, List.replicate, Nat.reduceAdd, Nat.reduceSub, get0, getS, bind_ok, to_ok, then_next, then_ret, out_ret, out_next, ofO_some, truB, if_t, if_f, if_true, sz0, sz1, sz2, sz3, sz4, sz5, sz6, sz7, sz8, sz9, sz10, sz11, sz12, mkT1, mkT2, mkT3, al_tr, alf0, alf1, alf2, alf3, alf4, alf5, alf6, alf7, alf8, setT_nm0, List.set_cons_succ, List.set_cons_zero, Nat.reduceLT, e1, wk, run', sizesOf, dctOf]
  rw [body, gc_new]
end Mini.Std

namespace Mini.Std
open PySem PySem.Spec PyProof.Rows L2 Mini
variable {gg : Str → Option PyData} {xx : Str → Option Nat} {T : Tab} {cc : Bool}
/-! ### the word counts -/
theorem count_txt (c : Nat) : ∀ ws : List Nat, Txt.count (txt ws) (sign c) = (ws.count c : Int) := by
  intro ws
  have h := count_cnt (txt ws) c
  rw [txt_list] at h
  show Txt.count (txt ws) ⟨#[c]⟩ = _
  rw [h]
  clear h
  induction ws with
  | nil => rfl
  | cons d ws ih =>
    rw [cnt_cons, ih, List.count_cons]
    by_cases e : d = c
    · simp [e]; omega
    · have : (d == c) = false := by simpa using e
      simp [e]
/-- tags of neighbours with one tag -/
def looseOf (xs : Row) : List Nat := ((xs.zip xs.tail).filter fun p => p.1.1 = p.2.1).map fun p => p.1.1
theorem zip_snoc : ∀ (ys : Row) (y x : Nat × Int), (ys ++ [y] ++ [x]).zip (ys ++ [y] ++ [x]).tail = (ys ++ [y]).zip (ys ++ [y]).tail ++ [(y, x)]
  | [], y, x => rfl
  | [z], y, x => rfl
  | z :: w :: ys, y, x => by
    have ih := zip_snoc (w :: ys) y x
    simp only [List.cons_append, List.tail_cons, List.zip_cons_cons] at ih ⊢
    rw [ih]
theorem cnt_split (c : Nat) (xs : Row) : cntOf xs c = (wordOf xs).count c + (looseOf xs).count c := by
  have key : ∀ n : Nat, ∀ xs : Row, xs.length = n → cntOf xs c = (wordOf xs).count c + (looseOf xs).count c := by
    intro n
    induction n with
    | zero =>
      intro xs h
      rw [List.length_eq_zero_iff.mp h]
      rfl
    | succ n ih =>
      intro xs h
      rcases List.eq_nil_or_concat xs with rfl | ⟨ys, x, rfl⟩
      · cases h
      · rw [List.concat_eq_append] at h ⊢
        have hy : ys.length = n := by simpa using h
        have ih := ih ys hy
        have c1 : cntOf (ys ++ [x]) c = cntOf ys c + if x.1 = c then 1 else 0 := by
          unfold cntOf
          rw [List.filter_append, List.length_append]
          congr 1
          by_cases e : x.1 = c <;> simp [e]
        rcases List.eq_nil_or_concat ys with rfl | ⟨zs, y, rfl⟩
        · rw [c1]
          show _ = ([x.1] : List Nat).count c + 0
          by_cases e : x.1 = c
          · simp [e, cntOf]
          · simp [e, cntOf]
        · rw [List.concat_eq_append] at *
          have lo : looseOf (zs ++ [y] ++ [x]) = looseOf (zs ++ [y]) ++ if y.1 = x.1 then [y.1] else [] := by
            unfold looseOf
            rw [zip_snoc, List.filter_append, List.map_append]
            congr 1
            by_cases e : y.1 = x.1 <;> simp [e]
          -- the last run ends with y
          have fl := runs_flat (zs ++ [y])
          have nr := runs_ne (zs ++ [y])
          have wo : wordOf (zs ++ [y] ++ [x]) = wordOf (zs ++ [y]) ++ if y.1 = x.1 then [] else [x.1] := by
            unfold wordOf
            rw [runs_snoc]
            revert fl nr
            generalize runsOf (zs ++ [y]) = rs
            intro fl nr
            rcases List.eq_nil_or_concat rs with rfl | ⟨rs0, r, rfl⟩
            · simp at fl
            · rw [List.concat_eq_append] at *
              rcases List.eq_nil_or_concat r with rfl | ⟨r0, y', rfl⟩
              · exact absurd rfl (nr [] (by simp))
              · rw [List.concat_eq_append] at *
                have ey : y' = y := by
                  rw [List.flatten_append] at fl
                  simp only [List.flatten_cons, List.flatten_nil, List.append_nil] at fl
                  rw [← List.append_assoc] at fl
                  have := List.append_inj_right' fl rfl
                  simpa using this
                subst ey
                rw [addRun_last]
                by_cases e : y'.1 = x.1
                · rw [if_pos e, if_pos e]
                  cases r0 with
                  | nil => simp [headTag]
                  | cons z r0 => simp [headTag]
                · rw [if_neg e, if_neg e]
                  simp [headTag]
          rw [c1, lo, wo, ih, List.count_append, List.count_append]
          by_cases e : y.1 = x.1
          · rw [if_pos e, if_pos e, e]
            by_cases e2 : x.1 = c
            · simp [e2]; omega
            · have : (x.1 == c) = false := by simpa using e2
              simp [e2]
          · rw [if_neg e, if_neg e]
            by_cases e2 : x.1 = c
            · simp [e2]; omega
            · simp [e2]
  exact key _ xs rfl
def fixedB (xs : Row) (x : Nat × Int) : Bool := decide (((wordOf xs).count x.1 : Int) = (cntOf xs x.1 : Int))
def fixedOf (xs : Row) : Row := xs.filter (fixedB xs)
/-- as the law has it -/
theorem fixed_due (xs : Row) : fixedOf xs = xs.filter fun x => !decide (x.1 ∈ looseOf xs) := by
  unfold fixedOf
  congr 1
  funext x
  unfold fixedB
  have := cnt_split x.1 xs
  by_cases h : x.1 ∈ looseOf xs
  · have := List.count_pos_iff.mpr h
    rw [decide_eq_false (by omega)]
    simp [h]
  · have := List.count_eq_zero.mpr h
    rw [decide_eq_true (by omega)]
    simp [h]
theorem scount_ok {ws : List Nat} {c : Nat} {M : Mem} : mthD false .count (.p (.str (txt ws))) [.p (.str (sign c))] M = some (.p (.int (ws.count c)), M) := by
  simp only [mthD, mSCount, str1, Option.map_some, count_txt]
theorem rcv_s {b : Mt} {s : Str} {M : Mem} (h : b.isStr = true) : rcv b (.p (.str s)) M = true := by
  unfold rcv
  rw [h]
theorem filterMap_row (P : Nat × Int → Bool) (xs : Row) (r : D → Option D) (h : ∀ x ∈ xs, r (.p (item x)) = if P x = true then some (.p (item x)) else none) : (row xs).filterMap r = row (xs.filter P) := by
  induction xs with
  | nil => rfl
  | cons x xs ih =>
    have h0 := h x List.mem_cons_self
    have ih := ih fun y hy => h y (List.mem_cons_of_mem _ hy)
    show (D.p (item x) :: row xs).filterMap r = _
    rw [List.filterMap_cons, h0]
    by_cases e : P x = true
    · rw [if_pos e, List.filter_cons_of_pos e]
      simp only [ih]
      rfl
    · rw [if_neg e, List.filter_cons_of_neg e]
      exact ih
/-- a comprehension over a row that keeps some of its items -/
theorem lcL_row {w : Wk} {body : D → Mem → R (Option D)} {M : Mem} (P : Nat × Int → Bool) (hs : stays w M = true) : ∀ {xs : Row}, (∀ x ∈ xs, body (.p (item x)) M = .ok (if P x = true then some (.p (item x)) else none) M) → lcL w body (row xs) M = .ok (row (xs.filter P)) M
  | [], _ => by simp [lcL, hs, row]
  | x :: xs, h => by
    have ih := lcL_row P hs (xs := xs) fun y hy => h y (List.mem_cons_of_mem _ hy)
    show lcL w body (D.p (item x) :: row xs) M = _
    simp only [lcL, hs, if_true, h x List.mem_cons_self, bind_ok, ih]
    by_cases e : P x = true
    · simp [e, row]
    · simp [e]
theorem fixed_body [Has T "fixed_items" (std_fixed_items cc)] [Has T "tags_in" (std_tags_in false)] [Has T "view_in" (std_view_in false)] [Has T "check_order" std_check_order] [Has T "sizes_in" std_sizes_in] [Has T "word_in" std_word_in] [Has T "is_order" std_is_order] [Has T "runs_in" std_runs_in] [Has T "is_item" std_is_item] [Has T "is_integer" std_is_integer] [Gl gg "MOST_ITEMS" (.int 24)] [Gl gg "MOST_TAGS" (.int 4)] [Gl gg "LETTERS" (.str letters)] [Gl gg "MOST_NUMBER" (.int 99)] (k : Nat) {o : D} {xs : Row} {M : Mem} (h : seqD M o = some (row xs)) (g : Good xs) :
    outR (execB ⟨callD gg xx T (k + 4), gg⟩ xx (std_fixed_items cc).body (startD (std_fixed_items cc).N [o]) M) = giv cc ((fixedOf xs).map item) (M ++ [.dct (sizesOf xs)]) := by
  have few := g.few
  have e1 := check_order_ok (gg := gg) (xx := xx) (T := T) k h g
  have e2 := word_in_ok (gg := gg) (xx := xx) (T := T) (k + 2) h (by omega)
  have e3 := sizes_in_ok (gg := gg) (xx := xx) (T := T) (k + 2) h (by omega)
  have h2 := seq_app (N := [.dct (sizesOf xs)]) h
  have wk := walk_seq h2
  have gD : (M ++ [Cell.dct (sizesOf xs)])[M.length]? = some (.dct (sizesOf xs)) := get_new
  have run := lcL_row (w := [(o, row xs)]) (body := lcB (evalTs ⟨callD gg xx T (k + 4), gg⟩ [(.cmp .Eq (.mth false (.var 1 0) .count [(.ix (.var 3 0) (.int 0 0) 0)] 0 0) (.ix (.var 2 0) (.ix (.var 3 0) (.int 0 0) 0) 0) 0)]) (evalE ⟨callD gg xx T (k + 4), gg⟩ (.var 3 0)) (.nm 3 0) [3] [some o, some (.p (.str (txt (wordOf xs)))), some (.ref M.length), none]) (M := M ++ [.dct (sizesOf xs)]) (fixedB xs) (xs := xs)
    (stays_one (by simp only [seqOrTup, h2])) (by
      intro x hx
      have e4 := ix_dct (c := x.1) gD (get_of (f := fun c => D.p (.int (cntOf xs c))) (tagNs_mem.mpr ⟨x, hx, rfl⟩))
      unfold sgn at e4
      unfold lcB
      simp only [wipeL, execB, execS, evalE, evalA, evalAnd, evalOr, startD, List.map, List.cons_append, List.nil_append, List.length_cons, List.length_nil, List.replicate, Nat.reduceAdd, Nat.reduceSub, get0, getS, bind_ok, to_ok, then_next, then_ret, out_ret, out_next, ofO_some, truB, if_t, if_f, if_true, sz0, sz1, sz2, sz3, sz4, sz5, sz6, sz7, sz8, sz9, sz10, sz11, sz12, mkT1, mkT2, mkT3, al_tr, alf0, alf1, alf2, alf3, alf4, alf5, alf6, alf7, alf8, setT_nm0, List.set_cons_succ, List.set_cons_zero, Nat.reduceLT, evalTs, rcv_s (b := .count) rfl, it_0, scount_ok, e4, eq_ii]
      show (R.calm (R.ok (fixedB xs x) _)).bind _ = _
      cases fixedB xs x <;> rfl)
  simp only [execB, execS, evalE, evalA, evalAnd, evalOr, startD, List.map, List.cons_append, List.nil_append, List.length_cons, List.length_nil, List.replicate, Nat.reduceAdd, Nat.reduceSub, get0, getS, bind_ok, to_ok, then_next, then_ret, out_ret, out_next, ofO_some, truB, if_t, if_f, if_true, sz0, sz1, sz2, sz3, sz4, sz5, sz6, sz7, sz8, sz9, sz10, sz11, sz12, mkT1, mkT2, mkT3, al_tr, alf0, alf1, alf2, alf3, alf4, alf5, alf6, alf7, alf8, setT_nm0, List.set_cons_succ, List.set_cons_zero, Nat.reduceLT] at run
  have small : (row (fixedOf xs)).length ≤ sizeLine := by
    have := List.length_filter_le (fixedB xs) xs
    rw [row_len, sizeLine_eq]
    unfold fixedOf
    omega
  have fin : finL cc (row (xs.filter (fixedB xs))) (M ++ [.dct (sizesOf xs)]) = giv cc ((fixedOf xs).map item) (M ++ [.dct (sizesOf xs)]) := by
    unfold finL
    show (if (row (fixedOf xs)).length ≤ sizeLine then ofO (al cc (row (fixedOf xs)) _) else _) = _
    rw [if_pos small, row_eq, giv_al]
  simp only [std_fixed_items, fixed_items_0, fixed_items_1, fixed_items_2, fixed_items_3, execB, execS, evalE, evalA, evalAnd, evalOr, startD, List.map, List.cons_append, List.nil_append, List.length_cons, List.length_nil, List.replicate, Nat.reduceAdd, Nat.reduceSub, get0, getS, bind_ok, to_ok, then_next, then_ret, out_ret, out_next, ofO_some, truB, if_t, if_f, if_true, sz0, sz1, sz2, sz3, sz4, sz5, sz6, sz7, sz8, sz9, sz10, sz11, sz12, mkT1, mkT2, mkT3, al_tr, alf0, alf1, alf2, alf3, alf4, alf5, alf6, alf7, alf8, setT_nm0, List.set_cons_succ, List.set_cons_zero, Nat.reduceLT, e1, e2, e3, wk, run, fin, to_giv]
theorem fixed_ok_t [Has T "fixed_items" (std_fixed_items true)] [Has T "tags_in" (std_tags_in false)] [Has T "view_in" (std_view_in false)] [Has T "check_order" std_check_order] [Has T "sizes_in" std_sizes_in] [Has T "word_in" std_word_in] [Has T "is_order" std_is_order] [Has T "runs_in" std_runs_in] [Has T "is_item" std_is_item] [Has T "is_integer" std_is_integer] [Gl gg "MOST_ITEMS" (.int 24)] [Gl gg "MOST_TAGS" (.int 4)] [Gl gg "LETTERS" (.str letters)] [Gl gg "MOST_NUMBER" (.int 99)] (k : Nat) {o : D} {xs : Row} {M : Mem} (h : seqD M o = some (row xs)) (g : Good xs) :
    callD gg xx T (k + 5) "fixed_items" [o] M = .ok (.ref (M.length + 1)) (M ++ [.dct (sizesOf xs), .lst (row (fixedOf xs))]) := by
  rw [call_has (F := std_fixed_items true) inferInstance rfl, fixed_body k h g, giv_t, ← row_eq, List.length_append, List.append_assoc, gc_no (by simp [D.bd])]
  rfl
theorem fixed_ok_f [Has T "fixed_items" (std_fixed_items false)] [Has T "tags_in" (std_tags_in false)] [Has T "view_in" (std_view_in false)] [Has T "check_order" std_check_order] [Has T "sizes_in" std_sizes_in] [Has T "word_in" std_word_in] [Has T "is_order" std_is_order] [Has T "runs_in" std_runs_in] [Has T "is_item" std_is_item] [Has T "is_integer" std_is_integer] [Gl gg "MOST_ITEMS" (.int 24)] [Gl gg "MOST_TAGS" (.int 4)] [Gl gg "LETTERS" (.str letters)] [Gl gg "MOST_NUMBER" (.int 99)] (k : Nat) {o : D} {xs : Row} {M : Mem} (h : seqD M o = some (row xs)) (g : Good xs) :
    callD gg xx T (k + 5) "fixed_items" [o] M = .ok (.p (.list ((fixedOf xs).map item))) M := by
  rw [call_has (F := std_fixed_items false) inferInstance rfl, fixed_body k h g, giv_f, gc_p]
end Mini.Std

namespace Mini.Std
open PySem PySem.Spec PyProof.Rows L2 Mini
variable {gg : Str → Option PyData} {xx : Str → Option Nat} {T : Tab} {cc : Bool}
theorem rev_at {M : Mem} {m : Nat} {xs : List D} {c : Bool} (h : M[m]? = some (.lst xs)) : mthD c .reverse (.ref m) [] M = some (nonD, M.set m (.lst xs.reverse)) := by
  simp only [mthD, mReverse, cel, celL, h]
/-! ### comprehensions, slices, sorting, in -/
theorem opt_t {r : R D} {M : Mem} : optI true r M = .ok none M := rfl
theorem opt_f {i : Int} {M M1 : Mem} : optI false (.ok (.p (.int i)) M1) M = .ok (some i) M1 := rfl
theorem stp_i {i : Int} {M : Mem} : stpD (.ok (.p (.int i)) M) = .ok i M := rfl
theorem lcL_map {α : Type} {w : Wk} {body : D → Mem → R (Option D)} {M : Mem} (emb : α → D) (P : α → Bool) (g : α → D) (hs : stays w M = true) : ∀ {as : List α}, (∀ a ∈ as, body (emb a) M = .ok (if P a = true then some (g a) else none) M) → lcL w body (as.map emb) M = .ok ((as.filter P).map g) M
  | [], _ => by simp [lcL, hs]
  | a :: as, h => by
    have ih := lcL_map emb P g hs (as := as) fun y hy => h y (List.mem_cons_of_mem _ hy)
    rw [List.map_cons]
    simp only [lcL, hs, if_true, h a List.mem_cons_self, bind_ok, ih]
    by_cases e : P a = true
    · simp [e]
    · simp [e]
theorem map_p_inj : ∀ {as bs : List PyData}, as.map D.p = bs.map D.p → as = bs
  | [], [], _ => rfl
  | [], _ :: _, h => by cases h
  | _ :: _, [], h => by cases h
  | a :: as, b :: bs, h => by
    rw [List.map_cons, List.map_cons] at h
    injection h with h1 h2
    injection h1 with h1
    rw [h1, map_p_inj h2]
theorem res_seq {n : Nat} {M : Mem} {o : D} {ds : List PyData} (h : seqD M o = some (ds.map .p)) : res (n + 1) M o = some (.list ds) := by
  cases o with
  | tr _ => cases h
  | p d => cases d with
    | list ys =>
      have : ys.map D.p = ds.map D.p := by
        have h' : some (ys.map D.p) = some (ds.map D.p) := h
        injection h'
      rw [map_p_inj this]
      rfl
    | _ => cases h
  | ref m =>
    unfold seqD at h
    simp only at h
    cases e : M[m]? with
    | none => rw [e] at h; cases h
    | some c => cases c with
      | lst ys =>
        rw [e] at h
        injection h with h
        exact res_cell (by rw [e, h])
      | dct _ => rw [e] at h; cases h
      | dead => rw [e] at h; cases h
theorem repr_seq {M : Mem} {o : D} {xs : Row} {c : Bool} (h : seqD M o = some (row xs)) (ok : ∀ x ∈ xs, ItOk x) (hl : xs.length ≤ 100) : bltD c .repr [o] M = some (.p (.str (rep xs)), M) :=
  repr_ok (res_seq (by rw [← row_eq]; exact h)) rfl (fine_row ok hl)
theorem cut_tail {α : Type} (xs : List α) : cutL xs (some 1) none = xs.tail := by
  unfold cutL
  rw [show (1 : Int) = ((1 : Nat) : Int) from rfl, HT.sIx_nat, HT.sIx_none]
  cases xs with
  | nil => rfl
  | cons x xs =>
    have : min 1 (x :: xs).length = 1 := by simp
    rw [this]
    simp
theorem sl_seq {o : D} {xs : Row} {lo hi : Option Int} {M : Mem} (h : seqD M o = some (row xs)) : slD false o lo hi M = some (.p (.list ((cutL xs lo hi).map item)), M) := by
  have e : slD false o lo hi M = al false (cutL (row xs) lo hi) M := by
    cases o with
    | tr _ => cases h
    | ref m => simp only [slD, h]
    | p d => cases d with
      | list ys => simp only [slD, h]
      | _ => cases h
  rw [e]
  unfold row
  rw [cut_map]
  unfold al
  rw [if_neg (by decide), pAll_map]
  rfl
theorem in_signs {ns : List Nat} {c : Nat} {M : Mem} : cmpD .In (.p (.str (sign c))) (.p (.list (ns.map fun c => .str (sign c)))) M = some (.p (.bool (decide (c ∈ ns))), M) := by
  have e : cmpD .In (.p (.str (sign c))) (.p (.list (ns.map fun c => .str (sign c)))) M = (inP (.str (sign c)) (.list (ns.map fun c => .str (sign c)))).map fun k => (.p (.bool k), M) := rfl
  rw [e]
  unfold inP
  simp only []
  rw [if_pos (by rfl)]
  have : (ns.map fun c => PyData.str (sign c)).any (fun y => PyData.eqv y (.str (sign c))) = decide (c ∈ ns) := by
    clear e
    induction ns with
    | nil => rfl
    | cons d ns ih =>
      rw [List.map_cons, List.any_cons, ih]
      have : PyData.eqv (.str (sign d)) (.str (sign c)) = decide (d = c) := by
        simp only [PyData.eqv]
        by_cases h : d = c
        · simp [h]
        · have : ¬ sign d = sign c := fun z => h (sign_inj.mp z)
          simp [h, this]
      rw [this]
      by_cases h : d = c
      · simp [h]
      · by_cases h2 : c ∈ ns
        · simp [h2]
        · have : ¬ c = d := fun z => h z.symm
          simp [h, h2, this]
  rw [this]
  rfl
theorem notin_signs {ns : List Nat} {c : Nat} {M : Mem} : cmpD .NotIn (.p (.str (sign c))) (.p (.list (ns.map fun c => .str (sign c)))) M = some (.p (.bool (!decide (c ∈ ns))), M) := by
  have h := in_signs (ns := ns) (c := c) (M := M)
  have e : cmpD .In (.p (.str (sign c))) (.p (.list (ns.map fun c => .str (sign c)))) M = (inP (.str (sign c)) (.list (ns.map fun c => .str (sign c)))).map fun k => (.p (.bool k), M) := rfl
  rw [e] at h
  have e2 : cmpD .NotIn (.p (.str (sign c))) (.p (.list (ns.map fun c => .str (sign c)))) M = ((inP (.str (sign c)) (.list (ns.map fun c => .str (sign c)))).map (!·)).map fun k => (.p (.bool k), M) := rfl
  rw [e2]
  cases e3 : inP (.str (sign c)) (.list (ns.map fun c => .str (sign c))) with
  | none => rw [e3] at h; cases h
  | some k =>
    rw [e3] at h
    simp only [Option.map_some, Option.some.injEq, Prod.mk.injEq, D.p.injEq, PyData.bool.injEq, and_true] at h
    rw [h]
    rfl
/-- x[::-1] -/
theorem pick_rev {α : Type} (xs : List α) : pickL xs none none (-1) = xs.reverse := by
  unfold pickL pickI
  rw [PySem.W.krv_bounds]
  show (sliceRange ((xs.length : Int) - 1) (-1) (-1)).filterMap (xs[·]?) = _
  rw [PySem.W.krv_sliceRange, PySem.W.krv_range, List.filterMap_reverse]
  have h := PySem.W.krv_all xs.toArray
  simp only [List.getElem?_toArray, List.size_toArray] at h
  rw [h]
theorem rev_seq {o : D} {xs : Row} {M : Mem} (h : seqD M o = some (row xs)) : slsD false o none none (-1) M = some (.p (.list (xs.reverse.map item)), M) := by
  unfold slsD
  rw [if_neg (by decide)]
  simp only [h]
  rw [pick_rev]
  unfold al row
  rw [if_neg (by decide), ← List.map_reverse, pAll_map]
  rfl
def unItem (d : PyData) : Nat × Int := match d with
  | .tuple [.str s, .int v] => (s.cps.toList.headD 0, v)
  | _ => (0, 0)
theorem un_item (x : Nat × Int) : unItem (item x) = x := rfl
theorem perm_item {ds : List PyData} {xs : Row} (h : ds.Perm (xs.map item)) : ∃ ys : Row, ds = ys.map item ∧ ys.Perm xs := by
  refine ⟨ds.map unItem, ?_, ?_⟩
  · rw [List.map_map]
    have : ∀ d ∈ ds, (item ∘ unItem) d = d := by
      intro d hd
      obtain ⟨x, _, rfl⟩ := List.mem_map.mp (h.mem_iff.mp hd)
      rfl
    rw [List.map_congr_left this]
    simp
  · have := h.map unItem
    rw [List.map_map] at this
    have e : unItem ∘ item = id := by funext x; rfl
    rw [e, List.map_id] at this
    exact this
theorem alike_item (x y : Nat × Int) : PySem.W.alike (item x) (item y) = true := rfl
theorem sort_row (xs : Row) : sortOk (xs.map item) = true := by
  unfold sortOk
  rw [Bool.and_eq_true, Bool.and_eq_true]
  refine ⟨⟨?_, ?_⟩, ?_⟩
  · rw [List.all_eq_true]
    intro a ha
    rw [List.all_eq_true]
    intro b hb
    obtain ⟨x, _, rfl⟩ := List.mem_map.mp ha
    obtain ⟨y, _, rfl⟩ := List.mem_map.mp hb
    rfl
  · rw [Bool.or_eq_true]
    left
    rw [List.all_eq_true]
    intro a ha
    obtain ⟨x, _, rfl⟩ := List.mem_map.mp ha
    rfl
  · rw [List.all_eq_true]
    intro a ha
    obtain ⟨x, _, rfl⟩ := List.mem_map.mp ha
    rfl
theorem sorted_row {o : D} {xs : Row} {M : Mem} (h : seqD M o = some (row xs)) (hl : xs.length ≤ 1000) : ∃ ys : Row, bltD false .sorted [o] M = some (.p (.list (ys.map item)), M) ∧ ys.Perm xs := by
  obtain ⟨ys, e, pm⟩ := perm_item (List.mergeSort_perm (xs.map item) (PySem.W.dataLe false id))
  refine ⟨ys, ?_, pm⟩
  have e1 : (seqD M o).bind pAll = some (xs.map item) := by
    rw [h]
    show pAll (row xs) = _
    unfold row
    exact pAll_map xs
  simp only [bltD, one1, bSorted, e1]
  rw [if_pos ⟨sort_row xs, by rw [List.length_map, sizeLine_eq]; omega⟩, e]
  unfold al
  rw [if_neg (by decide), Mini.pAll_map]
  rfl
theorem zip_rows : ∀ xs ys : Row, zipD (row xs) (row ys) = (xs.zip ys).map fun p => D.p (.tuple [item p.1, item p.2])
  | [], ys => by cases ys <;> rfl
  | _ :: _, [] => rfl
  | x :: xs, y :: ys => by
    have ih := zip_rows xs ys
    show mkT [.p (item x), .p (item y)] :: zipD (row xs) (row ys) = _
    rw [ih]
    rfl
theorem set_new1 {M : Mem} {c d e : Cell} : (M ++ [c, d]).set (M.length + 1) e = M ++ [c, e] := by
  rw [List.set_append_right _ _ (by omega), show M.length + 1 - M.length = 1 by omega]
  rfl
end Mini.Std

namespace Mini.Std
open PySem PySem.Spec PyProof.Rows L2 Mini
variable {gg : Str → Option PyData} {xx : Str → Option Nat} {T : Tab} {cc : Bool}
/-! ### numbers written -/
def dig (n : Int) : List Nat := (toString n : Str).cps.toList
theorem dig_str (n : Int) : (toString n : Str) = txt (dig n) := (TL.mk_tl (toString n : Str)).symm
theorem txt_app (a b : List Nat) : txt a ++ txt b = txt (a ++ b) := by
  apply TL.ext_tl
  rw [TL.tl_append]
  rfl
theorem emp_app (a : List Nat) : Str.empty ++ txt a = txt a := txt_app [] a
/-- what holds of the numbers from 1 to 99 -/
theorem dig_facts {n : Int} (h1 : 1 ≤ n) (h2 : n ≤ 99) : 1 ≤ (dig n).length ∧ (dig n).length ≤ 2 ∧ (∀ c ∈ dig n, 48 ≤ c ∧ c ≤ 57) ∧ (dig n).headD 0 ≠ 48 ∧ PySem.intText? (txt (dig n)) = some n := by
  have key : ((List.range 100).all fun i => i == 0 || (decide (1 ≤ (dig (i : Int)).length) && decide ((dig (i : Int)).length ≤ 2) && ((dig (i : Int)).all fun c => decide (48 ≤ c) && decide (c ≤ 57)) && decide ((dig (i : Int)).headD 0 ≠ 48) && decide (PySem.intText? (txt (dig (i : Int))) = some (i : Int)))) = true := by decide +kernel
  have := List.all_eq_true.mp key n.toNat (List.mem_range.mpr (by omega))
  rw [show ((n.toNat : Nat) : Int) = n by omega] at this
  have n0 : (n.toNat == 0) = false := by simp; omega
  rw [n0, Bool.false_or] at this
  simp only [Bool.and_eq_true, decide_eq_true_eq, List.all_eq_true] at this
  exact ⟨this.1.1.1.1, this.1.1.1.2, this.1.1.2, this.1.2, this.2⟩
def itemT (x : Nat × Int) : List Nat := x.1 :: dig x.2
theorem fmt_s {s : Str} {M : Mem} (h : s.length ≤ 1000) : fmtR (.ok (.p (.str s)) M) = .ok (.p (.str s)) M := by
  simp only [fmtR, R.bind, fmtD]
  rw [if_pos (small_n h)]
theorem fmt_i {n : Int} {M : Mem} (h : n.natAbs.log2 < 1920) : fmtR (.ok (.p (.int n)) M) = .ok (.p (.str (txt (dig n)))) M := by
  simp only [fmtR, R.bind, fmtD, if_pos h]
  rw [← dig_str]
theorem jn_t {a b : List Nat} {M : Mem} (h : a.length + b.length ≤ 4000) : jnD (txt a) (.p (.str (txt b))) M = .ok (txt (a ++ b)) M := by
  simp only [jnD]
  rw [txt_app, if_pos (by rw [txt_len, List.length_append, sizeLine_eq]; omega)]
theorem jn_0 {b : List Nat} {M : Mem} (h : b.length ≤ 4000) : jnD Str.empty (.p (.str (txt b))) M = .ok (txt b) M := by
  have := jn_t (a := []) (b := b) (M := M) (by simpa using h)
  exact this
theorem set_tp12 {x : Nat × Int} {p1 p2 ps q : Nat} {o a b : Option D} : setT (.tp [(.nm 1 p1), (.nm 2 p2)] ps q) (.p (item x)) [o, a, b] = some [o, some (.p (.str (sign x.1))), some (.p (.int x.2))] := rfl
theorem word_of_item_ok [Has T "word_of_item" std_word_of_item] (k : Nat) {x : Nat × Int} {M : Mem} (h : ItOk x) : callD gg xx T (k + 1) "word_of_item" [.p (item x)] M = .ok (.p (.str (txt (itemT x)))) M := by
  rw [call_has (F := std_word_of_item) inferInstance rfl]
  obtain ⟨h1, h2, h3, h4⟩ := h
  have d := dig_facts h3 h4
  have e1 : ∀ M : Mem, fmtR (.ok (.p (.str (sign x.1))) M) = .ok (.p (.str (txt [x.1]))) M := fun M => fmt_s (by show 1 ≤ 1000; omega)
  have e2 : ∀ M : Mem, fmtR (.ok (.p (.int x.2)) M) = .ok (.p (.str (txt (dig x.2)))) M := fun M => fmt_i (by have := log_99 h3 h4; omega)
  have e3 : ∀ M : Mem, jnD Str.empty (.p (.str (txt [x.1]))) M = .ok (txt [x.1]) M := fun M => jn_0 (by simp)
  have e4 : ∀ M : Mem, jnD (txt [x.1]) (.p (.str (txt (dig x.2)))) M = .ok (txt (itemT x)) M := fun M => jn_t (by simp; omega)
  have body : outR (execB ⟨callD gg xx T k, gg⟩ xx std_word_of_item.body (startD std_word_of_item.N [.p (item x)]) M) = .ok (.p (.str (txt (itemT x)))) M := by
    simp only [std_word_of_item, word_of_item_0, word_of_item_1, execB, execS, evalE, evalA, evalAnd, evalOr, startD, List.map, List.cons_append, List.nil_append, List.length_cons, List.length_nil, List.replicate, Nat.reduceAdd, Nat.reduceSub, get0, getS, bind_ok, to_ok, then_next, then_ret, out_ret, out_next, ofO_some, truB, if_t, if_f, if_true, sz0, sz1, sz2, sz3, sz4, sz5, sz6, sz7, sz8, sz9, sz10, sz11, sz12, mkT1, mkT2, mkT3, al_tr, alf0, alf1, alf2, alf3, alf4, alf5, alf6, alf7, alf8, setT_nm0, List.set_cons_succ, List.set_cons_zero, Nat.reduceLT, set_tp12, evalJ, e1, e2, e3, e4]
  rw [body, gc_p0]
/-- an order written -/
def orderT (xs : Row) : List Nat := TL.joinL [32] (xs.map itemT)
theorem join_items (xs : Row) : Txt.join " " (xs.map fun x => txt (itemT x)) = txt (orderT xs) := by
  have h : TL.tl (Txt.join " " (xs.map fun x => txt (itemT x))) = orderT xs := by
    rw [TL.join_eq, TL.tl_join, List.map_map]
    rfl
  have := TL.mk_tl (Txt.join " " (xs.map fun x => txt (itemT x)))
  rw [h] at this
  exact this.symm
theorem joinL_snoc (S : List Nat) : ∀ (ps : List (List Nat)) (p : List Nat), TL.joinL S (ps ++ [p]) = if ps = [] then p else TL.joinL S ps ++ (S ++ p)
  | [], p => rfl
  | [q], p => rfl
  | q :: r :: ps, p => by
    have ih := joinL_snoc S (r :: ps) p
    rw [if_neg (by simp)] at ih
    rw [if_neg (by simp)]
    show q ++ (S ++ TL.joinL S ((r :: ps) ++ [p])) = q ++ (S ++ TL.joinL S (r :: ps)) ++ (S ++ p)
    rw [ih]
    simp
theorem orderT_snoc (xs : Row) (x : Nat × Int) : orderT (xs ++ [x]) = if xs = [] then itemT x else orderT xs ++ (32 :: itemT x) := by
  unfold orderT
  rw [List.map_append, List.map_singleton, joinL_snoc]
  by_cases h : xs = []
  · subst h; rfl
  · rw [if_neg h, if_neg (by simpa using h)]
    rfl
theorem itemT_len {x : Nat × Int} (h : ItOk x) : (itemT x).length ≤ 3 := by
  have := (dig_facts h.2.2.1 h.2.2.2).2.1
  unfold itemT
  rw [List.length_cons]
  omega
theorem orderT_len : ∀ {xs : Row}, (∀ x ∈ xs, ItOk x) → (orderT xs).length ≤ 4 * xs.length
  | [], _ => by simp [orderT, TL.joinL]
  | [x], h => by
    have := itemT_len (h x (by simp))
    show (itemT x).length ≤ _
    simp
    omega
  | x :: y :: xs, h => by
    have h1 := orderT_len (xs := y :: xs) fun z hz => h z (List.mem_cons_of_mem _ hz)
    have h2 := itemT_len (h x (by simp))
    show (itemT x ++ ([32] ++ orderT (y :: xs))).length ≤ _
    rw [List.length_append, List.length_append]
    simp only [List.length_cons, List.length_nil] at h1 ⊢
    omega
theorem strs_items (xs : Row) : strsOf (xs.map fun x => D.p (.str (txt (itemT x)))) = some (xs.map fun x => txt (itemT x)) := by
  induction xs with
  | nil => rfl
  | cons x xs ih =>
    rw [List.map_cons]
    unfold strsOf
    simp only [ih, Option.map_some, List.map_cons]
theorem sum_items : ∀ {xs : Row}, (∀ x ∈ xs, ItOk x) → ((xs.map fun x => txt (itemT x)).map (·.length)).sum ≤ 3 * xs.length
  | [], _ => by simp
  | x :: xs, h => by
    have h1 := sum_items (xs := xs) fun z hz => h z (List.mem_cons_of_mem _ hz)
    have h2 := itemT_len (h x (by simp))
    simp only [List.map_cons, List.sum_cons, txt_len, List.length_cons] at h1 ⊢
    omega
theorem join_order {xs : Row} {M : Mem} {c : Bool} (ok : ∀ x ∈ xs, ItOk x) (hl : xs.length ≤ 1000) : mthD c .join (.p (.str " ")) [.p (.list (xs.map fun x => .str (txt (itemT x))))] M = some (.p (.str (txt (orderT xs))), M) := by
  have e1 : (xs.map fun x => PyData.str (txt (itemT x))).map D.p = xs.map fun x => D.p (.str (txt (itemT x))) := by rw [List.map_map]; rfl
  have s := sum_items ok
  simp only [mthD, mJoin, seqD, e1, Option.bind_some, strs_items]
  rw [if_pos, join_items]
  have : (" " : Str).length = 1 := rfl
  rw [this, List.length_map]
  omega
theorem format_order_ok [Has T "format_order" std_format_order] [Has T "check_order" std_check_order] [Has T "word_of_item" std_word_of_item] [Has T "is_order" std_is_order] [Has T "is_item" std_is_item] [Has T "tags_in" (std_tags_in cc)] [Has T "is_integer" std_is_integer] [Gl gg "SPACE" (.str " ")] [Gl gg "MOST_ITEMS" (.int 24)] [Gl gg "MOST_TAGS" (.int 4)] [Gl gg "LETTERS" (.str letters)] [Gl gg "MOST_NUMBER" (.int 99)] (k : Nat) {o : D} {xs : Row} {M : Mem} (h : seqD M o = some (row xs)) (g : Good xs) :
    callD gg xx T (k + 5) "format_order" [o] M = .ok (.p (.str (txt (orderT xs)))) M := by
  have few := g.few
  rw [call_has (F := std_format_order) inferInstance rfl]
  have e1 := check_order_ok (gg := gg) (xx := xx) (T := T) k h g
  have wk := walk_seq h
  have run := lcL_map (w := [(o, row xs)]) (body := lcB (evalTs ⟨callD gg xx T (k + 4), gg⟩ []) (evalE ⟨callD gg xx T (k + 4), gg⟩ (.cal "word_of_item" [(.var 1 0)] 0 0)) (.nm 1 0) [1] [some o, none]) (M := M) (fun x => D.p (item x)) (fun _ => true) (fun x => D.p (.str (txt (itemT x)))) (stays_one (by simp only [seqOrTup, h])) (as := xs) (by
    intro x hx
    have e2 := word_of_item_ok (gg := gg) (xx := xx) (T := T) (k + 3) (M := M) (g.ok x hx)
    unfold lcB
    simp only [wipeL, execB, execS, evalE, evalA, evalAnd, evalOr, startD, List.map, List.cons_append, List.nil_append, List.length_cons, List.length_nil, List.replicate, Nat.reduceAdd, Nat.reduceSub, get0, getS, bind_ok, to_ok, then_next, then_ret, out_ret, out_next, ofO_some, truB, if_t, if_f, if_true, sz0, sz1, sz2, sz3, sz4, sz5, sz6, sz7, sz8, sz9, sz10, sz11, sz12, mkT1, mkT2, mkT3, al_tr, alf0, alf1, alf2, alf3, alf4, alf5, alf6, alf7, alf8, setT_nm0, List.set_cons_succ, List.set_cons_zero, Nat.reduceLT, evalTs, R.calm, e2])
  have ft : xs.filter (fun _ => true) = xs := by simp
  rw [ft] at run
  have run' : lcL [(o, row xs)] (lcB (evalTs ⟨callD gg xx T (k + 4), gg⟩ []) (evalE ⟨callD gg xx T (k + 4), gg⟩ (.cal "word_of_item" [(.var 1 0)] 0 0)) (.nm 1 0) [1] [some o, none]) (row xs) M = .ok (xs.map fun x => D.p (.str (txt (itemT x)))) M := run
  simp only [execB, execS, evalE, evalA, evalAnd, evalOr, startD, List.map, List.cons_append, List.nil_append, List.length_cons, List.length_nil, List.replicate, Nat.reduceAdd, Nat.reduceSub, get0, getS, bind_ok, to_ok, then_next, then_ret, out_ret, out_next, ofO_some, truB, if_t, if_f, if_true, sz0, sz1, sz2, sz3, sz4, sz5, sz6, sz7, sz8, sz9, sz10, sz11, sz12, mkT1, mkT2, mkT3, al_tr, alf0, alf1, alf2, alf3, alf4, alf5, alf6, alf7, alf8, setT_nm0, List.set_cons_succ, List.set_cons_zero, Nat.reduceLT] at run'
  have fin : finL false (xs.map fun x => D.p (.str (txt (itemT x)))) M = .ok (.p (.list (xs.map fun x => .str (txt (itemT x))))) M := by
    unfold finL al
    rw [if_pos (small_n (by rw [List.length_map]; omega)), if_neg (by decide), pAll_map]
    rfl
  have gs : gg "SPACE" = some (.str " ") := Gl.eq
  have body : outR (execB ⟨callD gg xx T (k + 4), gg⟩ xx std_format_order.body (startD std_format_order.N [o]) M) = .ok (.p (.str (txt (orderT xs)))) M := by
    simp only [std_format_order, format_order_0, format_order_1, execB, execS, evalE, evalA, evalAnd, evalOr, startD, List.map, List.cons_append, List.nil_append, List.length_cons, List.length_nil, List.replicate, Nat.reduceAdd, Nat.reduceSub, get0, getS, bind_ok, to_ok, then_next, then_ret, out_ret, out_next, ofO_some, truB, if_t, if_f, if_true, sz0, sz1, sz2, sz3, sz4, sz5, sz6, sz7, sz8, sz9, sz10, sz11, sz12, mkT1, mkT2, mkT3, al_tr, alf0, alf1, alf2, alf3, alf4, alf5, alf6, alf7, alf8, setT_nm0, List.set_cons_succ, List.set_cons_zero, Nat.reduceLT, e1, gs, rcv_s (b := .join) rfl, wk, run', fin, join_order g.ok (show xs.length ≤ 1000 by omega)]
  rw [body, gc_p0]
/-! ### and read -/
theorem in_digits {c : Nat} (h1 : 48 ≤ c) (h2 : c ≤ 57) {M : Mem} : cmpD .In (.p (.str (sign c))) (.p (.str "0123456789")) M = some (.p (.bool true), M) := by
  have key : ((List.range 10).all fun i => !(Builtin.Str.occurrences "0123456789" (sign (48 + i)) 0 ("0123456789" : Str).length 1).isEmpty) = true := by decide +kernel
  have := List.all_eq_true.mp key (c - 48) (List.mem_range.mpr (by omega))
  rw [show 48 + (c - 48) = c by omega] at this
  have e : cmpD .In (.p (.str (sign c))) (.p (.str "0123456789")) M = (inP (.str (sign c)) (.str "0123456789")).map fun k => (.p (.bool k), M) := rfl
  rw [e]
  unfold inP
  simp only [this]
  rfl
theorem walk_txt {ws : List Nat} {M : Mem} (h : ws.length ≤ 1000) : walkR .ov [.p (.str (txt ws))] M = .ok (ws.map sgn, []) M := by
  have e : walkD .ov [.p (.str (txt ws))] M = if (txt ws).length ≤ sizeLine then some (ws.map sgn, []) else none := rfl
  unfold walkR
  rw [e, if_pos (small_n (by rw [txt_len]; exact h))]
theorem len_txt {ws : List Nat} {M : Mem} {c : Bool} (h : ws.length ≤ 1000) : bltD c .len [.p (.str (txt ws))] M = some (.p (.int ws.length), M) := by
  have c0 : celD (.p (.str (txt ws))) M = none := rfl
  simp only [bltD, one1, bLen, lenD, c0, lenS]
  rw [if_pos (small_n (by rw [txt_len]; exact h)), txt_len]
  rfl
theorem ix_txt0 {c : Nat} {ws : List Nat} {M : Mem} (h : ws.length < 1000) : ixD (.p (.str (txt (c :: ws)))) (.p (.int 0)) M = some (.p (.str (sign c)), M) := by
  have e : ixD (.p (.str (txt (c :: ws)))) (.p (.int 0)) M = if (txt (c :: ws)).length ≤ sizeLine then (atI (c :: ws) 0).map fun c => (.p (.str ⟨#[c]⟩), M) else none := rfl
  rw [e, if_pos (small_n (by rw [txt_len, List.length_cons]; omega))]
  have : atI (c :: ws) 0 = some c := at_nat (Int.le_refl 0) rfl
  rw [this]
  rfl
theorem eq_txt {a b : List Nat} {M : Mem} : cmpD .Eq (.p (.str (txt a))) (.p (.str (txt b))) M = some (.p (.bool (decide (a = b))), M) := by
  rw [eq_ss]
  simp only [txt_inj]
theorem ne_txt {a b : List Nat} {M : Mem} : cmpD .NotEq (.p (.str (txt a))) (.p (.str (txt b))) M = some (.p (.bool (!decide (a = b))), M) := by
  rw [ne_ss]
  simp only [txt_inj]
theorem int_txt {n : Int} {M : Mem} {c : Bool} (h1 : 1 ≤ n) (h2 : n ≤ 99) : bltD c .int [.p (.str (txt (dig n)))] M = some (.p (.int n), M) := by
  obtain ⟨a, b, -, -, e⟩ := dig_facts h1 h2
  simp only [bltD, one1, bInt, e]
  rw [if_pos (by rw [txt_len]; omega)]
theorem number_in_ok [Has T "number_in" std_number_in] [Gl gg "DIGITS" (.str "0123456789")] [Gl gg "MOST_DIGITS" (.int 2)] (k : Nat) {n : Int} {M : Mem} (h1 : 1 ≤ n) (h2 : n ≤ 99) : callD gg xx T (k + 1) "number_in" [.p (.str (txt (dig n)))] M = .ok (.p (.int n)) M := by
  obtain ⟨l1, l2, ds, hd, -⟩ := dig_facts h1 h2
  rw [call_has (F := std_number_in) inferInstance rfl]
  have gd : gg "DIGITS" = some (.str "0123456789") := Gl.eq
  have gm : gg "MOST_DIGITS" = some (.int 2) := Gl.eq
  have ln : ∀ (c : Bool) (M : Mem), bltD c .len [.p (.str (txt (dig n)))] M = some (.p (.int (dig n).length), M) := fun c M => len_txt (by omega)
  have d1 : decide ((1 : Int) ≤ (dig n).length) = true := decide_eq_true (by omega)
  have d2 : decide (((dig n).length : Int) ≤ 2) = true := decide_eq_true (by omega)
  have wk := walk_txt (ws := dig n) (M := M) (by omega)
  have run := lcL_map (w := []) (body := lcB (evalTs ⟨callD gg xx T k, gg⟩ []) (evalE ⟨callD gg xx T k, gg⟩ (.cmp .In (.var 1 0) (.glb "DIGITS" 0) 0)) (.nm 1 0) [1] [some (.p (.str (txt (dig n)))), none]) (M := M) sgn (fun _ => true) (fun _ => D.p (.bool true)) stays_nil (as := dig n) (by
    intro c hc
    have e := in_digits (M := M) (ds c hc).1 (ds c hc).2
    unfold lcB
    simp only [sgn, wipeL, execB, execS, evalE, evalA, evalAnd, evalOr, startD, List.map, List.cons_append, List.nil_append, List.length_cons, List.length_nil, List.replicate, Nat.reduceAdd, Nat.reduceSub, get0, getS, bind_ok, to_ok, then_next, then_ret, out_ret, out_next, ofO_some, truB, if_t, if_f, if_true, sz0, sz1, sz2, sz3, sz4, sz5, sz6, sz7, sz8, sz9, sz10, sz11, sz12, mkT1, mkT2, mkT3, al_tr, alf0, alf1, alf2, alf3, alf4, alf5, alf6, alf7, alf8, setT_nm0, List.set_cons_succ, List.set_cons_zero, Nat.reduceLT, evalTs, R.calm, gd, e])
  have ft : (dig n).filter (fun _ => true) = dig n := by simp
  rw [ft] at run
  simp only [execB, execS, evalE, evalA, evalAnd, evalOr, startD, List.map, List.cons_append, List.nil_append, List.length_cons, List.length_nil, List.replicate, Nat.reduceAdd, Nat.reduceSub, get0, getS, bind_ok, to_ok, then_next, then_ret, out_ret, out_next, ofO_some, truB, if_t, if_f, if_true, sz0, sz1, sz2, sz3, sz4, sz5, sz6, sz7, sz8, sz9, sz10, sz11, sz12, mkT1, mkT2, mkT3, al_tr, alf0, alf1, alf2, alf3, alf4, alf5, alf6, alf7, alf8, setT_nm0, List.set_cons_succ, List.set_cons_zero, Nat.reduceLT] at run
  have fin := fin_true (dig n) M (small_n (by omega))
  have n0 : decide (dig n = [48]) = false := by
    apply decide_eq_false
    intro e
    rw [e] at hd
    exact hd rfl
  have e0 : ("0" : Str) = txt [48] := rfl
  obtain ⟨c, ws, hw⟩ : ∃ c ws, dig n = c :: ws := by
    cases e : dig n with
    | nil => rw [e] at l1; cases l1
    | cons c ws => exact ⟨c, ws, rfl⟩
  have ix : ixD (.p (.str (txt (dig n)))) (.p (.int 0)) M = some (.p (.str (txt [c])), M) := by
    rw [hw] at l2 ⊢
    rw [List.length_cons] at l2
    exact ix_txt0 (by omega)
  have nc : decide ([c] = [48]) = false := by
    apply decide_eq_false
    intro e
    rw [hw] at hd
    injection e with e
    exact hd e
  have body : outR (execB ⟨callD gg xx T k, gg⟩ xx std_number_in.body (startD std_number_in.N [.p (.str (txt (dig n)))]) M) = .ok (.p (.int n)) M := by
    simp only [std_number_in, number_in_0, number_in_1, execB, execS, evalE, evalA, evalAnd, evalOr, startD, List.map, List.cons_append, List.nil_append, List.length_cons, List.length_nil, List.replicate, Nat.reduceAdd, Nat.reduceSub, get0, getS, bind_ok, to_ok, then_next, then_ret, out_ret, out_next, ofO_some, truB, if_t, if_f, if_true, sz0, sz1, sz2, sz3, sz4, sz5, sz6, sz7, sz8, sz9, sz10, sz11, sz12, mkT1, mkT2, mkT3, al_tr, alf0, alf1, alf2, alf3, alf4, alf5, alf6, alf7, alf8, setT_nm0, List.set_cons_succ, List.set_cons_zero, Nat.reduceLT, ln, le_ii, d1, d2, gm, Bool.not_true, wk, run, fin, all_true, e0, eq_txt, n0, ix, ne_txt, nc, Bool.not_false, int_txt h1 h2]
  rw [body, gc_p0]
theorem cut_1 {c : Nat} {ws : List Nat} : cutS (txt (c :: ws)) none (some 1) = txt [c] := by
  unfold cutS
  rw [txt_list, HT.sIx_none, show (1 : Int) = ((1 : Nat) : Int) from rfl, HT.sIx_nat, txt_len]
  have : min 1 (c :: ws).length = 1 := by simp
  rw [this]
  rfl
theorem cut_2 {c : Nat} {ws : List Nat} : cutS (txt (c :: ws)) (some 1) none = txt ws := by
  unfold cutS
  rw [txt_list, HT.sIx_none, show (1 : Int) = ((1 : Nat) : Int) from rfl, HT.sIx_nat, txt_len]
  have : min 1 (c :: ws).length = 1 := by simp
  rw [this]
  simp [txt]
theorem sl_txt {ws : List Nat} {lo hi : Option Int} {M : Mem} {c : Bool} (h : ws.length ≤ 1000) : slD c (.p (.str (txt ws))) lo hi M = some (.p (.str (cutS (txt ws) lo hi)), M) := by
  have e : slD c (.p (.str (txt ws))) lo hi M = if (txt ws).length ≤ sizeLine then some (.p (.str (cutS (txt ws) lo hi)), M) else none := rfl
  rw [e, if_pos (small_n (by rw [txt_len]; exact h))]
theorem item_in_ok [Has T "item_in" std_item_in] [Has T "is_item" std_is_item] [Has T "number_in" std_number_in] [Has T "is_integer" std_is_integer] [Gl gg "LETTERS" (.str letters)] [Gl gg "MOST_NUMBER" (.int 99)] [Gl gg "DIGITS" (.str "0123456789")] [Gl gg "MOST_DIGITS" (.int 2)] (k : Nat) {x : Nat × Int} {M : Mem} (h : ItOk x) : callD gg xx T (k + 3) "item_in" [.p (.str (txt (itemT x)))] M = .ok (.p (item x)) M := by
  rw [call_has (F := std_item_in) inferInstance rfl]
  have l3 := itemT_len h
  have e1 := sl_txt (c := false) (ws := itemT x) (lo := none) (hi := some 1) (M := M) (by omega)
  have e2 := sl_txt (c := false) (ws := itemT x) (lo := some 1) (hi := none) (M := M) (by omega)
  have c1 : cutS (txt (itemT x)) none (some 1) = sign x.1 := cut_1
  have c2 : cutS (txt (itemT x)) (some 1) none = txt (dig x.2) := cut_2
  rw [c1] at e1
  rw [c2] at e2
  have e3 := number_in_ok (gg := gg) (xx := xx) (T := T) (k + 1) (M := M) h.2.2.1 h.2.2.2
  have e4 := is_item_ok (gg := gg) (xx := xx) (T := T) k M h
  have mk : PyData.tuple [.str (sign x.1), .int x.2] = item x := rfl
  have body : outR (execB ⟨callD gg xx T (k + 2), gg⟩ xx std_item_in.body (startD std_item_in.N [.p (.str (txt (itemT x)))]) M) = .ok (.p (item x)) M := by
    simp only [std_item_in, item_in_0, item_in_1, execB, execS, evalE, evalA, evalAnd, evalOr, startD, List.map, List.cons_append, List.nil_append, List.length_cons, List.length_nil, List.replicate, Nat.reduceAdd, Nat.reduceSub, get0, getS, bind_ok, to_ok, then_next, then_ret, out_ret, out_next, ofO_some, truB, if_t, if_f, if_true, sz0, sz1, sz2, sz3, sz4, sz5, sz6, sz7, sz8, sz9, sz10, sz11, sz12, mkT1, mkT2, mkT3, al_tr, alf0, alf1, alf2, alf3, alf4, alf5, alf6, alf7, alf8, setT_nm0, List.set_cons_succ, List.set_cons_zero, Nat.reduceLT, E.isNop, opt_t, opt_f, e1, e2, e3, mk, e4]
  rw [body]
  exact gc_p0
theorem al_p {c : Bool} {ys : List PyData} {M : Mem} : al c (ys.map .p) M = if c = true then some (.ref M.length, M ++ [.lst (ys.map .p)]) else some (.p (.list ys), M) := by
  unfold al
  cases c
  · rw [if_neg (by decide), if_neg (by decide), Mini.pAll_map]; rfl
  · rfl
theorem split_order {xs : Row} {M : Mem} (ok : ∀ x ∈ xs, ItOk x) (hn : xs ≠ []) (hl : xs.length ≤ 100) : mthD false .split (.p (.str (txt (orderT xs)))) [.p (.str " ")] M = some (.p (.list (xs.map fun x => .str (txt (itemT x)))), M) := by
  have lo := orderT_len ok
  have sp : Txt.split (txt (orderT xs)) " " = xs.map fun x => txt (itemT x) := by
    rw [← join_items]
    refine TL.split_join (s := 32) (S := []) rfl (by decide +kernel) (by simpa using hn) ?_
    intro p hp
    obtain ⟨x, hx, rfl⟩ := List.mem_map.mp hp
    have hx := ok x hx
    have ds := (dig_facts hx.2.2.1 hx.2.2.2).2.2.1
    show 32 ∉ itemT x
    intro hm
    rcases List.mem_cons.mp hm with e | e
    · have := hx.1
      omega
    · have := (ds 32 e).1
      omega
  simp only [mthD, mSplit, str1]
  rw [if_pos ⟨by decide, by rw [txt_len, sizeLine_eq]; omega⟩, sp, List.map_map]
  have := al_p (c := false) (ys := xs.map fun x => PyData.str (txt (itemT x))) (M := M)
  rw [List.map_map] at this
  exact this
theorem lcL_items [Has T "item_in" std_item_in] [Has T "is_item" std_is_item] [Has T "number_in" std_number_in] [Has T "is_integer" std_is_integer] [Gl gg "LETTERS" (.str letters)] [Gl gg "MOST_NUMBER" (.int 99)] [Gl gg "DIGITS" (.str "0123456789")] [Gl gg "MOST_DIGITS" (.int 2)] (k : Nat) {l : Lo} {w : Wk} {xs : Row} {M : Mem} {i1 i2 : Nat} (hs : stays w M = true) (ok : ∀ x ∈ xs, ItOk x) (hl : 2 < l.length) :
    lcL w (lcB (evalTs ⟨callD gg xx T (k + 3), gg⟩ []) (evalE ⟨callD gg xx T (k + 3), gg⟩ (.cal "item_in" [(.var 2 0)] 0 0)) (.nm 2 0) [2] l) (xs.map fun x => D.p (.str (txt (itemT x)))) M = .ok (row xs) M := by
  have run := lcL_map (w := w) (body := lcB (evalTs ⟨callD gg xx T (k + 3), gg⟩ []) (evalE ⟨callD gg xx T (k + 3), gg⟩ (.cal "item_in" [(.var 2 0)] 0 0)) (.nm 2 0) [2] l) (M := M) (fun x => D.p (.str (txt (itemT x)))) (fun _ => true) (fun x => D.p (item x)) hs (as := xs) (by
    intro x hx
    have e := item_in_ok (gg := gg) (xx := xx) (T := T) k (M := M) (ok x hx)
    have g2 : getL ((wipeL l [2]).set 2 (some (.p (.str (txt (itemT x)))))) 2 M = .ok (.p (.str (txt (itemT x)))) M := get_l (by rw [List.getElem?_set_self (by rw [wipeL_len]; exact hl)])
    unfold lcB
    rw [setT_n (by rw [wipeL_len]; exact hl)]
    simp only [execB, execS, evalE, evalA, evalAnd, evalOr, startD, List.map, List.cons_append, List.nil_append, List.length_cons, List.length_nil, List.replicate, Nat.reduceAdd, Nat.reduceSub, get0, getS, bind_ok, to_ok, then_next, then_ret, out_ret, out_next, ofO_some, truB, if_t, if_f, if_true, sz0, sz1, sz2, sz3, sz4, sz5, sz6, sz7, sz8, sz9, sz10, sz11, sz12, mkT1, mkT2, mkT3, al_tr, alf0, alf1, alf2, alf3, alf4, alf5, alf6, alf7, alf8, setT_nm0, List.set_cons_succ, List.set_cons_zero, Nat.reduceLT, evalTs, R.calm, g2, e])
  have ft : xs.filter (fun _ => true) = xs := by simp
  rw [ft] at run
  exact run
theorem parse_order_ok [Has T "parse_order" (std_parse_order true)] [Has T "is_order" std_is_order] [Has T "item_in" std_item_in] [Has T "is_item" std_is_item] [Has T "tags_in" (std_tags_in cc)] [Has T "number_in" std_number_in] [Has T "is_integer" std_is_integer] [Gl gg "SPACE" (.str " ")] [Gl gg "MOST_ITEMS" (.int 24)] [Gl gg "MOST_TAGS" (.int 4)] [Gl gg "LETTERS" (.str letters)] [Gl gg "MOST_NUMBER" (.int 99)] [Gl gg "DIGITS" (.str "0123456789")] [Gl gg "MOST_DIGITS" (.int 2)] (k : Nat) {xs : Row} {M : Mem} (g : Good xs) :
    callD gg xx T (k + 4) "parse_order" [.p (.str (txt (orderT xs)))] M = .ok (.ref M.length) (M ++ [.lst (row xs)]) := by
  have few := g.few
  have one := g.one
  rw [call_has (F := std_parse_order true) inferInstance rfl]
  have gs : gg "SPACE" = some (.str " ") := Gl.eq
  have e1 := split_order (M := M) g.ok (by intro z; rw [z] at one; cases one) (by omega)
  have wk := walk_seq (o := .p (.list (xs.map fun x => .str (txt (itemT x))))) (M := M) (seq_data _ _)
  have mm : (xs.map fun x => PyData.str (txt (itemT x))).map D.p = xs.map fun x => D.p (.str (txt (itemT x))) := by rw [List.map_map]; rfl
  rw [mm] at wk
  have run := lcL_items (gg := gg) (xx := xx) (T := T) k (l := [some (.p (.str (txt (orderT xs)))), none, none]) (w := [(.p (.list (xs.map fun x => .str (txt (itemT x)))), xs.map fun x => D.p (.str (txt (itemT x))))]) (xs := xs) (M := M) (i1 := 0) (i2 := 0) (stays_one (by show some _ = _; rw [mm])) g.ok (by simp)
  simp only [execB, execS, evalE, evalA, evalAnd, evalOr, startD, List.map, List.cons_append, List.nil_append, List.length_cons, List.length_nil, List.replicate, Nat.reduceAdd, Nat.reduceSub, get0, getS, bind_ok, to_ok, then_next, then_ret, out_ret, out_next, ofO_some, truB, if_t, if_f, if_true, sz0, sz1, sz2, sz3, sz4, sz5, sz6, sz7, sz8, sz9, sz10, sz11, sz12, mkT1, mkT2, mkT3, al_tr, alf0, alf1, alf2, alf3, alf4, alf5, alf6, alf7, alf8, setT_nm0, List.set_cons_succ, List.set_cons_zero, Nat.reduceLT] at run
  have fin : finL true (row xs) M = .ok (.ref M.length) (M ++ [.lst (row xs)]) := by
    unfold finL
    rw [if_pos (small_n (by rw [row_len]; omega))]
    rfl
  have e2 := is_order_ok (gg := gg) (xx := xx) (T := T) k (o := .ref M.length) (M := M ++ [.lst (row xs)]) (seq_ref get_new) g
  have body : outR (execB ⟨callD gg xx T (k + 3), gg⟩ xx (std_parse_order true).body (startD (std_parse_order true).N [.p (.str (txt (orderT xs)))]) M) = .ok (.ref M.length) (M ++ [.lst (row xs)]) := by
    simp only [std_parse_order, parse_order_0, parse_order_1, parse_order_2, parse_order_3, execB, execS, evalE, evalA, evalAnd, evalOr, startD, List.map, List.cons_append, List.nil_append, List.length_cons, List.length_nil, List.replicate, Nat.reduceAdd, Nat.reduceSub, get0, getS, bind_ok, to_ok, then_next, then_ret, out_ret, out_next, ofO_some, truB, if_t, if_f, if_true, sz0, sz1, sz2, sz3, sz4, sz5, sz6, sz7, sz8, sz9, sz10, sz11, sz12, mkT1, mkT2, mkT3, al_tr, alf0, alf1, alf2, alf3, alf4, alf5, alf6, alf7, alf8, setT_nm0, List.set_cons_succ, List.set_cons_zero, Nat.reduceLT, isa_ss, Bool.not_true, gs, rcv_s (b := .split) rfl, e1, wk, run, fin, e2]
  rw [body, gc_new]
end Mini.Std

namespace Mini.Std
open PySem PySem.Spec PyProof.Rows L2 Mini
variable {gg : Str → Option PyData} {xx : Str → Option Nat} {T : Tab} {cc : Bool}
/-! ### runs by cutting -/
def slc (xs : Row) : List Nat → List Row
  | a :: b :: r => (xs.drop a).take (b - a) :: slc xs (b :: r)
  | _ => []
theorem slc_snoc (xs : Row) : ∀ (l : List Nat) (a b : Nat), slc xs (l ++ [a, b]) = slc xs (l ++ [a]) ++ [(xs.drop a).take (b - a)]
  | [], a, b => rfl
  | [c], a, b => rfl
  | c :: d :: l, a, b => by
    have ih := slc_snoc xs (d :: l) a b
    show (xs.drop c).take (d - c) :: slc xs ((d :: l) ++ [a, b]) = (xs.drop c).take (d - c) :: slc xs ((d :: l) ++ [a]) ++ _
    rw [ih]
    rfl
theorem slc_app (xs : Row) (x : Nat × Int) : ∀ l : List Nat, (∀ a ∈ l, a ≤ xs.length) → slc (xs ++ [x]) l = slc xs l
  | [], _ => rfl
  | [a], _ => rfl
  | a :: b :: r, h => by
    have ih := slc_app xs x (b :: r) fun c hc => h c (List.mem_cons_of_mem _ hc)
    have ha := h a (by simp)
    have hb := h b (by simp)
    show ((xs ++ [x]).drop a).take (b - a) :: slc (xs ++ [x]) (b :: r) = (xs.drop a).take (b - a) :: slc xs (b :: r)
    rw [ih, List.drop_append_of_le_length ha, List.take_append_of_le_length (by rw [List.length_drop]; omega)]
/-- where a new run begins -/
def brkB (xs : Row) (i : Nat) : Bool := !decide ((xs.getD i (0, 0)).1 = (xs.getD (i - 1) (0, 0)).1)
def brks (xs : Row) : List Nat := (List.range' 1 (xs.length - 1)).filter (brkB xs)
def cutsOf (xs : Row) : List Nat := 0 :: brks xs ++ [xs.length]
theorem brks_snoc (ys : Row) (y x : Nat × Int) : brks (ys ++ [y] ++ [x]) = brks (ys ++ [y]) ++ if y.1 = x.1 then [] else [ys.length + 1] := by
  unfold brks
  have l1 : (ys ++ [y] ++ [x]).length - 1 = ys.length + 1 := by simp
  have l2 : (ys ++ [y]).length - 1 = ys.length := by simp
  rw [l1, l2, List.range'_1_concat, List.filter_append]
  congr 1
  · apply List.filter_congr
    intro i hi
    rw [List.mem_range'_1] at hi
    unfold brkB
    have h1 : (ys ++ [y] ++ [x]).getD i (0, 0) = (ys ++ [y]).getD i (0, 0) := by
      simp only [List.getD_eq_getElem?_getD]
      rw [List.getElem?_append_left (by simp; omega)]
    have h2 : (ys ++ [y] ++ [x]).getD (i - 1) (0, 0) = (ys ++ [y]).getD (i - 1) (0, 0) := by
      simp only [List.getD_eq_getElem?_getD]
      rw [List.getElem?_append_left (by simp; omega)]
    rw [h1, h2]
  · have e : 1 + ys.length = ys.length + 1 := by omega
    rw [e]
    have h1 : (ys ++ [y] ++ [x]).getD (ys.length + 1) (0, 0) = x := by
      simp only [List.getD_eq_getElem?_getD]
      rw [List.getElem?_append_right (by simp)]
      simp
    have h2 : (ys ++ [y] ++ [x]).getD (ys.length + 1 - 1) (0, 0) = y := by
      simp only [List.getD_eq_getElem?_getD]
      rw [List.getElem?_append_left (by simp), Nat.add_sub_cancel, List.getElem?_append_right (by simp)]
      simp
    have b : brkB (ys ++ [y] ++ [x]) (ys.length + 1) = !decide (x.1 = y.1) := by
      unfold brkB
      rw [h1, h2]
    by_cases h : y.1 = x.1
    · rw [if_pos h, List.filter_cons_of_neg (by rw [b, decide_eq_true h.symm]; simp)]
      rfl
    · rw [if_neg h, List.filter_cons_of_pos (by rw [b, decide_eq_false (fun z => h z.symm)]; rfl)]
      rfl
theorem brks_lt {xs : Row} {i : Nat} (h : i ∈ brks xs) : 1 ≤ i ∧ i < xs.length := by
  unfold brks at h
  have := (List.mem_filter.mp h).1
  rw [List.mem_range'_1] at this
  omega
theorem runs_cut : ∀ (n : Nat) (xs : Row), xs.length = n + 1 → slc xs (cutsOf xs) = runsOf xs := by
  intro n
  induction n with
  | zero =>
    intro xs h
    match xs, h with
    | [x], _ => rfl
  | succ n ih =>
    intro xs h
    rcases List.eq_nil_or_concat xs with rfl | ⟨zs, x, rfl⟩
    · cases h
    rw [List.concat_eq_append] at h ⊢
    rcases List.eq_nil_or_concat zs with rfl | ⟨ys, y, rfl⟩
    · simp at h
    rw [List.concat_eq_append] at h ⊢
    have hy : (ys ++ [y]).length = n + 1 := by simpa using h
    have ih := ih (ys ++ [y]) hy
    -- the last start
    obtain ⟨c0, s, hc⟩ : ∃ c0 s, 0 :: brks (ys ++ [y]) = c0 ++ [s] := by
      rcases List.eq_nil_or_concat (0 :: brks (ys ++ [y])) with e | ⟨c0, s, e⟩
      · cases e
      · exact ⟨c0, s, by rw [e, List.concat_eq_append]⟩
    have le : ∀ a ∈ c0 ++ [s], a < (ys ++ [y]).length := by
      intro a ha
      rw [← hc] at ha
      rcases List.mem_cons.mp ha with rfl | ha
      · omega
      · exact (brks_lt ha).2
    have hs := le s (by simp)
    have l1 : (ys ++ [y] ++ [x]).length = (ys ++ [y]).length + 1 := by simp
    have dr : ∃ r0, (ys ++ [y]).drop s = r0 ++ [y] := by
      refine ⟨ys.drop s, ?_⟩
      rw [List.drop_append_of_le_length (by simp at hs; omega)]
    obtain ⟨r0, hr0⟩ := dr
    have full : ((ys ++ [y]).drop s).take ((ys ++ [y]).length - s) = r0 ++ [y] := by
      rw [List.take_of_length_le (by rw [List.length_drop]; exact Nat.le_refl _), hr0]
    have e0 : slc (ys ++ [y]) (cutsOf (ys ++ [y])) = slc (ys ++ [y]) (c0 ++ [s]) ++ [r0 ++ [y]] := by
      unfold cutsOf
      rw [hc, List.append_assoc]
      show slc _ (c0 ++ [s, (ys ++ [y]).length]) = _
      rw [slc_snoc, full]
    rw [e0] at ih
    rw [runs_snoc, ← ih, addRun_last]
    have sa := slc_app (ys ++ [y]) x (c0 ++ [s]) fun a ha => Nat.le_of_lt (le a ha)
    by_cases e : y.1 = x.1
    · rw [if_pos e]
      have ec : cutsOf (ys ++ [y] ++ [x]) = c0 ++ [s, (ys ++ [y]).length + 1] := by
        unfold cutsOf
        rw [brks_snoc, if_pos e, List.append_nil, hc, l1, List.append_assoc]
        rfl
      rw [ec, slc_snoc, sa, List.drop_append_of_le_length (Nat.le_of_lt hs), hr0]
      congr 2
      apply List.take_of_length_le
      have := congrArg List.length hr0
      rw [List.length_drop] at this
      rw [List.length_append, List.length_singleton]
      omega
    · rw [if_neg e]
      have ec : cutsOf (ys ++ [y] ++ [x]) = (c0 ++ [s]) ++ [(ys ++ [y]).length, (ys ++ [y]).length + 1] := by
        unfold cutsOf
        rw [brks_snoc, if_neg e, ← List.cons_append, hc, l1, List.append_assoc]
        simp
      rw [ec, slc_snoc]
      have sa2 := slc_app (ys ++ [y]) x ((c0 ++ [s]) ++ [(ys ++ [y]).length]) fun a ha => by
        rcases List.mem_append.mp ha with ha | ha
        · exact Nat.le_of_lt (le a ha)
        · have : a = (ys ++ [y]).length := by simpa using ha
          omega
      rw [sa2, List.append_assoc]
      show slc _ (c0 ++ [s, (ys ++ [y]).length]) ++ _ = _
      rw [slc_snoc, full, List.drop_append_of_le_length (Nat.le_refl _), List.drop_length]
      simp
/-! ### sorted tags -/
theorem sorted_same : ∀ {as bs : List Nat}, as.Pairwise (· < ·) → bs.Pairwise (· < ·) → (∀ c, c ∈ as ↔ c ∈ bs) → as = bs
  | [], [], _, _, _ => rfl
  | [], b :: bs, _, _, h => by have := (h b).mpr List.mem_cons_self; cases this
  | a :: as, [], _, _, h => by have := (h a).mp List.mem_cons_self; cases this
  | a :: as, b :: bs, ha, hb, h => by
    rw [List.pairwise_cons] at ha hb
    have e : a = b := by
      rcases List.mem_cons.mp ((h a).mp List.mem_cons_self) with e | e
      · exact e
      · rcases List.mem_cons.mp ((h b).mpr List.mem_cons_self) with e2 | e2
        · exact e2.symm
        · have h1 := hb.1 a e
          have h2 := ha.1 b e2
          omega
    subst e
    have hh : ∀ c, c ∈ as ↔ c ∈ bs := by
      intro c
      constructor
      · intro hc
        rcases List.mem_cons.mp ((h c).mp (List.mem_cons_of_mem _ hc)) with e | e
        · have := ha.1 c hc; omega
        · exact e
      · intro hc
        rcases List.mem_cons.mp ((h c).mpr (List.mem_cons_of_mem _ hc)) with e | e
        · have := hb.1 c hc; omega
        · exact e
    rw [sorted_same ha.2 hb.2 hh]
theorem key_le {a b : Nat} (h : PySem.W.dataLe false kD (.inr (sign a)) (.inr (sign b)) = true) : a ≤ b := by
  have e := congrFun (congrFun (PySem.W.dataLe_str (fun s : Str => s)) (sign a)) (sign b)
  have h2 : PySem.W.dataLe false (fun s : Str => PyData.str s) (sign a) (sign b) = true := h
  rw [e, decide_eq_true_eq] at h2
  have h3 : ([a] : List Nat) ≤ [b] := h2
  rw [List.cons_le_cons_iff] at h3
  rcases h3 with h3 | h3
  · omega
  · omega
theorem tagNs_sorted (xs : Row) : (tagNs xs).Pairwise (· < ·) := by
  have T := PySem.W.sortLe_total (listOrd itemOrd) false fun k : Key => PySem.W.keyToks (kD k)
  have pw : (sortK (dedupK (tagKeys xs))).Pairwise fun a b => PySem.W.dataLe false kD a b = true := PySem.W.sort_pairwise T _
  have le : (tagNs xs).Pairwise (· ≤ ·) := by
    unfold tagNs
    rw [List.pairwise_map]
    refine List.Pairwise.imp_of_mem ?_ pw
    intro a b ha hb h
    obtain ⟨x, _, rfl⟩ := sorted_tag ha
    obtain ⟨y, _, rfl⟩ := sorted_tag hb
    exact key_le h
  have nd := tagNs_nodup xs
  exact (le.and nd).imp fun h => by omega
/-- the letters that are tags -/
theorem tagNs_letters {xs : Row} (ok : ∀ x ∈ xs, ItOk x) : (List.range' 97 26).filter (fun c => decide (c ∈ xs.map (·.1))) = tagNs xs := by
  refine sorted_same ?_ (tagNs_sorted xs) ?_
  · exact List.Pairwise.filter _ (List.pairwise_lt_range')
  · intro c
    rw [List.mem_filter, tagNs_mem, decide_eq_true_eq, List.mem_map]
    constructor
    · rintro ⟨_, x, hx, e⟩
      exact ⟨x, hx, e⟩
    · rintro ⟨x, hx, e⟩
      have := ok x hx
      refine ⟨?_, x, hx, e⟩
      rw [List.mem_range'_1, ← e]
      exact ⟨this.1, by have := this.2.1; omega⟩
end Mini.Std

namespace Mini.Std
open PySem PySem.Spec PyProof.Rows L2 Mini
variable {gg : Str → Option PyData} {xx : Str → Option Nat} {T : Tab} {cc : Bool}
/-! ### terms and statements, step by step -/
section
variable {Γ : Wd} {xi : Str → Option Nat} {l : Lo} {M M1 M2 M3 : Mem}
theorem ev_cmp {op : CmpOp} {a b : E} {x y z : D} (h1 : evalE Γ a l M = .ok x M1) (h2 : evalE Γ b l M1 = .ok y M2) (h3 : cmpD op x y M2 = some (z, M3)) : evalE Γ (.cmp op a b 0) l M = .ok z M3 := by
  simp only [evalE, h1, h2, h3, bind_ok, ofO_some]
theorem ev_bin {c : Bool} {op : Operator} {a b : E} {x y z : D} (h1 : evalE Γ a l M = .ok x M1) (h2 : evalE Γ b l M1 = .ok y M2) (h3 : binD c op x y M2 = some (z, M3)) : evalE Γ (.bin c op a b 0) l M = .ok z M3 := by
  simp only [evalE, h1, h2, h3, bind_ok, ofO_some]
theorem ev_cal {f : Str} {es : List E} {ds : List D} {z : D} (h1 : evalA Γ es l M = .ok ds M1) (h2 : Γ.call f ds M1 = .ok z M2) : evalE Γ (.cal f es 0 0) l M = .ok z M2 := by
  simp only [evalE, h1, h2, bind_ok]
theorem ev_blt {c : Bool} {b : B} {es : List E} {ds : List D} {z : D} (h1 : evalA Γ es l M = .ok ds M1) (h2 : bltD c b ds M1 = some (z, M2)) : evalE Γ (.blt c b es 0 0) l M = .ok z M2 := by
  simp only [evalE, h1, h2, bind_ok, ofO_some]
theorem ev_lst {c : Bool} {es : List E} {ds : List D} {z : D} (h1 : evalA Γ es l M = .ok ds M1) (hl : ds.length ≤ 1000) (h2 : al c ds M1 = some (z, M2)) : evalE Γ (.lst c es 0) l M = .ok z M2 := by
  simp only [evalE, h1, h2, bind_ok, ofO_some]
  rw [if_pos (by rw [sizeLine_eq]; omega)]
theorem ev_mth {c : Bool} {o : E} {m : Mt} {es : List E} {x z : D} {ds : List D} (h1 : evalE Γ o l M = .ok x M1) (hr : rcv m x M1 = true) (h2 : evalA Γ es l M1 = .ok ds M2) (h3 : mthD c m x ds M2 = some (z, M3)) : evalE Γ (.mth c o m es 0 0) l M = .ok z M3 := by
  simp only [evalE, h1, hr, if_true, h2, h3, bind_ok, ofO_some]
theorem ev_ix {a b : E} {x y z : D} (h1 : evalE Γ a l M = .ok x M1) (h2 : evalE Γ b l M1 = .ok y M2) (h3 : ixD x y M2 = some (z, M3)) : evalE Γ (.ix a b 0) l M = .ok z M3 := by
  simp only [evalE, h1, h2, h3, bind_ok, ofO_some]
theorem ev_not {a : E} {b : Bool} (h1 : evalE Γ a l M = .ok (.p (.bool b)) M1) : evalE Γ (.not a 0) l M = .ok (.p (.bool !b)) M1 := by
  simp only [evalE, h1, bind_ok, truB]
theorem ev_lc {c : Bool} {k : IK} {its : List E} {t : Mini.T} {ifs : List E} {elt : E} {own : List (Str × Nat)} {ds : List D} {w : Wk} {R1 : List D} {d : D} {vs : List D}
    (hi : evalA Γ its l M = .ok vs M1) (wk : walkR k vs M1 = .ok (ds, w) M1) (run : lcL w (lcB (evalTs Γ ifs) (evalE Γ elt) t (own.map (·.2)) l) ds M1 = .ok R1 M2) (fin : finL c R1 M2 = .ok d M3) :
    evalE Γ (.lc c k its t ifs elt [] own 0) l M = .ok d M3 := by
  have e : evalE Γ (.lc c k its t ifs elt [] own 0) l M = ((evalA Γ its l M).bind fun ds M1 => walkR k ds M1).bind fun r M2 => (lcL r.2 (lcB (evalTs Γ ifs) (evalE Γ elt) t (own.map (·.2)) l) r.1 M2).bind fun ys M3 => finL c ys M3 := by
    simp only [evalE]
  rw [e, hi]
  simp only [bind_ok, wk, run, fin]
theorem ev_lrg {c : Bool} {es : List E} {ds : List D} {z : D} (h1 : evalA Γ es l M = .ok ds M1) (h2 : lrgD c ds M1 = some (z, M2)) : evalE Γ (.lrg c es 0 0 0 0) l M = .ok z M2 := by
  simp only [evalE, h1, h2, bind_ok, ofO_some]
theorem ev_int {i : Int} : evalE Γ (.int i 0) l M = .ok (.p (.int i)) M := by simp only [evalE]
theorem ev_str {s : Str} : evalE Γ (.str s 0) l M = .ok (.p (.str s)) M := by simp only [evalE]
theorem ev_bl {b : Bool} : evalE Γ (.bl b 0) l M = .ok (.p (.bool b)) M := by simp only [evalE]
theorem ev_non : evalE Γ (.non 0) l M = .ok (.p .none) M := by simp only [evalE]
theorem ea_nil : evalA Γ [] l M = .ok [] M := by simp only [evalA]
theorem ea_cons {e : E} {es : List E} {x : D} {xs : List D} (h1 : evalE Γ e l M = .ok x M1) (h2 : evalA Γ es l M1 = .ok xs M2) : evalA Γ (e :: es) l M = .ok (x :: xs) M2 := by
  simp only [evalA, h1, h2, bind_ok]
theorem ea_1 {e : E} {x : D} (h1 : evalE Γ e l M = .ok x M1) : evalA Γ [e] l M = .ok [x] M1 := ea_cons h1 ea_nil
theorem ea_2 {e e2 : E} {x x2 : D} (h1 : evalE Γ e l M = .ok x M1) (h2 : evalE Γ e2 l M1 = .ok x2 M2) : evalA Γ [e, e2] l M = .ok [x, x2] M2 := ea_cons h1 (ea_1 h2)
theorem ea_3 {e e2 e3 : E} {x x2 x3 : D} (h1 : evalE Γ e l M = .ok x M1) (h2 : evalE Γ e2 l M1 = .ok x2 M2) (h3 : evalE Γ e3 l M2 = .ok x3 M3) : evalA Γ [e, e2, e3] l M = .ok [x, x2, x3] M3 := ea_cons h1 (ea_2 h2 h3)
theorem ev_var {i : Nat} {d : D} (h : l[i]? = some (some d)) : evalE Γ (.var i 0) l M = .ok d M := by
  simp only [evalE]
  exact get_l h
theorem ev_or_ff {a b : E} (h1 : evalE Γ a l M = .ok (.p (.bool false)) M1) {d : D} (h2 : evalE Γ b l M1 = .ok d M2) : evalE Γ (.or [a, b] 0) l M = .ok d M2 := by
  simp only [evalE, evalOr, h1, bind_ok, truB, if_f, h2]
theorem ev_and_t {a b : E} (h1 : evalE Γ a l M = .ok (.p (.bool true)) M1) {d : D} (h2 : evalE Γ b l M1 = .ok d M2) : evalE Γ (.and [a, b] 0) l M = .ok d M2 := by
  simp only [evalE, evalAnd, h1, bind_ok, truB, if_true, h2]
theorem xs_asg {i : Nat} {e : E} {d : D} (h : evalE Γ e l M = .ok d M1) (hi : i < l.length) : execS Γ xi (.asg (.nm i 0) e 0) l M = .next (l.set i (some d)) M1 := by
  simp only [execS, h, to_ok, setT_n hi]
theorem xs_asgc {i : Nat} {e : E} {d : D} (h : evalE Γ e l M = .ok d M1) (hi : i < l.length) : execS Γ xi (.asgc i 0 e 0) l M = .next (l.set i (some d)) M1 := by
  simp only [execS, h, to_ok, if_pos hi]
theorem xs_ret {e : E} {d : D} (h : evalE Γ e l M = .ok d M1) : execS Γ xi (.ret e 0) l M = .ret d M1 := by
  simp only [execS, h, to_ok]
theorem xs_exp {e : E} {d : D} (h : evalE Γ e l M = .ok d M1) : execS Γ xi (.exp e 0) l M = .next l M1 := by
  simp only [execS, h, to_ok]
theorem xs_if_f {c : E} {a b : List S} (h : evalE Γ c l M = .ok (.p (.bool false)) M1) : execS Γ xi (.ite c a b 0) l M = execB Γ xi b l M1 := by
  simp only [execS, h, bind_ok, truB, to_ok, if_f]
theorem xs_if_t {c : E} {a b : List S} (h : evalE Γ c l M = .ok (.p (.bool true)) M1) : execS Γ xi (.ite c a b 0) l M = execB Γ xi a l M1 := by
  simp only [execS, h, bind_ok, truB, to_ok, if_true]
theorem xs_skip {c : E} {a : List S} (h : evalE Γ c l M = .ok (.p (.bool false)) M1) : execS Γ xi (.ite c a [] 0) l M = .next l M1 := by
  rw [xs_if_f h]; rfl
theorem xs_for {k : IK} {its : List E} {t : Mini.T} {body : List S} {vs ds : List D} {w : Wk} (hi : evalA Γ its l M = .ok vs M1) (wk : walkR k vs M1 = .ok (ds, w) M1) : execS Γ xi (.for_ k its t body 0) l M = forL w t (execB Γ xi body) ds l M1 := by
  simp only [execS, hi, bind_ok, wk, to_ok]
theorem xb_cons {s : S} {ss : List S} {l1 : Lo} (h : execS Γ xi s l M = .next l1 M1) : execB Γ xi (s :: ss) l M = execB Γ xi ss l1 M1 := by
  simp only [execB, h, then_next]
theorem xb_nil : execB Γ xi [] l M = .next l M := rfl
theorem xb_ret {s : S} {ss : List S} {d : D} (h : execS Γ xi s l M = .ret d M1) : execB Γ xi (s :: ss) l M = .ret d M1 := by
  simp only [execB, h, then_ret]
end
end Mini.Std

namespace Mini.Std
open PySem PySem.Spec PyProof.Rows L2 Mini
variable {gg : Str → Option PyData} {xx : Str → Option Nat} {T : Tab} {cc : Bool}
/-! ### texts put together -/
theorem tx_add {a b : List Nat} {M : Mem} (h : a.length + b.length ≤ 100000) : binD false .Add (.p (.str (txt a))) (.p (.str (txt b))) M = some (.p (.str (txt (a ++ b))), M) := by
  have e : binD false .Add (.p (.str (txt a))) (.p (.str (txt b))) M = if (txt a).length + (txt b).length ≤ sizeLine then some (.p (.str (txt a ++ txt b)), M) else none := rfl
  rw [e, if_pos (by rw [txt_len, txt_len, sizeLine_eq]; omega), txt_app]
theorem tx_str {n : Int} {M : Mem} {c : Bool} (h : n.natAbs.log2 < 1920) : bltD c .str [.p (.int n)] M = some (.p (.str (txt (dig n))), M) := by
  have e : bltD c .str [.p (.int n)] M = if n.natAbs.log2 < 1920 then some (.p (.str (toString n)), M) else none := rfl
  rw [e, if_pos h, dig_str]
theorem tx_mul01 {c : Nat} {b : Bool} {M : Mem} : binD false .Mult (.p (.str (txt [c]))) (.p (.int (if b = true then 1 else 0))) M = some (.p (.str (txt (if b = true then [c] else []))), M) := by
  cases b <;> rfl
theorem it1 (x : Nat × Int) (M : Mem) : ixD (.p (item x)) (.p (.int 1)) M = some (.p (.int x.2), M) := rfl
theorem tx_ne {a b : List Nat} {M : Mem} : cmpD .NotEq (.p (.str (txt a))) (.p (.str (txt b))) M = some (.p (.bool (!decide (a = b))), M) := ne_txt
theorem tx_eq {a b : List Nat} {M : Mem} : cmpD .Eq (.p (.str (txt a))) (.p (.str (txt b))) M = some (.p (.bool (decide (a = b))), M) := eq_txt
theorem strsOf_txt : ∀ ws : List (List Nat), strsOf (ws.map fun w => D.p (.str (txt w))) = some (ws.map txt)
  | [] => rfl
  | w :: ws => by
    have ih := strsOf_txt ws
    rw [List.map_cons]
    unfold strsOf
    simp only [ih, Option.map_some, List.map_cons]
theorem join_txt (s : List Nat) (ws : List (List Nat)) : Txt.join (txt s) (ws.map txt) = txt (TL.joinL s ws) := by
  have h : TL.tl (Txt.join (txt s) (ws.map txt)) = TL.joinL s ws := by
    rw [TL.join_eq, TL.tl_join, List.map_map]
    have : TL.tl ∘ txt = id := by funext w; rfl
    rw [this, List.map_id]
    rfl
  have := TL.mk_tl (Txt.join (txt s) (ws.map txt))
  rw [h] at this
  exact this.symm
/-- sep.join(texts) -/
theorem mth_join {s : List Nat} {ws : List (List Nat)} {M : Mem} {c : Bool} (hl : (ws.map (·.length)).sum + ws.length * s.length ≤ 100000) : mthD c .join (.p (.str (txt s))) [.p (.list (ws.map fun w => .str (txt w)))] M = some (.p (.str (txt (TL.joinL s ws))), M) := by
  have e1 : (ws.map fun w => PyData.str (txt w)).map D.p = ws.map fun w => D.p (.str (txt w)) := by rw [List.map_map]; rfl
  simp only [mthD, mJoin, seqD, e1, Option.bind_some, strsOf_txt]
  rw [if_pos, join_txt]
  have : (ws.map txt).map (·.length) = ws.map (·.length) := by
    rw [List.map_map]
    exact List.map_congr_left fun w _ => txt_len w
  rw [this, List.length_map, txt_len]
  omega
/-- a comprehension whose walk changes the cells -/
theorem ev_lcw {Γ : Wd} {l : Lo} {M M1 M2 M3 M4 : Mem} {c : Bool} {k : IK} {its : List E} {t : Mini.T} {ifs : List E} {elt : E} {own : List (Str × Nat)} {ds : List D} {w : Wk} {R1 : List D} {d : D} {vs : List D}
    (hi : evalA Γ its l M = .ok vs M1) (wk : walkR k vs M1 = .ok (ds, w) M2) (run : lcL w (lcB (evalTs Γ ifs) (evalE Γ elt) t (own.map (·.2)) l) ds M2 = .ok R1 M3) (fin : finL c R1 M3 = .ok d M4) :
    evalE Γ (.lc c k its t ifs elt [] own 0) l M = .ok d M4 := by
  have e : evalE Γ (.lc c k its t ifs elt [] own 0) l M = ((evalA Γ its l M).bind fun ds M1 => walkR k ds M1).bind fun r M2 => (lcL r.2 (lcB (evalTs Γ ifs) (evalE Γ elt) t (own.map (·.2)) l) r.1 M2).bind fun ys M3 => finL c ys M3 := by
    simp only [evalE]
  rw [e, hi]
  simp only [bind_ok, wk, run, fin]
section
variable {Γ : Wd} {xi : Str → Option Nat} {l l2 : Lo} {M M1 M2 M3 M4 M5 : Mem}
theorem ev_fst {a b : E} {es : List E} {x y z : D} {s1 s2 : Str} (h1 : evalE Γ a l M = .ok x M1) (h2 : jnD Str.empty x M1 = .ok s1 M2) (h3 : evalE Γ b l M2 = .ok y M3) (h4 : jnD s1 y M3 = .ok s2 M4) (h5 : evalJ Γ es s2 l M4 = .ok z M5) : evalE Γ (.fst a b es 0) l M = .ok z M5 := by
  simp only [evalE, h1, h2, h3, h4, h5, bind_ok]
theorem ev_fmt {a : E} {x y : D} (h1 : evalE Γ a l M = .ok x M1) (h2 : fmtR (.ok x M1) = .ok y M2) : evalE Γ (.fmt a 0) l M = .ok y M2 := by
  simp only [evalE, h1, h2]
theorem ev_ext {x : X1} {es : List E} {ds : List D} {z : D} (h1 : evalA Γ es l M = .ok ds M1) (h2 : x.sem Γ ds M1 = .ok z M2) : evalE Γ (.ext x es []) l M = .ok z M2 := by
  simp only [evalE, h1, h2, bind_ok]
theorem ej_nil {s : Str} : evalJ Γ [] s l M = .ok (.p (.str s)) M := by simp only [evalJ]
theorem ej_cons {e : E} {es : List E} {s s2 : Str} {x z : D} (h1 : evalE Γ e l M = .ok x M1) (h2 : jnD s x M1 = .ok s2 M2) (h3 : evalJ Γ es s2 l M2 = .ok z M3) : evalJ Γ (e :: es) s l M = .ok z M3 := by
  simp only [evalJ, h1, h2, h3, bind_ok]
theorem et_nil : evalTs Γ [] l M = .ok true M := by simp only [evalTs]
theorem et_1 {e : E} {b : Bool} (h : evalE Γ e l M = .ok (.p (.bool b)) M1) : evalTs Γ [e] l M = .ok b M1 := by
  simp only [evalTs, h, bind_ok, truB]
/-- one turn of a comprehension that keeps its item -/
theorem lcB_t {ft : Lo → Mem → R Bool} {fe : Lo → Mem → R D} {t : Mini.T} {own : List Nat} {d x : D} (h1 : setT t d (wipeL l own) = some l2) (h2 : ft l2 M = .ok true M1) (h3 : fe l2 M1 = .ok x M2) : lcB ft fe t own l d M = .ok (some x) M2 := by
  simp only [lcB, h1, h2, R.calm, bind_ok, if_true, h3]
theorem lcB_f {ft : Lo → Mem → R Bool} {fe : Lo → Mem → R D} {t : Mini.T} {own : List Nat} {d : D} (h1 : setT t d (wipeL l own) = some l2) (h2 : ft l2 M = .ok false M1) : lcB ft fe t own l d M = .ok none M1 := by
  simp only [lcB, h1, h2, R.calm, bind_ok, if_f]
theorem lcB_b {ft : Lo → Mem → R Bool} {fe : Lo → Mem → R D} {t : Mini.T} {own : List Nat} {d x : D} {b : Bool} (h1 : setT t d (wipeL l own) = some l2) (h2 : ft l2 M = .ok b M) (h3 : fe l2 M = .ok x M) : lcB ft fe t own l d M = .ok (if b = true then some x else none) M := by
  cases b
  · exact lcB_f h1 h2
  · exact lcB_t h1 h2 h3
theorem ev_tup {es : List E} {ds : List D} (h1 : evalA Γ es l M = .ok ds M1) (hl : ds.length ≤ 1000) : evalE Γ (.tup es 0 0) l M = .ok (mkT ds) M1 := by
  simp only [evalE, h1, bind_ok]
  rw [if_pos (by rw [sizeLine_eq]; omega)]
theorem ev_and_b {a b : E} {x : Bool} {d : D} (h1 : evalE Γ a l M = .ok (.p (.bool x)) M1) (h2 : x = true → evalE Γ b l M1 = .ok d M1) (h3 : x = false → d = .p (.bool false)) : evalE Γ (.and [a, b] 0) l M = .ok d M1 := by
  cases x with
  | true => simp only [evalE, evalAnd, h1, bind_ok, truB, if_true, h2 rfl]
  | false => simp only [evalE, evalAnd, h1, bind_ok, truB, if_f, h3 rfl]
theorem ev_ife_t {c a b : E} {d : D} (h : evalE Γ c l M = .ok (.p (.bool true)) M1) (h1 : evalE Γ a l M1 = .ok d M2) : evalE Γ (.ife c a b 0) l M = .ok d M2 := by
  simp only [evalE, h, bind_ok, truB, if_true, h1]
theorem ev_ife_f {c a b : E} {d : D} (h : evalE Γ c l M = .ok (.p (.bool false)) M1) (h1 : evalE Γ b l M1 = .ok d M2) : evalE Γ (.ife c a b 0) l M = .ok d M2 := by
  simp only [evalE, h, bind_ok, truB, if_f, h1]
theorem ev_neg {a : E} {i : Int} (h : evalE Γ a l M = .ok (.p (.int i)) M1) : evalE Γ (.neg a 0) l M = .ok (.p (.int (-i))) M1 := by
  simp only [evalE, h, bind_ok, negD, ofO_some]
theorem ev_isi {a : E} {t : Ty} {x : D} {b : Bool} (h : evalE Γ a l M = .ok x M1) (h2 : isaP t x M1 = some b) : evalE Γ (.isi a t 0 0 0) l M = .ok (.p (.bool b)) M1 := by
  simp only [evalE, h, bind_ok, h2]
theorem ev_glb {x : Str} {d : PyData} (h : Γ.glb x = some d) : evalE Γ (.glb x 0) l M = .ok (.p d) M := by
  simp only [evalE, h]
theorem ea_4 {e e2 e3 e4 : E} {x x2 x3 x4 : D} (h1 : evalE Γ e l M = .ok x M1) (h2 : evalE Γ e2 l M1 = .ok x2 M2) (h3 : evalE Γ e3 l M2 = .ok x3 M3) (h4 : evalE Γ e4 l M3 = .ok x4 M4) : evalA Γ [e, e2, e3, e4] l M = .ok [x, x2, x3, x4] M4 := ea_cons h1 (ea_3 h2 h3 h4)
theorem xs_asgt {t : Mini.T} {e : E} {d : D} (h : evalE Γ e l M = .ok d M1) (h2 : setT t d l = some l2) : execS Γ xi (.asg t e 0) l M = .next l2 M1 := by
  simp only [execS, h, to_ok, h2]
theorem xs_set {o i e : E} {v x y : D} (h1 : evalE Γ e l M = .ok v M1) (h2 : evalE Γ o l M1 = .ok x M2) (h3 : evalE Γ i l M2 = .ok y M3) (h4 : setIt x y v M3 = some M4) : execS Γ xi (.set o i e 0 0) l M = .next l M4 := by
  simp only [execS, h1, h2, h3, h4, to_ok]
theorem xs_setl {o e : E} {v x : D} (h1 : evalE Γ e l M = .ok v M1) (h2 : evalE Γ o l M1 = .ok x M2) (h3 : setAll x v M2 = some M3) : execS Γ xi (.setl o e 0 0 0) l M = .next l M3 := by
  simp only [execS, h1, h2, h3, to_ok]
theorem xs_aug {i : Nat} {op : Operator} {e : E} {x y z : D} (h0 : l[i]? = some (some x)) (h1 : evalE Γ e l M = .ok y M1) (h2 : augD op x y M1 = some (z, M2)) : execS Γ xi (.aug i op e 0 0) l M = .next (l.set i (some z)) M2 := by
  simp only [execS, get_l h0, to_ok, h1, h2, ofO_some]
theorem xs_augs {o i e : E} {op : Operator} {x y v u z : D} (h1 : evalE Γ o l M = .ok x M1) (h2 : evalE Γ i l M1 = .ok y M2) (h3 : ixG x y M2 = some (v, M2)) (h4 : evalE Γ e l M2 = .ok u M3) (h5 : augD op v u M3 = some (z, M4)) (h6 : setIt x y z M4 = some M5) : execS Γ xi (.augs o i op e 0 0) l M = .next l M5 := by
  simp only [execS, h1, h2, h3, h4, h5, h6, to_ok, ofO_some]
theorem xs_par {i j : Nat} {a b : E} {x y : D} (h1 : evalE Γ a l M = .ok x M1) (h2 : evalE Γ b l M1 = .ok y M2) (hi : i < l.length) (hj : j < l.length) : execS Γ xi (.par i j 0 0 0 0 a b 0 0 0) l M = .next ((l.set i (some x)).set j (some y)) M2 := by
  simp only [execS, h1, h2, to_ok]
  rw [if_pos ⟨hi, hj⟩]
theorem xs_par3 {i j k : Nat} {a b c : E} {x y z : D} (h1 : evalE Γ a l M = .ok x M1) (h2 : evalE Γ b l M1 = .ok y M2) (h3 : evalE Γ c l M2 = .ok z M3) (hi : i < l.length) (hj : j < l.length) (hk : k < l.length) : execS Γ xi (.par3 i j k 0 0 0 0 0 a b c 0 0 0) l M = .next (((l.set i (some x)).set j (some y)).set k (some z)) M3 := by
  simp only [execS, h1, h2, h3, to_ok]
  rw [if_pos ⟨hi, hj, hk⟩]
end
theorem fin_txts (ws : List (List Nat)) (M : Mem) (h : ws.length ≤ 1000) : finL false (ws.map fun w => D.p (.str (txt w))) M = .ok (.p (.list (ws.map fun w => .str (txt w)))) M := by
  have e : (ws.map fun w => D.p (.str (txt w))) = (ws.map fun w => PyData.str (txt w)).map D.p := by rw [List.map_map]; rfl
  unfold finL al
  rw [if_pos (small_n (by rw [List.length_map]; exact h)), if_neg (by decide), e, pAll_map]
  simp only [List.map_id', Option.map_some, ofO_some]
theorem wk_items {M : Mem} {m : Nat} {kds : List (Key × D)} (h : M[m]? = some (.dct kds)) : walkR (.itm 0 0) [.ref m] M = .ok (itmD kds, []) (M.set m .dead) := by
  unfold walkR walkD
  simp only [h]
/-! ### a number in four columns -/
def pad4 (n : Nat) : List Nat := List.replicate (4 - (dig n).length) 32 ++ dig n
theorem pad_facts {n : Nat} (h : n ≤ 99) : 1 ≤ (dig n).length ∧ (dig n).length ≤ 2 ∧ (⟨(List.replicate (4 - (Nat.toDigits 10 n).length) 32 ++ (Nat.toDigits 10 n).map Char.toNat).toArray⟩ : Str) = txt (pad4 n) ∧ (pad4 n).length = 4 ∧ Txt.mul (txt [32]) (4 - ((dig n).length : Int)) = txt (List.replicate (4 - (dig n).length) 32) := by
  have key : ((List.range 100).all fun i => decide (1 ≤ (dig i).length) && decide ((dig i).length ≤ 2) && decide ((⟨(List.replicate (4 - (Nat.toDigits 10 i).length) 32 ++ (Nat.toDigits 10 i).map Char.toNat).toArray⟩ : Str) = txt (pad4 i)) && decide ((pad4 i).length = 4) && decide (Txt.mul (txt [32]) (4 - ((dig i).length : Int)) = txt (List.replicate (4 - (dig i).length) 32))) = true := by decide +kernel
  have := List.all_eq_true.mp key n (List.mem_range.mpr (by omega))
  simp only [Bool.and_eq_true, decide_eq_true_eq] at this
  exact ⟨this.1.1.1.1, this.1.1.1.2, this.1.1.2, this.1.2, this.2⟩
theorem fm4_ok {n : Nat} {M : Mem} (h : n ≤ 99) : fm4D (.p (.int (n : Int))) M = some (.p (.str (txt (pad4 n))), M) := by
  unfold fm4D
  simp only
  rw [if_pos ⟨by omega, by omega⟩]
  rw [show ((n : Nat) : Int).natAbs = n from rfl, (pad_facts h).2.2.1]
theorem sem_one {Γ : Wd} (x : D) (M : Mem) : X1.sem Γ .fm4 [x] M = ofO (fm4D x M) := by simp only [X1.sem, one1]
theorem sem_fm4 {Γ : Wd} {n : Nat} {M : Mem} (h : n ≤ 99) : X1.sem Γ .fm4 [.p (.int (n : Int))] M = .ok (.p (.str (txt (pad4 n)))) M := by
  rw [sem_one, fm4_ok h, ofO_some]
theorem pad_mul {n : Nat} {M : Mem} (h : n ≤ 99) : binD false .Mult (.p (.str (txt [32]))) (.p (.int (4 - ((dig n).length : Int)))) M = some (.p (.str (txt (List.replicate (4 - (dig n).length) 32))), M) := by
  obtain ⟨h1, h2, h3, h4, h5⟩ := pad_facts h
  have e : binD false .Mult (.p (.str (txt [32]))) (.p (.int (4 - ((dig n).length : Int)))) M = if (txt [32]).length ≤ 4096 ∧ 0 ≤ (4 - ((dig n).length : Int)) ∧ (4 - ((dig n).length : Int)) ≤ 4096 then some (.p (.str (Txt.mul (txt [32]) (4 - ((dig n).length : Int)))), M) else none := rfl
  rw [e, if_pos ⟨by rw [txt_len]; decide, by omega, by omega⟩, h5]
end Mini.Std

namespace Mini.Std
open PySem PySem.Spec PyProof.Rows L2 Mini
/- k02 -/
def k02l_runs_0 : S := .asg (.nm 1 0) (.bin false .Add (.bin false .Add (.lst false [(.int 0 0)] 0) (.lc false (.rng 0 0) [(.int 1 0), (.blt false .len [(.var 0 0)] 0 0)] (.nm 2 0) [(.cmp .NotEq (.ix (.ix (.var 0 0) (.var 2 0) 0) (.int 0 0) 0) (.ix (.ix (.var 0 0) (.bin false .Sub (.var 2 0) (.int 1 0) 0) 0) (.int 0 0) 0) 0)] (.var 2 0) [] [("", 2)] 0) 0) (.lst false [(.blt false .len [(.var 0 0)] 0 0)] 0) 0) 0
def k02l_runs_1 : S := .ret (.lc false (.zip 0 0) [(.var 1 0), (.sl false (.var 1 0) (.int 1 0) .nop 0 0)] (.tp [(.nm 3 0), (.nm 4 0)] 0 0) [] (.sl false (.var 0 0) (.var 3 0) (.var 4 0) 0 0) [] [("", 3), ("", 4)] 0) 0
def std_k02_law_runs : Fn := ⟨1, ["_law_row_here", "_law_cuts", "_law_at", "_law_low", "_law_high"], [k02l_runs_0, k02l_runs_1]⟩
/- k02 -/
def k02l_right_0 : S := .par 1 2 0 0 0 0 (.blt false .repr [(.var 0 0)] 0 0) (.cal "_law_runs" [(.var 0 0)] 0 0) 0 0 0
def k02l_right_1 : S := .asgc 3 0 (.lc false .ov [(.str "abcdefghijklmnopqrstuvwxyz" 0)] (.nm 8 0) [(.cmp .In (.var 8 0) (.lc false .ov [(.var 0 0)] (.nm 9 0) [] (.ix (.var 9 0) (.int 0 0) 0) [] [("", 9)] 0) 0)] (.var 8 0) [] [("", 8)] 0) 0
def k02l_right_2 : S := .ite (.cmp .NotEq (.cal "word_of" [(.var 0 0)] 0 0) (.mth false (.str "" 0) .join [(.lc false .ov [(.var 2 0)] (.nm 4 0) [] (.ix (.ix (.var 4 0) (.int 0 0) 0) (.int 0 0) 0) [] [("", 4)] 0)] 0 0) 0) [
    .ret (.bl false 0) 0] [] 0
def k02l_right_3b_0 : S := .asg (.nm 6 0) (.lst true [(.cal "tags_of" [(.var 0 0)] 0 0), (.cal "runs_of" [(.var 0 0)] 0 0)] 0) 0
def k02l_right_3b_1 : S := .ite (.or [(.not (.cal "_law_equal" [(.var 6 0), (.lst false [(.var 3 0), (.var 2 0)] 0)] 0 0) 0), (.cmp .NotEq (.blt false .repr [(.var 0 0)] 0 0) (.var 1 0) 0)] 0) [
      .ret (.bl false 0) 0] [] 0
def k02l_right_3b_2 : S := .exp (.mth false (.ix (.var 6 0) (.int 0 0) 0) .append [(.str "z" 0)] 0 0) 0
def k02l_right_3b_3b_0 : S := .exp (.mth false (.var 4 0) .append [(.var 7 0)] 0 0) 0
def k02l_right_3b_3b : List S := [k02l_right_3b_3b_0]
def k02l_right_3b_3 : S := .for_ (.enu 0 0) [(.ix (.var 6 0) (.int 1 0) 0)] (.tp [(.nm 7 0), (.nm 4 0)] 0 0) k02l_right_3b_3b 0
def k02l_right_3b_4 : S := .ite (.cmp .NotEq (.lc false .ov [(.ix (.var 6 0) (.int 1 0) 0)] (.nm 4 0) [] (.ix (.var 4 0) (.neg (.int 1 0) 0) 0) [] [("", 4)] 0) (.lrg false [(.blt false .len [(.var 2 0)] 0 0)] 0 0 0 0) 0) [
      .ret (.bl false 0) 0] [] 0
def k02l_right_3b_5 : S := .exp (.mth false (.ix (.var 6 0) (.int 1 0) 0) .clear [] 0 0) 0
def k02l_right_3b : List S := [k02l_right_3b_0, k02l_right_3b_1, k02l_right_3b_2, k02l_right_3b_3, k02l_right_3b_4, k02l_right_3b_5]
def k02l_right_3 : S := .for_ (.rng 0 0) [(.int 2 0)] (.nm 5 0) k02l_right_3b 0
def k02l_right_4 : S := .ret (.cmp .Eq (.blt false .repr [(.var 0 0)] 0 0) (.var 1 0) 0) 0
def std_k02_law_right : Fn := ⟨1, ["_law_row_here", "_law_before", "_law_due", "_law_signs", "_law_run", "_law_attempt", "_law_found", "_law_at", "_law_letter", "_law_thing"], [k02l_right_0, k02l_right_1, k02l_right_2, k02l_right_3, k02l_right_4]⟩
/- k02 -/
def k02l_holds_0 : S := .asg (.nm 2 0) (.cal "_law_row" [(.var 0 0), (.var 1 0)] 0 0) 0
def k02l_holds_1b_0 : S := .ite (.not (.cal "_law_right" [(.var 3 0)] 0 0) 0) [
      .ret (.bl false 0) 0] [] 0
def k02l_holds_1b : List S := [k02l_holds_1b_0]
def k02l_holds_1 : S := .for_ .ov [(.lst true [(.var 2 0), (.sls false (.var 2 0) .nop .nop (.neg (.int 1 0) 0) 0 0), (.blt false .sorted [(.var 2 0)] 0 0)] 0)] (.nm 3 0) k02l_holds_1b 0
def k02l_holds_2b_0 : S := .exp (.mth false (.var 2 0) .append [(.mth false (.var 2 0) .pop [(.cal "_law_draw" [(.var 0 0), (.blt false .len [(.var 2 0)] 0 0)] 0 0)] 0 0)] 0 0) 0
def k02l_holds_2b_1 : S := .ite (.not (.cal "_law_right" [(.var 2 0)] 0 0) 0) [
      .ret (.bl false 0) 0] [] 0
def k02l_holds_2b : List S := [k02l_holds_2b_0, k02l_holds_2b_1]
def k02l_holds_2 : S := .for_ (.rng 0 0) [(.int 3 0)] (.nm 4 0) k02l_holds_2b 0
def k02l_holds_3 : S := .asg (.nm 5 0) (.lst false [(.lst false [(.tup [(.str "b" 0), (.int 1 0)] 0 0)] 0), (.lst false [(.tup [(.str "a" 0), (.int 1 0)] 0 0), (.tup [(.str "a" 0), (.int 2 0)] 0 0)] 0)] 0) 0
def k02l_holds_4 : S := .ret (.and [(.cmp .Eq (.cal "word_of" [(.lst false [(.tup [(.str "q" 0), (.int 7 0)] 0 0)] 0)] 0 0) (.str "q" 0) 0), (.cmp .Eq (.cal "runs_of" [(.lst false [(.tup [(.str "b" 0), (.int 1 0)] 0 0), (.tup [(.str "a" 0), (.int 1 0)] 0 0), (.tup [(.str "a" 0), (.int 2 0)] 0 0)] 0)] 0 0) (.var 5 0) 0)] 0) 0
def std_k02_law_holds : Fn := ⟨2, ["_law_source_here", "_law_most", "_law_row_here", "_law_some", "_law_step", "_law_due"], [k02l_holds_0, k02l_holds_1, k02l_holds_2, k02l_holds_3, k02l_holds_4]⟩
end Mini.Std

namespace Mini.Std
open PySem PySem.Spec PyProof.Rows L2 Mini
variable {gg : Str → Option PyData} {xx : Str → Option Nat} {T : Tab} {cc : Bool}
theorem tags_of_ok [Has T "tags_of" std_tags_of] [Has T "check_order" std_check_order] [Has T "tags_in" (std_tags_in cc)] [Has T "is_order" std_is_order] [Has T "is_item" std_is_item] [Has T "is_integer" std_is_integer] [Gl gg "MOST_ITEMS" (.int 24)] [Gl gg "MOST_TAGS" (.int 4)] [Gl gg "LETTERS" (.str letters)] [Gl gg "MOST_NUMBER" (.int 99)] (k : Nat) {o : D} {xs : Row} {M : Mem} (h : seqD M o = some (row xs)) (g : Good xs) :
    callD gg xx T (k + 5) "tags_of" [o] M = giv cc (tagsL xs) M := by
  have few := g.few
  rw [call_has (F := std_tags_of) inferInstance rfl]
  have e1 := check_order_ok (gg := gg) (xx := xx) (T := T) k h g
  have e2 := tags_in_ok (gg := gg) (xx := xx) (T := T) (cc := cc) (k + 3) h (by omega)
  have body : outR (execB ⟨callD gg xx T (k + 4), gg⟩ xx std_tags_of.body (startD std_tags_of.N [o]) M) = giv cc (tagsL xs) M := by
    simp only [std_tags_of, tags_of_0, tags_of_1, execB, execS, evalE, evalA, evalAnd, evalOr, startD, List.map, List.cons_append, List.nil_append, List.length_cons, List.length_nil, List.replicate, Nat.reduceAdd, Nat.reduceSub, get0, getS, bind_ok, to_ok, then_next, then_ret, out_ret, out_next, ofO_some, truB, if_t, if_f, if_true, sz0, sz1, sz2, sz3, sz4, sz5, sz6, sz7, sz8, sz9, sz10, sz11, sz12, mkT1, mkT2, mkT3, al_tr, alf0, alf1, alf2, alf3, alf4, alf5, alf6, alf7, alf8, setT_nm0, List.set_cons_succ, List.set_cons_zero, Nat.reduceLT, e1, e2, to_giv]
  rw [body, gc_giv]
theorem runs_of_ok [Has T "runs_of" std_runs_of] [Has T "check_order" std_check_order] [Has T "runs_in" std_runs_in] [Has T "is_order" std_is_order] [Has T "is_item" std_is_item] [Has T "tags_in" (std_tags_in cc)] [Has T "is_integer" std_is_integer] [Gl gg "MOST_ITEMS" (.int 24)] [Gl gg "MOST_TAGS" (.int 4)] [Gl gg "LETTERS" (.str letters)] [Gl gg "MOST_NUMBER" (.int 99)] (k : Nat) {o : D} {xs : Row} {M : Mem} (h : seqD M o = some (row xs)) (g : Good xs) :
    callD gg xx T (k + 5) "runs_of" [o] M = .ok (.ref M.length) (M ++ RM M.length (runsOf xs)) := by
  have few := g.few
  rw [call_has (F := std_runs_of) inferInstance rfl]
  have e1 := check_order_ok (gg := gg) (xx := xx) (T := T) k h g
  have e2 := runs_in_ok (gg := gg) (xx := xx) (T := T) (k + 3) h (by omega)
  have body : outR (execB ⟨callD gg xx T (k + 4), gg⟩ xx std_runs_of.body (startD std_runs_of.N [o]) M) = .ok (.ref M.length) (M ++ RM M.length (runsOf xs)) := by
    simp only [std_runs_of, runs_of_0, runs_of_1, execB, execS, evalE, evalA, evalAnd, evalOr, startD, List.map, List.cons_append, List.nil_append, List.length_cons, List.length_nil, List.replicate, Nat.reduceAdd, Nat.reduceSub, get0, getS, bind_ok, to_ok, then_next, then_ret, out_ret, out_next, ofO_some, truB, if_t, if_f, if_true, sz0, sz1, sz2, sz3, sz4, sz5, sz6, sz7, sz8, sz9, sz10, sz11, sz12, mkT1, mkT2, mkT3, al_tr, alf0, alf1, alf2, alf3, alf4, alf5, alf6, alf7, alf8, setT_nm0, List.set_cons_succ, List.set_cons_zero, Nat.reduceLT, e1, e2]
  rw [body, gc_no (by simp [D.bd])]
theorem word_of_ok [Has T "word_of" std_word_of] [Has T "check_order" std_check_order] [Has T "word_in" std_word_in] [Has T "is_order" std_is_order] [Has T "runs_in" std_runs_in] [Has T "is_item" std_is_item] [Has T "tags_in" (std_tags_in cc)] [Has T "is_integer" std_is_integer] [Gl gg "MOST_ITEMS" (.int 24)] [Gl gg "MOST_TAGS" (.int 4)] [Gl gg "LETTERS" (.str letters)] [Gl gg "MOST_NUMBER" (.int 99)] (k : Nat) {o : D} {xs : Row} {M : Mem} (h : seqD M o = some (row xs)) (g : Good xs) :
    callD gg xx T (k + 5) "word_of" [o] M = .ok (.p (.str (txt (wordOf xs)))) M := by
  have few := g.few
  rw [call_has (F := std_word_of) inferInstance rfl]
  have e1 := check_order_ok (gg := gg) (xx := xx) (T := T) k h g
  have e2 := word_in_ok (gg := gg) (xx := xx) (T := T) (k + 2) h (by omega)
  have body : outR (execB ⟨callD gg xx T (k + 4), gg⟩ xx std_word_of.body (startD std_word_of.N [o]) M) = .ok (.p (.str (txt (wordOf xs)))) M := by
    simp only [std_word_of, word_of_0, word_of_1, execB, execS, evalE, evalA, evalAnd, evalOr, startD, List.map, List.cons_append, List.nil_append, List.length_cons, List.length_nil, List.replicate, Nat.reduceAdd, Nat.reduceSub, get0, getS, bind_ok, to_ok, then_next, then_ret, out_ret, out_next, ofO_some, truB, if_t, if_f, if_true, sz0, sz1, sz2, sz3, sz4, sz5, sz6, sz7, sz8, sz9, sz10, sz11, sz12, mkT1, mkT2, mkT3, al_tr, alf0, alf1, alf2, alf3, alf4, alf5, alf6, alf7, alf8, setT_nm0, List.set_cons_succ, List.set_cons_zero, Nat.reduceLT, e1, e2]
  rw [body, gc_p0]
/-! ### the runs, as the law cuts them -/
def natD (i : Nat) : D := .p (.int (i : Int))
def rowsP (rs : List Row) : List PyData := rs.map fun r => .list (r.map item)
theorem rng_nat (m : Nat) : rngD 1 m = (List.range' 1 m).map natD := by
  unfold rngD
  rw [List.range'_eq_map_range, List.map_map]
  apply List.map_congr_left
  intro i _
  show D.p (.int (1 + (i : Int))) = .p (.int ((1 + i : Nat) : Int))
  rw [Int.natCast_add]
  rfl
theorem walk_rng2 {p q : Nat} {i j : Int} {M : Mem} (hi : big i) (hj : big j) : walkR (.rng p q) [.p (.int i), .p (.int j)] M = .ok (rngD i (j - i).toNat, []) M := by
  unfold walkR walkD
  simp only [if_pos (And.intro hi hj)]
theorem ix_seq {o : D} {xs : Row} {M : Mem} {i : Nat} (h : seqD M o = some (row xs)) (hi : i < xs.length) : ixD o (.p (.int (i : Int))) M = some (.p (item (xs.getD i (0, 0))), M) := by
  have at1 : atI (row xs) (i : Int) = some (.p (item (xs.getD i (0, 0)))) := at_nat (by omega) (by
    rw [Int.toNat_natCast, get_at hi, List.getD_eq_getElem?_getD, List.getElem?_eq_getElem hi]
    rfl)
  have c0 := cel_seq h
  unfold ixD
  rw [c0]
  unfold ixS
  cases o with
  | tr _ => cases h
  | ref m => simp only [h, at1]; rfl
  | p d => cases d with
    | list ys => simp only [h, at1]; rfl
    | _ => cases h
theorem add_lists {a b : List PyData} {M : Mem} (h : a.length + b.length ≤ 1000) : binD false .Add (.p (.list a)) (.p (.list b)) M = some (.p (.list (a ++ b)), M) := by
  have e : binD false .Add (.p (.list a)) (.p (.list b)) M = (if (a.map D.p).length + (b.map D.p).length ≤ sizeLine then al false (a.map D.p ++ b.map D.p) M else none) := rfl
  rw [e, if_pos (small_n (by rw [List.length_map, List.length_map]; exact h)), ← List.map_append]
  unfold al
  rw [if_neg (by decide), Mini.pAll_map]
  rfl
theorem cut_ab {α : Type} (xs : List α) {a b : Nat} (hb : b ≤ xs.length) (ha : a ≤ xs.length) : cutL xs (some (a : Int)) (some (b : Int)) = (xs.drop a).take (b - a) := by
  unfold cutL
  rw [HT.sIx_nat, HT.sIx_nat, Nat.min_eq_left hb, Nat.min_eq_left ha]
theorem zip_nats : ∀ as bs : List Nat, zipD (as.map natD) (bs.map natD) = (as.zip bs).map fun p => D.p (.tuple [.int (p.1 : Int), .int (p.2 : Int)])
  | [], bs => by cases bs <;> rfl
  | _ :: _, [] => rfl
  | a :: as, b :: bs => by
    have ih := zip_nats as bs
    show mkT [natD a, natD b] :: zipD (as.map natD) (bs.map natD) = _
    rw [ih]
    rfl
theorem slc_zip (xs : Row) : ∀ l : List Nat, (l.zip l.tail).map (fun p => (xs.drop p.1).take (p.2 - p.1)) = slc xs l
  | [] => rfl
  | [a] => rfl
  | a :: b :: r => by
    have ih := slc_zip xs (b :: r)
    show (xs.drop a).take (b - a) :: ((b :: r).zip r).map (fun p => (xs.drop p.1).take (p.2 - p.1)) = _
    have : (b :: r).tail = r := rfl
    rw [this] at ih
    rw [ih]
    rfl
theorem fin_map {α : Type} (f : α → PyData) (xs : List α) (M : Mem) (h : xs.length ≤ 1000) : finL false (xs.map fun x => D.p (f x)) M = .ok (.p (.list (xs.map f))) M := by
  unfold finL al
  rw [if_pos (small_n (by rw [List.length_map]; exact h)), if_neg (by decide), pAll_map]
  rfl
theorem k02_brk (Γ : Wd) {o : D} {xs : Row} {M : Mem} (h : seqD M o = some (row xs)) :
    lcL [] (lcB (evalTs Γ [(.cmp .NotEq (.ix (.ix (.var 0 0) (.var 2 0) 0) (.int 0 0) 0) (.ix (.ix (.var 0 0) (.bin false .Sub (.var 2 0) (.int 1 0) 0) 0) (.int 0 0) 0) 0)]) (evalE Γ (.var 2 0)) (.nm 2 0) [2] [some o, none, none, none, none]) ((List.range' 1 (xs.length - 1)).map natD) M = .ok ((brks xs).map natD) M := by
  refine lcL_map (w := []) (M := M) natD (brkB xs) natD stays_nil (as := List.range' 1 (xs.length - 1)) ?_
  intro i hi
  rw [List.mem_range'_1] at hi
  have e1 := ix_seq h (i := i) (by omega)
  have e2 := ix_seq h (i := i - 1) (by omega)
  have e3 : binD false .Sub (.p (.int (i : Int))) (.p (.int 1)) M = some (.p (.int ((i - 1 : Nat) : Int)), M) := by
    rw [su_ii, show (i : Int) - 1 = ((i - 1 : Nat) : Int) by omega]
  have dd : (!decide (sign (xs.getD i (0, 0)).1 = sign (xs.getD (i - 1) (0, 0)).1)) = brkB xs i := by
    unfold brkB
    simp only [sign_inj]
  unfold lcB
  show (R.calm (evalTs Γ _ [some o, none, some (.p (.int (i : Int))), none, none] M)).bind _ = _
  simp only [evalTs, execB, execS, evalE, evalA, evalAnd, evalOr, startD, List.map, List.cons_append, List.nil_append, List.length_cons, List.length_nil, List.replicate, Nat.reduceAdd, Nat.reduceSub, get0, getS, bind_ok, to_ok, then_next, then_ret, out_ret, out_next, ofO_some, truB, if_t, if_f, if_true, sz0, sz1, sz2, sz3, sz4, sz5, sz6, sz7, sz8, sz9, sz10, sz11, sz12, mkT1, mkT2, mkT3, al_tr, alf0, alf1, alf2, alf3, alf4, alf5, alf6, alf7, alf8, setT_nm0, List.set_cons_succ, List.set_cons_zero, Nat.reduceLT, e1, e3, e2, it_0, ne_ss, dd]
  cases brkB xs i <;> rfl
def natsP (l : List Nat) : PyData := .list (l.map fun i : Nat => .int (i : Int))
theorem natsP_seq {l : List Nat} {M : Mem} : seqD M (.p (natsP l)) = some (l.map natD) := by
  show some ((l.map fun i : Nat => PyData.int (i : Int)).map D.p) = _
  rw [List.map_map]
  rfl
theorem natsP_tail {l : List Nat} {M : Mem} : slD false (.p (natsP l)) (some 1) none M = some (.p (natsP l.tail), M) := by
  have e : slD false (.p (natsP l)) (some 1) none M = al false (cutL ((l.map fun i : Nat => PyData.int (i : Int)).map D.p) (some 1) none) M := rfl
  rw [e, cut_map, cut_map, cut_tail]
  unfold al
  rw [if_neg (by decide), Mini.pAll_map]
  rfl
theorem k02_slices (Γ : Wd) {o : D} {xs : Row} {M : Mem} (h : seqD M o = some (row xs)) (h1 : 1 ≤ xs.length) {w : Wk} (hs : stays w M = true) {x1 : Option D} :
    lcL w (lcB (evalTs Γ []) (evalE Γ (.sl false (.var 0 0) (.var 3 0) (.var 4 0) 0 0)) (.tp [(.nm 3 0), (.nm 4 0)] 0 0) [3, 4] [some o, x1, none, none, none]) (((cutsOf xs).zip (cutsOf xs).tail).map fun p => D.p (.tuple [.int (p.1 : Int), .int (p.2 : Int)])) M = .ok ((runsOf xs).map fun r => D.p (.list (r.map item))) M := by
  have small : ∀ a ∈ cutsOf xs, a ≤ xs.length := by
    intro a ha
    unfold cutsOf at ha
    rcases List.mem_append.mp ha with ha | ha
    · rcases List.mem_cons.mp ha with rfl | ha
      · omega
      · have := (brks_lt ha).2; omega
    · have : a = xs.length := by simpa using ha
      omega
  have run2 := lcL_map (w := w) (body := lcB (evalTs Γ []) (evalE Γ (.sl false (.var 0 0) (.var 3 0) (.var 4 0) 0 0)) (.tp [(.nm 3 0), (.nm 4 0)] 0 0) [3, 4] [some o, x1, none, none, none]) (M := M)
    (fun p : Nat × Nat => D.p (.tuple [.int (p.1 : Int), .int (p.2 : Int)])) (fun _ => true) (fun p => D.p (.list (((xs.drop p.1).take (p.2 - p.1)).map item))) hs (as := (cutsOf xs).zip (cutsOf xs).tail) (by
      intro p hp
      have h1 := small p.1 (List.of_mem_zip hp).1
      have h2 := small p.2 (List.mem_of_mem_tail (List.of_mem_zip hp).2)
      have e := sl_seq (lo := some (p.1 : Int)) (hi := some (p.2 : Int)) h
      rw [cut_ab xs h2 h1] at e
      unfold lcB
      show (R.calm (evalTs Γ _ [some o, x1, none, some (.p (.int (p.1 : Int))), some (.p (.int (p.2 : Int)))] M)).bind _ = _
      have g0 : ∀ M, getL [some o, x1, none, some (.p (.int (p.1 : Int))), some (.p (.int (p.2 : Int)))] 0 M = .ok o M := fun _ => rfl
      have g3 : ∀ M, getL [some o, x1, none, some (.p (.int (p.1 : Int))), some (.p (.int (p.2 : Int)))] 3 M = .ok (.p (.int (p.1 : Int))) M := fun _ => rfl
      have g4 : ∀ M, getL [some o, x1, none, some (.p (.int (p.1 : Int))), some (.p (.int (p.2 : Int)))] 4 M = .ok (.p (.int (p.2 : Int))) M := fun _ => rfl
      show (R.calm (evalE Γ (.sl false (.var 0 0) (.var 3 0) (.var 4 0) 0 0) [some o, x1, none, some (.p (.int (p.1 : Int))), some (.p (.int (p.2 : Int)))] M)).bind _ = _
      simp only [evalE, g0, g3, g4, bind_ok, E.isNop, R.calm, opt_f, e, ofO_some, if_true])
  have ft : ((cutsOf xs).zip (cutsOf xs).tail).filter (fun _ => true) = (cutsOf xs).zip (cutsOf xs).tail := by simp
  have mm : ((cutsOf xs).zip (cutsOf xs).tail).map (fun p => D.p (.list (((xs.drop p.1).take (p.2 - p.1)).map item))) = (runsOf xs).map fun r => D.p (.list (r.map item)) := by
    rw [← runs_cut (xs.length - 1) xs (by omega), ← slc_zip, List.map_map]
    rfl
  rw [ft, mm] at run2
  exact run2
theorem natsP_add0 {l : List Nat} {M : Mem} (h : l.length ≤ 900) : binD false .Add (.p (.list [.int 0])) (.p (natsP l)) M = some (.p (natsP (0 :: l)), M) := by
  unfold natsP
  rw [add_lists (by simp; omega), List.map_cons]
  rfl
theorem natsP_add1 {l : List Nat} {n : Nat} {M : Mem} (h : l.length ≤ 900) : binD false .Add (.p (natsP l)) (.p (.list [.int (n : Int)])) M = some (.p (natsP (l ++ [n])), M) := by
  unfold natsP
  rw [add_lists (by simp; omega), List.map_append]
  rfl
theorem natsP_fin {l : List Nat} {M : Mem} (h : l.length ≤ 900) : finL false (l.map natD) M = .ok (.p (natsP l)) M := fin_map (fun i : Nat => .int (i : Int)) l M (by omega)
theorem k02_wk {n : Nat} {M : Mem} (hl : n ≤ 100) (h1 : 1 ≤ n) : walkR (.rng 0 0) [.p (.int 1), .p (.int (n : Int))] M = .ok ((List.range' 1 (n - 1)).map natD, []) M := by
  have wk := walk_rng2 (p := 0) (q := 0) (i := 1) (j := (n : Int)) (M := M) (by unfold big; omega) (by unfold big; omega)
  rw [show ((n : Int) - 1).toNat = n - 1 by omega, rng_nat] at wk
  exact wk
theorem k02_cuts (Γ : Wd) {LC LN : E} {l : Lo} {M : Mem} {B B0 C : PyData} {n : Int} (h : evalE Γ LC l M = .ok (.p B) M) (hn : evalE Γ LN l M = .ok (.p (.int n)) M)
    (a1 : binD false .Add (.p (.list [.int 0])) (.p B) M = some (.p B0, M)) (a2 : binD false .Add (.p B0) (.p (.list [.int n])) M = some (.p C, M)) :
    evalE Γ (.bin false .Add (.bin false .Add (.lst false [(.int 0 0)] 0) LC 0) (.lst false [LN] 0) 0) l M = .ok (.p C) M := by
  simp only [execB, execS, evalE, evalA, evalAnd, evalOr, startD, List.map, List.cons_append, List.nil_append, List.length_cons, List.length_nil, List.replicate, Nat.reduceAdd, Nat.reduceSub, get0, getS, bind_ok, to_ok, then_next, then_ret, out_ret, out_next, ofO_some, truB, if_t, if_f, if_true, sz0, sz1, sz2, sz3, sz4, sz5, sz6, sz7, sz8, sz9, sz10, sz11, sz12, mkT1, mkT2, mkT3, al_tr, alf0, alf1, alf2, alf3, alf4, alf5, alf6, alf7, alf8, setT_nm0, List.set_cons_succ, List.set_cons_zero, Nat.reduceLT, h, hn, a1, a2]
theorem k02_lc (Γ : Wd) {k : IK} {its : List E} {t : Mini.T} {ifs : List E} {elt : E} {own : List (Str × Nat)} {l : Lo} {M : Mem} {ds : List D} {w : Wk} {R1 : List D} {d : D} {vs : List D}
    (hi : evalA Γ its l M = .ok vs M) (wk : walkR k vs M = .ok (ds, w) M) (run : lcL w (lcB (evalTs Γ ifs) (evalE Γ elt) t (own.map (·.2)) l) ds M = .ok R1 M) (fin : finL false R1 M = .ok d M) :
    evalE Γ (.lc false k its t ifs elt [] own 0) l M = .ok d M := by
  have e : evalE Γ (.lc false k its t ifs elt [] own 0) l M = ((evalA Γ its l M).bind fun ds M1 => walkR k ds M1).bind fun r M2 => (lcL r.2 (lcB (evalTs Γ ifs) (evalE Γ elt) t (own.map (·.2)) l) r.1 M2).bind fun ys M3 => finL false ys M3 := by
    simp only [evalE]
  rw [e, hi]
  simp only [bind_ok, wk, run, fin]
theorem exec_asg (Γ : Wd) {xi : Str → Option Nat} {i : Nat} {e : E} {l : Lo} {M M' : Mem} {d : D} (h : evalE Γ e l M = .ok d M') (hi : i < l.length) : execS Γ xi (.asg (.nm i 0) e 0) l M = .next (l.set i (some d)) M' := by
  simp only [execS, h, to_ok, setT_n hi]
theorem exec_ret (Γ : Wd) {xi : Str → Option Nat} {e : E} {l : Lo} {M M' : Mem} {d : D} (h : evalE Γ e l M = .ok d M') : execS Γ xi (.ret e 0) l M = .ret d M' := by
  simp only [execS, h, to_ok]
theorem k02_runs_ok [Has T "_law_runs" std_k02_law_runs] (k : Nat) {o : D} {xs : Row} {M : Mem} (h : seqD M o = some (row xs)) (hl : xs.length ≤ 100) (h1 : 1 ≤ xs.length) :
    callD gg xx T (k + 1) "_law_runs" [o] M = .ok (.p (.list (rowsP (runsOf xs)))) M := by
  rw [call_has (F := std_k02_law_runs) inferInstance rfl]
  have ln : ∀ (c : Bool), bltD c .len [o] M = some (.p (.int xs.length), M) := fun c => by rw [len_seq h, row_len]
  have wk := k02_wk (M := M) hl h1
  have run := k02_brk ⟨callD gg xx T k, gg⟩ h
  have lb : (brks xs).length ≤ 100 := by
    have := List.length_filter_le (brkB xs) (List.range' 1 (xs.length - 1))
    rw [List.length_range'] at this
    unfold brks
    omega
  have fin := natsP_fin (l := brks xs) (M := M) (by omega)
  have a1 := natsP_add0 (l := brks xs) (M := M) (by omega)
  have a2 : binD false .Add (.p (natsP (0 :: brks xs))) (.p (.list [.int (xs.length : Int)])) M = some (.p (natsP (cutsOf xs)), M) := natsP_add1 (l := 0 :: brks xs) (n := xs.length) (M := M) (by simp; omega)
  have z := zip_seq (p := 0) (q := 0) (natsP_seq (l := cutsOf xs) (M := M)) (natsP_seq (l := (cutsOf xs).tail) (M := M))
  rw [zip_nats] at z
  have run2 := k02_slices ⟨callD gg xx T k, gg⟩ h h1 (stays_two (natsP_seq (l := cutsOf xs) (M := M)) (natsP_seq (l := (cutsOf xs).tail) (M := M))) (x1 := some (.p (natsP (cutsOf xs))))
  have lr := runs_len xs
  have fin2 : finL false ((runsOf xs).map fun r => D.p (.list (r.map item))) M = .ok (.p (.list (rowsP (runsOf xs)))) M := fin_map (fun r : Row => .list (r.map item)) (runsOf xs) M (by omega)
  have sl := natsP_tail (l := cutsOf xs) (M := M)
  have s0 := exec_asg ⟨callD gg xx T k, gg⟩ (xi := xx) (i := 1) (k02_cuts ⟨callD gg xx T k, gg⟩ (LN := .blt false .len [(.var 0 0)] 0 0) (n := (xs.length : Int)) (k02_lc ⟨callD gg xx T k, gg⟩ (k := .rng 0 0) (its := [(.int 1 0), (.blt false .len [(.var 0 0)] 0 0)]) (own := [("", 2)]) (vs := [.p (.int 1), .p (.int (xs.length : Int))]) (by simp only [execB, execS, evalE, evalA, evalAnd, evalOr, startD, List.map, List.cons_append, List.nil_append, List.length_cons, List.length_nil, List.replicate, Nat.reduceAdd, Nat.reduceSub, get0, getS, bind_ok, to_ok, then_next, then_ret, out_ret, out_next, ofO_some, truB, if_t, if_f, if_true, sz0, sz1, sz2, sz3, sz4, sz5, sz6, sz7, sz8, sz9, sz10, sz11, sz12, mkT1, mkT2, mkT3, al_tr, alf0, alf1, alf2, alf3, alf4, alf5, alf6, alf7, alf8, setT_nm0, List.set_cons_succ, List.set_cons_zero, Nat.reduceLT, ln]) wk run fin) (by simp only [execB, execS, evalE, evalA, evalAnd, evalOr, startD, List.map, List.cons_append, List.nil_append, List.length_cons, List.length_nil, List.replicate, Nat.reduceAdd, Nat.reduceSub, get0, getS, bind_ok, to_ok, then_next, then_ret, out_ret, out_next, ofO_some, truB, if_t, if_f, if_true, sz0, sz1, sz2, sz3, sz4, sz5, sz6, sz7, sz8, sz9, sz10, sz11, sz12, mkT1, mkT2, mkT3, al_tr, alf0, alf1, alf2, alf3, alf4, alf5, alf6, alf7, alf8, setT_nm0, List.set_cons_succ, List.set_cons_zero, Nat.reduceLT, ln]) a1 a2) (by simp)
  have s1 := exec_ret ⟨callD gg xx T k, gg⟩ (xi := xx) (k02_lc ⟨callD gg xx T k, gg⟩ (k := .zip 0 0) (its := [(.var 1 0), (.sl false (.var 1 0) (.int 1 0) .nop 0 0)]) (l := [some o, some (.p (natsP (cutsOf xs))), none, none, none]) (own := [("", 3), ("", 4)]) (vs := [.p (natsP (cutsOf xs)), .p (natsP (cutsOf xs).tail)]) (by simp only [execB, execS, evalE, evalA, evalAnd, evalOr, startD, List.map, List.cons_append, List.nil_append, List.length_cons, List.length_nil, List.replicate, Nat.reduceAdd, Nat.reduceSub, get0, getS, bind_ok, to_ok, then_next, then_ret, out_ret, out_next, ofO_some, truB, if_t, if_f, if_true, sz0, sz1, sz2, sz3, sz4, sz5, sz6, sz7, sz8, sz9, sz10, sz11, sz12, mkT1, mkT2, mkT3, al_tr, alf0, alf1, alf2, alf3, alf4, alf5, alf6, alf7, alf8, setT_nm0, List.set_cons_succ, List.set_cons_zero, Nat.reduceLT, E.isNop, opt_t, opt_f, sl]) z run2 fin2)
  have body : outR (execB ⟨callD gg xx T k, gg⟩ xx std_k02_law_runs.body (startD std_k02_law_runs.N [o]) M) = .ok (.p (.list (rowsP (runsOf xs)))) M := by
    show outR ((execS _ xx k02l_runs_0 _ M).andThen fun l1 M1 => (execS _ xx k02l_runs_1 l1 M1).andThen fun l2 M2 => .next l2 M2) = _
    rw [show execS ⟨callD gg xx T k, gg⟩ xx k02l_runs_0 (startD std_k02_law_runs.N [o]) M = _ from s0, then_next]
    simp only [List.set_cons_succ, List.set_cons_zero]
    rw [show execS ⟨callD gg xx T k, gg⟩ xx k02l_runs_1 _ M = _ from s1]
    rfl
  rw [body, gc_p0]
end Mini.Std

namespace Mini.Std
open PySem PySem.Spec PyProof.Rows L2 Mini
variable {gg : Str → Option PyData} {xx : Str → Option Nat} {T : Tab} {cc : Bool}
/-- M2 is M and more -/
def Ext (M M2 : Mem) : Prop := ∃ E, M2 = M ++ E
theorem Ext.app {M M2 N : Mem} (h : Ext M M2) : Ext M (M2 ++ N) := by
  obtain ⟨E, rfl⟩ := h
  exact ⟨E ++ N, by rw [List.append_assoc]⟩
theorem Ext.set {M M2 : Mem} {i : Nat} {c : Cell} (h : Ext M M2) (hi : M.length ≤ i) : Ext M (M2.set i c) := by
  obtain ⟨E, rfl⟩ := h
  exact ⟨_, List.set_append_right _ _ hi⟩
theorem Ext.seq {M M2 : Mem} {o : D} {xs : List D} (h : Ext M M2) (hs : seqD M o = some xs) : seqD M2 o = some xs := by
  obtain ⟨E, rfl⟩ := h
  exact seq_app hs
theorem Ext.refl (M : Mem) : Ext M M := ⟨[], by simp⟩
theorem walk_enu {p q : Nat} {o : D} {xs : List D} {M : Mem} (h : seqD M o = some xs) : walkR (.enu p q) [o] M = .ok (enuD 0 xs, [(o, xs)]) M := by
  unfold walkR walkD
  simp only [h, Option.map_some]
theorem plain_ints : ∀ l : List Nat, PyData.plainAll (l.map fun i : Nat => .int (i : Int)) = true
  | [] => rfl
  | i :: l => by
    have := plain_ints l
    rw [List.map_cons]
    unfold PyData.plainAll
    rw [this]
    rfl
theorem ne_nats {l : List Nat} {M : Mem} : cmpD .NotEq (.p (natsP l)) (.p (natsP l)) M = some (.p (.bool false), M) := by
  have e : cmpD .NotEq (.p (natsP l)) (.p (natsP l)) M = ((eqP (natsP l) (natsP l)).map (!·)).map fun k => (.p (.bool k), M) := rfl
  have pl : (natsP l).plain = true := by
    unfold natsP PyData.plain
    exact plain_ints l
  have dp : okd (natsP l) = true := by
    have : ∀ l : List Nat, PyData.depthAll (l.map fun i : Nat => PyData.int (i : Int)) = 0 := by
      intro l
      induction l with
      | nil => rfl
      | cons i l ih =>
        rw [List.map_cons]
        unfold PyData.depthAll
        rw [ih]
        rfl
    unfold okd natsP PyData.depth
    rw [this]
    rfl
  rw [e, eqP_refl dp (SeqAt.eqv_refl_plain _ pl)]
  rfl
def strsP (l : List Nat) : PyData := .list (l.map fun c => .str (sign c))
theorem fit_strs (n : Nat) {l : List Nat} (h : l.length ≤ 1000) : fit (n + 1) (strsP l) = true := by
  unfold strsP fit
  rw [Bool.and_eq_true, decide_eq_true_eq, List.length_map, List.all_eq_true]
  refine ⟨h, fun y hy => ?_⟩
  obtain ⟨c, _, rfl⟩ := List.mem_map.mp hy
  cases n <;> rfl
theorem fit_item' (n : Nat) (x : Nat × Int) : fit (n + 1) (item x) = true := by cases n <;> rfl
theorem fit_row' (n : Nat) {xs : Row} (hl : xs.length ≤ 1000) : fit (n + 2) (.list (xs.map item)) = true := by
  unfold fit
  rw [Bool.and_eq_true, decide_eq_true_eq, List.length_map, List.all_eq_true]
  refine ⟨hl, fun y hy => ?_⟩
  obtain ⟨x, _, rfl⟩ := List.mem_map.mp hy
  exact fit_item' n x
theorem fit_rows (n : Nat) {rs : List Row} (h : rs.length ≤ 1000) (hr : ∀ r ∈ rs, r.length ≤ 1000) : fit (n + 3) (.list (rowsP rs)) = true := by
  unfold fit rowsP
  rw [Bool.and_eq_true, decide_eq_true_eq, List.length_map, List.all_eq_true]
  refine ⟨h, fun y hy => ?_⟩
  obtain ⟨r, hr2, rfl⟩ := List.mem_map.mp hy
  exact fit_row' n (hr r hr2)
theorem fit_two {a b : PyData} (n : Nat) (ha : fit n a = true) (hb : fit n b = true) : fit (n + 1) (.list [a, b]) = true := by
  unfold fit
  simp [ha, hb]
/-- the runs' cells while ints are put behind them -/
def Runs (b : Nat) (rs : List Row) (i : Nat) (M : Mem) : Prop := M[b]? = some (.lst (refs b rs.length)) ∧ ∀ (j : Nat) (r : Row), rs[j]? = some r → M[b + 1 + j]? = some (.lst (row r ++ if j < i then [natD j] else []))
theorem refs_at {b n i : Nat} (h : i < n) : (refs b n)[i]? = some (.ref (b + 1 + i)) := by
  unfold refs
  rw [List.getElem?_map, List.getElem?_range h]
  rfl
theorem refs_len (b n : Nat) : (refs b n).length = n := by simp [refs]
theorem set_enu {i : Nat} {r : D} {p1 p2 ps q : Nat} {a0 a1 a2 a3 a4 a5 a6 a7 a8 a9 : Option D} : setT (.tp [(.nm 7 p1), (.nm 4 p2)] ps q) (mkT [.p (.int ((0 + i : Nat) : Int)), r]) [a0, a1, a2, a3, a4, a5, a6, a7, a8, a9] = some [a0, a1, a2, a3, some r, a5, a6, some (natD i), a8, a9] := by
  unfold setT
  rw [tup_mkT, Nat.zero_add]
  rfl
theorem k02_mark (Γ : Wd) {xi : Str → Option Nat} {b F t : Nat} {rs : List Row} {M0 M : Mem} {a0 a1 a2 a3 a4 a5 a7 a8 a9 : Option D} (hE : Ext M0 M) (hb : M0.length ≤ b) (hF : M[F]? = some (.lst [.ref t, .ref b])) (bF : b + 1 + rs.length ≤ F) (hr : Runs b rs 0 M) (sm : ∀ r ∈ rs, r.length ≤ 100) :
    ∃ y4 y7 M', execS Γ xi k02l_right_3b_3 [a0, a1, a2, a3, a4, a5, some (.ref F), a7, a8, a9] M = .next [a0, a1, a2, a3, y4, a5, some (.ref F), y7, a8, a9] M' ∧ Ext M0 M' ∧ M'[F]? = some (.lst [.ref t, .ref b]) ∧ Runs b rs rs.length M' := by
  have i1 : ∀ {M : Mem}, M[F]? = some (.lst [.ref t, .ref b]) → ixD (.ref F) (.p (.int 1)) M = some (.ref b, M) := fun h => by rw [ix_ref h]; rfl
  have wk := walk_enu (p := 0) (q := 0) (seq_ref hr.1)
  let I : Nat → Lo → Mem → Prop := fun i l M' => ∃ y4 y7, l = [a0, a1, a2, a3, y4, a5, some (.ref F), y7, a8, a9] ∧ Ext M0 M' ∧ M'[F]? = some (.lst [.ref t, .ref b]) ∧ Runs b rs i M'
  obtain ⟨l', M', run, y4, y7, rfl, h1, h2, h3⟩ := forL_inv (w := [(.ref b, refs b rs.length)]) (t := .tp [(.nm 7 0), (.nm 4 0)] 0 0) (body := execB Γ xi k02l_right_3b_3b) I (ds := enuD 0 (refs b rs.length)) (M := M) (l := [a0, a1, a2, a3, a4, a5, some (.ref F), a7, a8, a9])
    (by
      rintro i l M' d hd ⟨y4, y7, rfl, h1, h2, h3⟩
      obtain ⟨z, hz, rfl⟩ := enu_get hd
      obtain ⟨hi, rfl⟩ := refs_get hz
      obtain ⟨c1, c2⟩ := h3
      refine ⟨stays_one (by simp only [seqOrTup, seq_ref c1]), _, set_enu, ?_⟩
      have hc := c2 i rs[i] (List.getElem?_eq_getElem hi)
      rw [if_neg (by omega), List.append_nil] at hc
      have lr := sm _ (List.getElem_mem hi)
      have ap := app_at (c := false) (y := natD i) hc (by rw [row_len]; omega)
      refine ⟨_, M'.set (b + 1 + i) (.lst (row rs[i] ++ [natD i])), .inl ?_, some (.ref (b + 1 + i)), some (natD i), rfl, h1.set (by omega), get_set h2 (by omega), get_set c1 (by omega), ?_⟩
      · simp only [k02l_right_3b_3b, k02l_right_3b_3b_0, execB, execS, evalE, evalA, evalAnd, evalOr, startD, List.map, List.cons_append, List.nil_append, List.length_cons, List.length_nil, List.replicate, Nat.reduceAdd, Nat.reduceSub, get0, getS, bind_ok, to_ok, then_next, then_ret, out_ret, out_next, ofO_some, truB, if_t, if_f, if_true, sz0, sz1, sz2, sz3, sz4, sz5, sz6, sz7, sz8, sz9, sz10, sz11, sz12, mkT1, mkT2, mkT3, al_tr, alf0, alf1, alf2, alf3, alf4, alf5, alf6, alf7, alf8, setT_nm0, List.set_cons_succ, List.set_cons_zero, Nat.reduceLT, rcv_ref (b := .append) rfl hc, ap]
      · intro j r hj
        by_cases e : j = i
        · subst e
          have : r = rs[j] := by
            have := List.getElem?_eq_getElem hi
            rw [hj] at this
            injection this
          subst this
          rw [if_pos (by omega)]
          exact get_self hc
        · have := c2 j r hj
          by_cases e2 : j < i
          · rw [if_pos e2] at this
            rw [if_pos (by omega)]
            exact get_set this (by omega)
          · rw [if_neg e2] at this
            rw [if_neg (by omega)]
            exact get_set this (by omega))
    (fun l M' ⟨_, _, _, _, _, h3⟩ => stays_one (by simp only [seqOrTup, seq_ref h3.1]))
    ⟨a4, a7, rfl, hE, hF, hr⟩
  rw [enu_len, refs_len] at h3
  refine ⟨y4, y7, M', ?_, h1, h2, h3⟩
  simp only [k02l_right_3b_3, execB, execS, evalE, evalA, evalAnd, evalOr, startD, List.map, List.cons_append, List.nil_append, List.length_cons, List.length_nil, List.replicate, Nat.reduceAdd, Nat.reduceSub, get0, getS, bind_ok, to_ok, then_next, then_ret, out_ret, out_next, ofO_some, truB, if_t, if_f, if_true, sz0, sz1, sz2, sz3, sz4, sz5, sz6, sz7, sz8, sz9, sz10, sz11, sz12, mkT1, mkT2, mkT3, al_tr, alf0, alf1, alf2, alf3, alf4, alf5, alf6, alf7, alf8, setT_nm0, List.set_cons_succ, List.set_cons_zero, Nat.reduceLT, i1 hF, wk, run]
theorem k02_last (Γ : Wd) {b : Nat} {rs : List Row} {M : Mem} {l : Lo} (hl : 4 < l.length) (h : Runs b rs rs.length M) :
    lcL [(.ref b, refs b rs.length)] (lcB (evalTs Γ []) (evalE Γ (.ix (.var 4 0) (.neg (.int 1 0) 0) 0)) (.nm 4 0) [4] l) (refs b rs.length) M = .ok ((List.range rs.length).map natD) M := by
  refine lcL_get (stays_one (by simp only [seqOrTup, seq_ref h.1])) (by simp [refs]) ?_
  intro i d y hd hy
  obtain ⟨hi, rfl⟩ := refs_get hd
  rw [List.getElem?_map, List.getElem?_range hi] at hy
  have hy : y = natD i := by simpa using hy.symm
  subst hy
  have hc := h.2 i rs[i] (List.getElem?_eq_getElem hi)
  rw [if_pos hi] at hc
  have ix : ixD (.ref (b + 1 + i)) (.p (.int (-1))) M = some (natD i, M) := by rw [ix_ref hc, at_last]; rfl
  have g4 : getL ((wipeL l [4]).set 4 (some (.ref (b + 1 + i)))) 4 M = .ok (.ref (b + 1 + i)) M := get_l (by rw [List.getElem?_set_self (by rw [wipeL_len]; exact hl)])
  have ng : ∀ M : Mem, negD (.p (.int 1)) M = some (.p (.int (-1)), M) := fun _ => rfl
  unfold lcB
  rw [setT_n (by rw [wipeL_len]; exact hl)]
  simp only [evalTs, evalE, R.calm, g4, bind_ok, ofO_some, ng, ix, if_true]
theorem rng0_nat (m : Nat) : rngD 0 m = (List.range m).map natD := by
  unfold rngD
  apply List.map_congr_left
  intro i _
  show D.p (.int (0 + (i : Int))) = .p (.int (i : Int))
  rw [Int.zero_add]
theorem lrg_n {n : Nat} {M : Mem} (h : n ≤ 1000) : lrgD false [.p (.int (n : Int))] M = some (.p (natsP (List.range n)), M) := by
  have h1 : rngI [.p (.int (n : Int))] = some (0, (n : Int)) := rfl
  unfold lrgD
  simp only [h1]
  rw [if_pos (by unfold big; omega), show ((n : Int) - 0).toNat = n by omega, rng0_nat]
  unfold al natsP
  rw [if_neg (by decide)]
  have : (List.range n).map natD = (List.range n).map fun i : Nat => D.p (.int (i : Int)) := rfl
  rw [this, pAll_map]
  rfl
theorem mem_flat_len {rs : List Row} {r : Row} (h : r ∈ rs) : r.length ≤ rs.flatten.length := by
  induction rs with
  | nil => cases h
  | cons q rs ih =>
    rw [List.flatten_cons, List.length_append]
    rcases List.mem_cons.mp h with e | e
    · rw [e]; omega
    · have := ih e; omega
theorem k02_turn [Has T "tags_of" std_tags_of] [Has T "tags_in" (std_tags_in true)] [Has T "runs_of" std_runs_of] [Has T "_law_equal" std__law_equal] [Has T "check_order" std_check_order] [Has T "runs_in" std_runs_in] [Has T "is_order" std_is_order] [Has T "is_item" std_is_item] [Has T "is_integer" std_is_integer] [Gl gg "MOST_ITEMS" (.int 24)] [Gl gg "MOST_TAGS" (.int 4)] [Gl gg "LETTERS" (.str letters)] [Gl gg "MOST_NUMBER" (.int 99)] (k : Nat) {o : D} {xs : Row} {M0 M : Mem} {a4 a5 a6 a7 a8 a9 : Option D} (hE : Ext M0 M) (h : seqD M0 o = some (row xs)) (g : Good xs) :
    ∃ y4 y6 y7 M', execB ⟨callD gg xx T (k + 5), gg⟩ xx k02l_right_3b [some o, some (.p (.str (rep xs))), some (.p (.list (rowsP (runsOf xs)))), some (.p (strsP (tagNs xs))), a4, a5, a6, a7, a8, a9] M = .next [some o, some (.p (.str (rep xs))), some (.p (.list (rowsP (runsOf xs)))), some (.p (strsP (tagNs xs))), y4, a5, y6, y7, a8, a9] M' ∧ Ext M0 M' := by
  have few := g.few
  have hM : seqD M o = some (row xs) := hE.seq h
  have e1 := tags_of_ok (gg := gg) (xx := xx) (T := T) (cc := true) k hM g
  rw [giv_t, tagsL_ns, signs_map] at e1
  obtain ⟨M1, hM1⟩ : ∃ M1, M1 = M ++ [Cell.lst ((tagNs xs).map sgn)] := ⟨_, rfl⟩
  rw [← hM1] at e1
  have E1 : Ext M0 M1 := hM1 ▸ hE.app
  have e2 := runs_of_ok (gg := gg) (xx := xx) (T := T) k (E1.seq h) g
  have flat := runs_flat xs
  have nlen := runs_len xs
  obtain ⟨rs, hrs⟩ : ∃ rs, rs = runsOf xs := ⟨_, rfl⟩
  rw [← hrs] at e2 flat nlen ⊢
  have lrs : rs.length ≤ 24 := by omega
  have sm : ∀ r ∈ rs, r.length ≤ 100 := by
    intro r hr
    have := mem_flat_len hr
    rw [flat] at this
    omega
  obtain ⟨M2, hM2⟩ : ∃ M2, M2 = M1 ++ RM M1.length rs ++ [Cell.lst [D.ref M.length, D.ref M1.length]] := ⟨_, rfl⟩
  have lM1 : M1.length = M.length + 1 := by rw [hM1, List.length_append]; rfl
  have lM2 : (M1 ++ RM M1.length rs).length = M1.length + 1 + rs.length := by rw [List.length_append, RM_len]; omega
  have E2 : Ext M0 M2 := by rw [hM2]; exact E1.app.app
  obtain ⟨F, hF⟩ : ∃ F, F = M1.length + 1 + rs.length := ⟨_, rfl⟩
  have al2 : al true [D.ref M.length, D.ref M1.length] (M1 ++ RM M1.length rs) = some (.ref F, M2) := by
    rw [hM2, hF, ← lM2]; rfl
  obtain ⟨b, hb⟩ : ∃ b, b = M1.length := ⟨_, rfl⟩
  obtain ⟨t, ht⟩ : ∃ t, t = M.length := ⟨_, rfl⟩
  have gF : M2[F]? = some (.lst [.ref t, .ref b]) := by rw [hM2, hF, ← lM2, hb, ht]; exact get_new
  have gt : M2[t]? = some (.lst ((tagNs xs).map sgn)) := by rw [hM2, ht]; exact get_app (get_app (by rw [hM1]; exact get_new))
  have rT : ∀ n, res (n + 1) M2 (.ref t) = some (strsP (tagNs xs)) := fun n => res_cell (by rw [gt, signs_map])
  have rR : ∀ n, res (n + 2) M2 (.ref b) = some (.list (rowsP rs)) := fun n => by rw [hM2, hb]; exact RM_res
  have rF : res 3 M2 (.ref F) = some (.list [strsP (tagNs xs), .list (rowsP rs)]) := by
    rw [res_ref gF]
    simp only [resAll, rT 1, rR 0]
    rfl
  have lt := tagNs_len xs
  have e3 := equal_ok (gg := gg) (xx := xx) (T := T) 4 k M2 (.ref F) (.p (.list [strsP (tagNs xs), .list (rowsP rs)])) (.list [strsP (tagNs xs), .list (rowsP rs)]) 3 3 (fit_two 3 (fit_strs 2 (by omega)) (fit_rows 0 (by omega) fun r hr => by have := sm r hr; omega)) rF rfl
  have e4 := repr_seq (c := false) (E2.seq h) g.ok (by omega)
  have ap := app_at (c := false) (y := .p (.str "z")) gt (by rw [List.length_map]; omega)
  obtain ⟨M3, hM3⟩ : ∃ M3, M3 = M2.set t (.lst ((tagNs xs).map sgn ++ [.p (.str "z")])) := ⟨_, rfl⟩
  rw [← hM3] at ap
  have hM0 : M0.length ≤ M.length := by
    obtain ⟨E, rfl⟩ := hE
    rw [List.length_append]; omega
  have E3 : Ext M0 M3 := by rw [hM3]; exact E2.set (by omega)
  have gF3 : M3[F]? = some (.lst [.ref t, .ref b]) := by rw [hM3]; exact get_set gF (by omega)
  have R3 : Runs b rs 0 M3 := by
    rw [hb]
    refine ⟨?_, fun j r hj => ?_⟩
    · rw [hM3, hM2]
      exact get_set (get_app RM_0) (by omega)
    · rw [if_neg (by omega), List.append_nil, hM3, hM2]
      exact get_set (RM_at hj) (by omega)
  have i0 : ixD (.ref F) (.p (.int 0)) M2 = some (.ref t, M2) := by rw [ix_ref gF]; rfl
  have ln : ∀ (c : Bool) (M : Mem), bltD c .len [.p (.list (rowsP rs))] M = some (.p (.int rs.length), M) := fun c M => by
    rw [len_seq (seq_data _ _), List.length_map]
    unfold rowsP
    rw [List.length_map]
  have bF : b + 1 + rs.length ≤ F := by omega
  have hb0 : M0.length ≤ b := by omega
  clear hM1 hM2 lM2 hF hM3 rT rR
  obtain ⟨y4, y7, M4, b3, E4, gF4, R4⟩ := k02_mark ⟨callD gg xx T (k + 5), gg⟩ (xi := xx) (a0 := some o) (a1 := some (.p (.str (rep xs)))) (a2 := some (.p (.list (rowsP rs)))) (a3 := some (.p (strsP (tagNs xs)))) (a4 := a4) (a5 := a5) (a7 := a7) (a8 := a8) (a9 := a9) E3 hb0 gF3 bF R3 sm
  have i1 : ixD (.ref F) (.p (.int 1)) M4 = some (.ref b, M4) := by rw [ix_ref gF4]; rfl
  have cl : mthD false .clear (.ref b) [] M4 = some (nonD, M4.set b (.lst [])) := by
    simp only [mthD, mClear, cel, celL, R4.1]
  have v2 : evalE ⟨callD gg xx T (k + 5), gg⟩ (.lrg false [(.blt false .len [(.var 2 0)] 0 0)] 0 0 0 0) [some o, some (.p (.str (rep xs))), some (.p (.list (rowsP rs))), some (.p (strsP (tagNs xs))), y4, a5, some (.ref F), y7, a8, a9] M4 = .ok (.p (natsP (List.range rs.length))) M4 := ev_lrg (ea_1 (ev_blt (ea_1 (ev_var (i := 2) rfl)) (ln false M4))) (lrg_n (by omega))
  have v0 : ∀ M : Mem, evalE ⟨callD gg xx T (k + 5), gg⟩ (.int 0 0) [some o, some (.p (.str (rep xs))), some (.p (.list (rowsP rs))), some (.p (strsP (tagNs xs))), a4, a5, some (.ref F), a7, a8, a9] M = .ok (.p (.int 0)) M := fun M => by simp only [evalE]
  refine ⟨y4, some (.ref F), y7, M4.set b (.lst []), ?_, E4.set hb0⟩
  unfold k02l_right_3b
  refine (xb_cons (s := k02l_right_3b_0) (l1 := [some o, some (.p (.str (rep xs))), some (.p (.list (rowsP rs))), some (.p (strsP (tagNs xs))), a4, a5, some (.ref F), a7, a8, a9]) (xs_asg (ev_lst (ea_2 (ev_cal (ea_1 (ev_var (i := 0) rfl)) e1) (ev_cal (ea_1 (ev_var (i := 0) rfl)) e2)) (by simp) al2) (by simp))).trans ?_
  refine (xb_cons (s := k02l_right_3b_1) (xs_skip (ev_or_ff (ev_not (b := true) (ev_cal (ea_2 (ev_var (i := 6) rfl) (ev_lst (ea_2 (ev_var (i := 3) rfl) (ev_var (i := 2) rfl)) (by simp) alf2)) e3)) (ev_cmp (ev_blt (ea_1 (ev_var (i := 0) rfl)) e4) (ev_var (i := 1) rfl) (by rw [ne_ss, decide_eq_true rfl]; rfl))))).trans ?_
  refine (xb_cons (s := k02l_right_3b_2) (xs_exp (ev_mth (ev_ix (ev_var (i := 6) rfl) (by simp only [evalE]) i0) (rcv_ref (b := .append) rfl gt) (ea_1 (by simp only [evalE])) ap))).trans ?_
  refine (xb_cons (s := k02l_right_3b_3) b3).trans ?_
  refine (xb_cons (s := k02l_right_3b_4) (xs_skip (ev_cmp (ev_lc (own := [("", 4)]) (ea_1 (ev_ix (ev_var (i := 6) rfl) (by simp only [evalE]) i1)) (walk_seq (seq_ref R4.1)) (k02_last _ (by simp) R4) (natsP_fin (by rw [List.length_range]; omega))) v2 ne_nats))).trans ?_
  refine (xb_cons (s := k02l_right_3b_5) (xs_exp (ev_mth (ev_ix (ev_var (i := 6) rfl) (by simp only [evalE]) i1) (rcv_ref (b := .clear) rfl R4.1) ea_nil cl))).trans ?_
  rfl
end Mini.Std

namespace Mini.Std
open PySem PySem.Spec PyProof.Rows L2 Mini
variable {gg : Str → Option PyData} {xx : Str → Option Nat} {T : Tab} {cc : Bool}
theorem walk_letters {M : Mem} : walkR .ov [.p (.str "abcdefghijklmnopqrstuvwxyz")] M = .ok ((List.range' 97 26).map sgn, []) M := by
  have e : walkD .ov [.p (.str letters)] M = if letters.length ≤ sizeLine then some (signsD letters, []) else none := rfl
  have e2 : walkD .ov [.p (.str letters)] M = some ((List.range' 97 26).map sgn, []) := by
    rw [e, if_pos (small_n (by decide +kernel)), signs_letters]
  show (match walkD .ov [.p (.str letters)] M with
    | some r => R.ok r M
    | none => .stuck) = _
  rw [e2]
theorem strsP_fin {l : List Nat} {M : Mem} (h : l.length ≤ 900) : finL false (l.map sgn) M = .ok (.p (strsP l)) M := fin_map (fun c : Nat => .str (sign c)) l M (by omega)
theorem calm_ok {α β : Type} {a : α} {M : Mem} {f : α → Mem → R β} : (R.calm (R.ok a M)).bind f = f a M := rfl
theorem k02_letters (Γ : Wd) {o : D} {xs : Row} {M : Mem} {l : Lo} (h : seqD M o = some (row xs)) (g : Good xs) (h0 : l[0]? = some (some o)) (hl : 9 < l.length) :
    evalE Γ (.lc false .ov [(.str "abcdefghijklmnopqrstuvwxyz" 0)] (.nm 8 0) [(.cmp .In (.var 8 0) (.lc false .ov [(.var 0 0)] (.nm 9 0) [] (.ix (.var 9 0) (.int 0 0) 0) [] [("", 9)] 0) 0)] (.var 8 0) [] [("", 8)] 0) l M = .ok (.p (strsP (tagNs xs))) M := by
  have few := g.few
  refine ev_lc (own := [("", 8)]) (ea_1 ev_str) walk_letters (R1 := ((List.range' 97 26).filter fun c => decide (c ∈ xs.map (·.1))).map sgn) (lcL_map sgn (fun c => decide (c ∈ xs.map (·.1))) sgn stays_nil ?_) ?_
  · intro c _
    have lw : 8 < (wipeL l [8]).length := by rw [wipeL_len]; omega
    have inner : evalE Γ (.lc false .ov [(.var 0 0)] (.nm 9 0) [] (.ix (.var 9 0) (.int 0 0) 0) [] [("", 9)] 0) ((wipeL l [8]).set 8 (some (sgn c))) M = .ok (.p (strsP (xs.map (·.1)))) M := by
      refine ev_lc (own := [("", 9)]) (ea_1 (ev_var (i := 0) (d := o) ?_)) (walk_seq h) (R1 := (xs.map (·.1)).map sgn) ?_ (strsP_fin (by rw [List.length_map]; omega))
      · rw [List.getElem?_set_ne (by omega)]
        unfold wipeL
        rw [List.getElem?_set_ne (by omega)]
        exact h0
      · have run := lcL_map (w := [(o, row xs)]) (body := lcB (evalTs Γ []) (evalE Γ (.ix (.var 9 0) (.int 0 0) 0)) (.nm 9 0) [9] ((wipeL l [8]).set 8 (some (sgn c)))) (M := M) (fun x => D.p (item x)) (fun _ => true) (fun x => sgn x.1) (stays_one (by simp only [seqOrTup, h])) (as := xs) (by
          intro x hx
          have g9 : ∀ d, ((wipeL ((wipeL l [8]).set 8 (some (sgn c))) [9]).set 9 (some d))[9]? = some (some d) := fun d => by
            rw [List.getElem?_set_self (by rw [wipeL_len, List.length_set, wipeL_len]; omega)]
          unfold lcB
          rw [setT_n (by rw [wipeL_len, List.length_set, wipeL_len]; omega)]
          simp only [evalTs, calm_ok, if_true]
          rw [ev_ix (ev_var (g9 _)) (by simp only [evalE]) (it_0 x M)]
          rfl)
        have ft : xs.filter (fun _ => true) = xs := by simp
        rw [ft] at run
        rw [List.map_map]
        exact run
    have g8 : ((wipeL l [8]).set 8 (some (sgn c)))[8]? = some (some (sgn c)) := by rw [List.getElem?_set_self lw]
    unfold lcB
    show (match setT (.nm 8 0) (sgn c) (wipeL l [8]) with | none => R.stuck | some l2 => (evalTs Γ _ l2 M).calm.bind _) = _
    rw [setT_n lw]
    have cond : evalTs Γ [(.cmp .In (.var 8 0) (.lc false .ov [(.var 0 0)] (.nm 9 0) [] (.ix (.var 9 0) (.int 0 0) 0) [] [("", 9)] 0) 0)] ((wipeL l [8]).set 8 (some (sgn c))) M = .ok (decide (c ∈ xs.map (·.1))) M := by
      have e : evalTs Γ [(.cmp .In (.var 8 0) (.lc false .ov [(.var 0 0)] (.nm 9 0) [] (.ix (.var 9 0) (.int 0 0) 0) [] [("", 9)] 0) 0)] ((wipeL l [8]).set 8 (some (sgn c))) M = (evalE Γ (.cmp .In (.var 8 0) (.lc false .ov [(.var 0 0)] (.nm 9 0) [] (.ix (.var 9 0) (.int 0 0) 0) [] [("", 9)] 0) 0) ((wipeL l [8]).set 8 (some (sgn c))) M).bind tru := by simp only [evalTs]
      rw [e, ev_cmp (ev_var g8) inner in_signs, bind_ok, truB]
    simp only [cond, calm_ok]
    rw [ev_var g8]
    cases decide (c ∈ xs.map (·.1)) <;> rfl
  · rw [tagNs_letters g.ok]
    have := tagNs_len xs
    exact strsP_fin (by omega)
theorem k02_word (Γ : Wd) {xs : Row} {M : Mem} {l : Lo} (hl : 4 < l.length) (few : xs.length ≤ 100) (h2 : l[2]? = some (some (.p (.list (rowsP (runsOf xs)))))) :
    evalE Γ (.mth false (.str "" 0) .join [(.lc false .ov [(.var 2 0)] (.nm 4 0) [] (.ix (.ix (.var 4 0) (.int 0 0) 0) (.int 0 0) 0) [] [("", 4)] 0)] 0 0) l M = .ok (.p (.str (txt (wordOf xs)))) M := by
  have lw := word_len xs
  have mm : (rowsP (runsOf xs)).map D.p = (runsOf xs).map fun r => D.p (.list (r.map item)) := by unfold rowsP; rw [List.map_map]; rfl
  have sq : seqD M (.p (.list (rowsP (runsOf xs)))) = some ((runsOf xs).map fun r => D.p (.list (r.map item))) := by rw [← mm]; rfl
  refine ev_mth ev_str (rcv_s (b := .join) rfl) (ea_1 (ev_lc (own := [("", 4)]) (ea_1 (ev_var h2)) (walk_seq sq) (R1 := (wordOf xs).map sgn) ?_ (strsP_fin (l := wordOf xs) (by omega)))) (join_ok (by omega))
  have run := lcL_map (w := [(D.p (.list (rowsP (runsOf xs))), (runsOf xs).map fun r => D.p (.list (r.map item)))]) (body := lcB (evalTs Γ []) (evalE Γ (.ix (.ix (.var 4 0) (.int 0 0) 0) (.int 0 0) 0)) (.nm 4 0) [4] l) (M := M) (fun r : Row => D.p (.list (r.map item))) (fun _ => true) (fun r => sgn (headTag r)) (stays_one (by simp only [seqOrTup, sq])) (as := runsOf xs) (by
    intro r hr
    have ne := runs_ne xs r hr
    have g4 : ∀ d, ((wipeL l [4]).set 4 (some d))[4]? = some (some d) := fun d => by rw [List.getElem?_set_self (by rw [wipeL_len]; exact hl)]
    cases r with
    | nil => exact absurd rfl ne
    | cons x r =>
      have i1 : ixD (.p (.list ((x :: r).map item))) (.p (.int 0)) M = some (.p (item x), M) := ix_data (Int.le_refl 0) rfl
      unfold lcB
      rw [setT_n (by rw [wipeL_len]; exact hl)]
      simp only [evalTs, calm_ok, if_true]
      rw [ev_ix (ev_ix (ev_var (g4 _)) (by simp only [evalE]) i1) (by simp only [evalE]) (it_0 x M)]
      rfl)
  have ft : (runsOf xs).filter (fun _ => true) = runsOf xs := by simp
  rw [ft] at run
  have e : (wordOf xs).map sgn = (runsOf xs).map fun r => sgn (headTag r) := by unfold wordOf; rw [List.map_map]; rfl
  rw [e]
  exact run
theorem k02_right_ok [Has T "tags_of" std_tags_of] [Has T "tags_in" (std_tags_in true)] [Has T "runs_of" std_runs_of] [Has T "word_of" std_word_of] [Has T "_law_equal" std__law_equal] [Has T "_law_runs" std_k02_law_runs] [Has T "_law_right" std_k02_law_right] [Has T "check_order" std_check_order] [Has T "runs_in" std_runs_in] [Has T "word_in" std_word_in] [Has T "is_order" std_is_order] [Has T "is_item" std_is_item] [Has T "is_integer" std_is_integer] [Gl gg "MOST_ITEMS" (.int 24)] [Gl gg "MOST_TAGS" (.int 4)] [Gl gg "LETTERS" (.str letters)] [Gl gg "MOST_NUMBER" (.int 99)] (k : Nat) {o : D} {xs : Row} {M : Mem} (h : seqD M o = some (row xs)) (g : Good xs) :
    callD gg xx T (k + 6) "_law_right" [o] M = .ok (.p (.bool true)) M := by
  have few := g.few
  have one := g.one
  rw [call_has (F := std_k02_law_right) inferInstance rfl]
  have e0 := repr_seq (c := false) h g.ok (by omega)
  have e1 := k02_runs_ok (gg := gg) (xx := xx) (T := T) (k + 4) h (by omega) (by omega)
  have e2 := word_of_ok (gg := gg) (xx := xx) (T := T) k h g
  have wk : walkR (.rng 0 0) [.p (.int 2)] M = .ok (rngD 0 2, []) M := walk_rng1 (by unfold big; omega)
  let I : Nat → Lo → Mem → Prop := fun i l M' => ∃ y4 y5 y6 y7, l = [some o, some (.p (.str (rep xs))), some (.p (.list (rowsP (runsOf xs)))), some (.p (strsP (tagNs xs))), y4, y5, y6, y7, none, none] ∧ Ext M M'
  obtain ⟨l', M', run, y4, y5, y6, y7, rfl, E', rfl⟩ := forL_inv (w := []) (t := .nm 5 0) (body := execB ⟨callD gg xx T (k + 5), gg⟩ xx k02l_right_3b) I (ds := rngD 0 2) (M := M) (l := [some o, some (.p (.str (rep xs))), some (.p (.list (rowsP (runsOf xs)))), some (.p (strsP (tagNs xs))), none, none, none, none, none, none])
    (by
      rintro i l M' d hd ⟨y4, y5, y6, y7, rfl, hE⟩
      refine ⟨stays_nil, _, setT_n (by simp), ?_⟩
      obtain ⟨z4, z6, z7, M2, e, hE2⟩ := k02_turn (gg := gg) (xx := xx) (T := T) k (a4 := y4) (a5 := some d) (a6 := y6) (a7 := y7) (a8 := none) (a9 := none) hE h g
      exact ⟨_, M2, .inl e, z4, some d, z6, z7, rfl, hE2⟩)
    (fun _ _ _ => stays_nil) ⟨none, none, none, none, rfl, Ext.refl M⟩
  have e3 := repr_seq (c := false) (seq_app (N := E') h) g.ok (by omega)
  have s0 : execS ⟨callD gg xx T (k + 5), gg⟩ xx k02l_right_0 [some o, none, none, none, none, none, none, none, none, none] M = .next [some o, some (.p (.str (rep xs))), some (.p (.list (rowsP (runsOf xs)))), none, none, none, none, none, none, none] M := by
    simp only [k02l_right_0, execB, execS, evalE, evalA, evalAnd, evalOr, startD, List.map, List.cons_append, List.nil_append, List.length_cons, List.length_nil, List.replicate, Nat.reduceAdd, Nat.reduceSub, get0, getS, bind_ok, to_ok, then_next, then_ret, out_ret, out_next, ofO_some, truB, if_t, if_f, if_true, sz0, sz1, sz2, sz3, sz4, sz5, sz6, sz7, sz8, sz9, sz10, sz11, sz12, mkT1, mkT2, mkT3, al_tr, alf0, alf1, alf2, alf3, alf4, alf5, alf6, alf7, alf8, setT_nm0, List.set_cons_succ, List.set_cons_zero, Nat.reduceLT, e0, e1, and_self]
  have body : execB ⟨callD gg xx T (k + 5), gg⟩ xx std_k02_law_right.body (startD std_k02_law_right.N [o]) M = .ret (.p (.bool true)) (M ++ E') := by
    refine (xb_cons (s := k02l_right_0) (ss := [k02l_right_1, k02l_right_2, k02l_right_3, k02l_right_4]) s0).trans ?_
    refine (xb_cons (s := k02l_right_1) (xs_asgc (k02_letters _ h g rfl (by simp)) (by simp))).trans ?_
    refine (xb_cons (s := k02l_right_2) (xs_skip (ev_cmp (ev_cal (ea_1 (ev_var (i := 0) rfl)) e2) (k02_word _ (by simp) (by omega) rfl) (by rw [ne_txt, decide_eq_true rfl]; rfl)))).trans ?_
    refine (xb_cons (s := k02l_right_3) ((xs_for (ea_1 ev_int) wk).trans run)).trans ?_
    exact xb_ret (s := k02l_right_4) (xs_ret (ev_cmp (ev_blt (ea_1 (ev_var (i := 0) rfl)) e3) (ev_var (i := 1) rfl) (by rw [eq_ss, decide_eq_true rfl])))
  rw [body, out_ret, gc_p]
theorem k02_holds [Has T "tags_of" std_tags_of] [Has T "tags_in" (std_tags_in true)] [Has T "runs_of" std_runs_of] [Has T "word_of" std_word_of] [Has T "_law_equal" std__law_equal] [Has T "_law_runs" std_k02_law_runs] [Has T "_law_right" std_k02_law_right] [Has T "_law_row" std__law_row] [Has T "_law_holds" std_k02_law_holds] [Has T "check_order" std_check_order] [Has T "runs_in" std_runs_in] [Has T "word_in" std_word_in] [Has T "_law_draw" std__law_draw] [Has T "is_order" std_is_order] [Has T "is_item" std_is_item] [Has T "is_integer" std_is_integer] [Gl gg "MOST_ITEMS" (.int 24)] [Gl gg "MOST_TAGS" (.int 4)] [Gl gg "LETTERS" (.str letters)] [Gl gg "MOST_NUMBER" (.int 99)] (k : Nat) {m : Nat} {M : Mem} {most : Int} (p : Pool 0 m M) (h0 : 5 ≤ most) (h1 : most ≤ 24) :
    ∃ M', callD gg xx T (k + 7) "_law_holds" [.ref m, .p (.int most)] M = .ok (.p (.bool true)) M' := by
  rw [call_has (F := std_k02_law_holds) inferInstance rfl]
  obtain ⟨r, xs, M1, e1, hr, g, -, p1, ne, -⟩ := row_ok (gg := gg) (xx := xx) (T := T) (k + 4) (most := most) p (by omega) (by omega) h1
  have few := g.few
  have sr := seq_ref hr
  obtain ⟨ys, e3, pm⟩ := sorted_row sr (by omega)
  have e5 := rev_seq sr
  have ng : ∀ M : Mem, negD (.p (.int 1)) M = some (.p (.int (-1)), M) := fun _ => rfl
  -- the list of three
  have alT : al true [.ref r, .p (.list (xs.reverse.map item)), .p (.list (ys.map item))] M1 = some (.ref M1.length, M1 ++ [.lst [.ref r, .p (.list (xs.reverse.map item)), .p (.list (ys.map item))]]) := rfl
  have g3 : (M1 ++ [Cell.lst [.ref r, .p (.list (xs.reverse.map item)), .p (.list (ys.map item))]])[M1.length]? = some (.lst [.ref r, .p (.list (xs.reverse.map item)), .p (.list (ys.map item))]) := get_new
  obtain ⟨M2, hM2⟩ : ∃ M2, M2 = M1 ++ [Cell.lst [.ref r, .p (.list (xs.reverse.map item)), .p (.list (ys.map item))]] := ⟨_, rfl⟩
  rw [← hM2] at alT g3
  have s1 : St (0 + 100) m r xs M2 := by rw [hM2]; exact St.app ⟨p1, hr, g, ne⟩
  have wk1 := walk_seq (seq_ref g3)
  let I1 : Nat → Lo → Mem → Prop := fun i l M' => ∃ x3, l = [some (.ref m), some (.p (.int most)), some (.ref r), x3, none, none] ∧ M' = M2
  have right : ∀ d ∈ [D.ref r, .p (.list (xs.reverse.map item)), .p (.list (ys.map item))], callD gg xx T (k + 6) "_law_right" [d] M2 = .ok (.p (.bool true)) M2 := by
    intro d hd
    simp only [List.mem_cons, List.mem_nil_iff, or_false] at hd
    rcases hd with rfl | rfl | rfl
    · exact k02_right_ok k (seq_ref s1.row) g
    · exact k02_right_ok k (xs := xs.reverse) (by rw [row_eq]; rfl) (g.perm (List.reverse_perm xs))
    · exact k02_right_ok k (xs := ys) (by rw [row_eq]; rfl) (g.perm pm)
  obtain ⟨l1, M1', run1, x3, rfl, rfl⟩ := forL_inv (w := [(.ref M1.length, [D.ref r, .p (.list (xs.reverse.map item)), .p (.list (ys.map item))])]) (t := .nm 3 0) (body := execB ⟨callD gg xx T (k + 6), gg⟩ xx k02l_holds_1b) I1 (ds := [D.ref r, .p (.list (xs.reverse.map item)), .p (.list (ys.map item))]) (M := M2) (l := [some (.ref m), some (.p (.int most)), some (.ref r), none, none, none])
    (by
      rintro i l M' d hd ⟨x3, rfl, rfl⟩
      refine ⟨stays_one (by simp only [seqOrTup, seq_ref g3]), _, setT_n (by simp), _, M', .inl ?_, some d, rfl, rfl⟩
      refine (xb_cons (s := k02l_holds_1b_0) (ss := []) (xs_skip (ev_not (b := true) (ev_cal (ea_1 (ev_var (i := 3) rfl)) (right d (List.mem_of_getElem? hd)))))).trans ?_
      rfl)
    (fun l M' ⟨_, _, e⟩ => by rw [e]; exact stays_one (by simp only [seqOrTup, seq_ref g3]))
    ⟨none, rfl, rfl⟩
  have wk : walkR (.rng 0 0) [.p (.int 3)] M1' = .ok (rngD 0 3, []) M1' := walk_rng1 (by unfold big; omega)
  let I : Nat → Lo → Mem → Prop := fun i l M' => ∃ x4 xs, l = [some (.ref m), some (.p (.int most)), some (.ref r), x3, x4, none] ∧ St (0 + 100 + i) m r xs M'
  obtain ⟨l', M3, run, y4, zs, rfl, s2⟩ := forL_inv (w := []) (t := .nm 4 0) (body := execB ⟨callD gg xx T (k + 6), gg⟩ xx k02l_holds_2b) I (ds := rngD 0 3) (M := M1') (l := [some (.ref m), some (.p (.int most)), some (.ref r), x3, none, none])
    (by
      rintro i l M' d hd ⟨x4, xs, rfl, s⟩
      obtain ⟨hi, rfl⟩ := rng_get hd
      refine ⟨stays_nil, _, setT_n (by simp), ?_⟩
      have one := s.good.one
      have few := s.good.few
      have ln : bltD false .len [.ref r] M' = some (.p (.int xs.length), M') := by rw [len_seq (seq_ref s.row), row_len]
      obtain ⟨v, M4, e1, v0, v1, s4, -, -⟩ := s.draw (gg := gg) (xx := xx) (T := T) (k + 5) (cnt := (xs.length : Int)) (by omega) (by omega) (by omega)
      have hv : v.toNat < xs.length := by omega
      have e3 := pop_at (c := false) s4.row v0 (get_at hv) (by omega)
      have g5 := get_self (d := .lst ((row xs).eraseIdx v.toNat)) s4.row
      have e4 := app_at (c := false) (y := .p (item xs[v.toNat])) g5 (by rw [List.length_eraseIdx_of_lt (by rw [row_len]; exact hv), row_len]; omega)
      have pm : (xs.eraseIdx v.toNat ++ [xs[v.toNat]]).Perm xs := (List.perm_append_comm).trans (erase_perm (List.getElem?_eq_getElem hv))
      have s5 : St (0 + 100 + (i + 1)) m r (xs.eraseIdx v.toNat ++ [xs[v.toNat]]) ((M4.set r (.lst ((row xs).eraseIdx v.toNat))).set r (.lst ((row xs).eraseIdx v.toNat ++ [.p (item xs[v.toNat])]))) := by
        refine ⟨((s4.pool.mono (by omega)).set (Ne.symm s.ne)).set (Ne.symm s.ne), ?_, s.good.perm pm, s.ne⟩
        have : row (xs.eraseIdx v.toNat ++ [xs[v.toNat]]) = (row xs).eraseIdx v.toNat ++ [.p (item xs[v.toNat])] := by
          unfold row
          rw [eraseIdx_map, List.map_append]
          rfl
        rw [this]
        exact get_self g5
      have e6 := k02_right_ok (gg := gg) (xx := xx) (T := T) k (seq_ref s5.row) s5.good
      refine ⟨_, _, .inl ?_, some (.p (.int (0 + i))), _, rfl, s5⟩
      refine (xb_cons (s := k02l_holds_2b_0) (ss := [k02l_holds_2b_1]) (xs_exp (ev_mth (ev_var (i := 2) rfl) (rcv_ref (b := .append) rfl s.row) (ea_1 (ev_mth (ev_var (i := 2) rfl) (rcv_ref (b := .pop) rfl s.row) (ea_1 (ev_cal (ea_2 (ev_var (i := 0) rfl) (ev_blt (ea_1 (ev_var (i := 2) rfl)) ln)) e1)) e3)) e4))).trans ?_
      refine (xb_cons (s := k02l_holds_2b_1) (ss := []) (xs_skip (ev_not (b := true) (ev_cal (ea_1 (ev_var (i := 2) rfl)) e6)))).trans ?_
      rfl)
    (fun _ _ _ => stays_nil) ⟨none, xs, rfl, s1⟩
  have c1 : Good [(113, 7)] := ⟨by intro x hx; simp at hx; rcases hx with rfl; exact ⟨by decide, by decide, by decide, by decide⟩, by decide, by decide, by decide, by decide⟩
  have c2 : Good [(98, 1), (97, 1), (97, 2)] := ⟨by intro x hx; simp at hx; rcases hx with rfl | rfl | rfl <;> exact ⟨by decide, by decide, by decide, by decide⟩, by decide, by decide, by decide, by decide⟩
  have e6 : callD gg xx T (k + 6) "word_of" [.p (.list [.tuple [.str "q", .int 7]])] M3 = .ok (.p (.str (txt [113]))) M3 := word_of_ok (gg := gg) (xx := xx) (T := T) (k + 1) (xs := [(113, 7)]) rfl c1
  have e7 : callD gg xx T (k + 6) "runs_of" [.p (.list [.tuple [.str "b", .int 1], .tuple [.str "a", .int 1], .tuple [.str "a", .int 2]])] M3 = .ok (.ref M3.length) (M3 ++ RM M3.length [[(98, 1)], [(97, 1), (97, 2)]]) := runs_of_ok (gg := gg) (xx := xx) (T := T) (k + 1) (xs := [(98, 1), (97, 1), (97, 2)]) rfl c2
  have e8 : cmpD .Eq (.ref M3.length) (.p (.list [.list [.tuple [.str "b", .int 1]], .list [.tuple [.str "a", .int 1], .tuple [.str "a", .int 2]]])) (M3 ++ RM M3.length [[(98, 1)], [(97, 1), (97, 2)]]) = some (.p (.bool true), M3 ++ RM M3.length [[(98, 1)], [(97, 1), (97, 2)]]) := by
    have r1 := RM_res (n0 := 4) (M := M3) (N := []) (rs := [[(98, 1)], [(97, 1), (97, 2)]])
    rw [List.append_nil] at r1
    show two eqP _ _ _ = _
    unfold two
    rw [r1]
    rfl
  have body : execB ⟨callD gg xx T (k + 6), gg⟩ xx std_k02_law_holds.body (startD std_k02_law_holds.N [.ref m, .p (.int most)]) M = .ret (.p (.bool true)) (M3 ++ RM M3.length [[(98, 1)], [(97, 1), (97, 2)]]) := by
    have v0 : evalE ⟨callD gg xx T (k + 6), gg⟩ (.sls false (.var 2 0) .nop .nop (.neg (.int 1 0) 0) 0 0) [some (.ref m), some (.p (.int most)), some (.ref r), none, none, none] M1 = .ok (.p (.list (xs.reverse.map item))) M1 := by
      simp only [execB, execS, evalE, evalA, evalAnd, evalOr, startD, List.map, List.cons_append, List.nil_append, List.length_cons, List.length_nil, List.replicate, Nat.reduceAdd, Nat.reduceSub, get0, getS, bind_ok, to_ok, then_next, then_ret, out_ret, out_next, ofO_some, truB, if_t, if_f, if_true, sz0, sz1, sz2, sz3, sz4, sz5, sz6, sz7, sz8, sz9, sz10, sz11, sz12, mkT1, mkT2, mkT3, al_tr, alf0, alf1, alf2, alf3, alf4, alf5, alf6, alf7, alf8, setT_nm0, List.set_cons_succ, List.set_cons_zero, Nat.reduceLT, E.isNop, opt_t, stp_i, ng, e5]
    have c5 : evalE ⟨callD gg xx T (k + 6), gg⟩ (.lst false [(.lst false [(.tup [(.str "b" 0), (.int 1 0)] 0 0)] 0), (.lst false [(.tup [(.str "a" 0), (.int 1 0)] 0 0), (.tup [(.str "a" 0), (.int 2 0)] 0 0)] 0)] 0) [some (.ref m), some (.p (.int most)), some (.ref r), x3, y4, none] M3 = .ok (.p (.list [.list [.tuple [.str "b", .int 1]], .list [.tuple [.str "a", .int 1], .tuple [.str "a", .int 2]]])) M3 := by
      simp only [execB, execS, evalE, evalA, evalAnd, evalOr, startD, List.map, List.cons_append, List.nil_append, List.length_cons, List.length_nil, List.replicate, Nat.reduceAdd, Nat.reduceSub, get0, getS, bind_ok, to_ok, then_next, then_ret, out_ret, out_next, ofO_some, truB, if_t, if_f, if_true, sz0, sz1, sz2, sz3, sz4, sz5, sz6, sz7, sz8, sz9, sz10, sz11, sz12, mkT1, mkT2, mkT3, al_tr, alf0, alf1, alf2, alf3, alf4, alf5, alf6, alf7, alf8, setT_nm0, List.set_cons_succ, List.set_cons_zero, Nat.reduceLT]
    have c6 : ∀ l, evalE ⟨callD gg xx T (k + 6), gg⟩ (.lst false [(.tup [(.str "q" 0), (.int 7 0)] 0 0)] 0) l M3 = .ok (.p (.list [.tuple [.str "q", .int 7]])) M3 := fun l => by simp only [execB, execS, evalE, evalA, evalAnd, evalOr, startD, List.map, List.cons_append, List.nil_append, List.length_cons, List.length_nil, List.replicate, Nat.reduceAdd, Nat.reduceSub, get0, getS, bind_ok, to_ok, then_next, then_ret, out_ret, out_next, ofO_some, truB, if_t, if_f, if_true, sz0, sz1, sz2, sz3, sz4, sz5, sz6, sz7, sz8, sz9, sz10, sz11, sz12, mkT1, mkT2, mkT3, al_tr, alf0, alf1, alf2, alf3, alf4, alf5, alf6, alf7, alf8, setT_nm0, List.set_cons_succ, List.set_cons_zero, Nat.reduceLT]
    have c7 : ∀ l, evalE ⟨callD gg xx T (k + 6), gg⟩ (.lst false [(.tup [(.str "b" 0), (.int 1 0)] 0 0), (.tup [(.str "a" 0), (.int 1 0)] 0 0), (.tup [(.str "a" 0), (.int 2 0)] 0 0)] 0) l M3 = .ok (.p (.list [.tuple [.str "b", .int 1], .tuple [.str "a", .int 1], .tuple [.str "a", .int 2]])) M3 := fun l => by simp only [execB, execS, evalE, evalA, evalAnd, evalOr, startD, List.map, List.cons_append, List.nil_append, List.length_cons, List.length_nil, List.replicate, Nat.reduceAdd, Nat.reduceSub, get0, getS, bind_ok, to_ok, then_next, then_ret, out_ret, out_next, ofO_some, truB, if_t, if_f, if_true, sz0, sz1, sz2, sz3, sz4, sz5, sz6, sz7, sz8, sz9, sz10, sz11, sz12, mkT1, mkT2, mkT3, al_tr, alf0, alf1, alf2, alf3, alf4, alf5, alf6, alf7, alf8, setT_nm0, List.set_cons_succ, List.set_cons_zero, Nat.reduceLT]
    refine (xb_cons (s := k02l_holds_0) (ss := [k02l_holds_1, k02l_holds_2, k02l_holds_3, k02l_holds_4]) (l1 := [some (.ref m), some (.p (.int most)), some (.ref r), none, none, none]) (xs_asg (ev_cal (ea_2 (ev_var (i := 0) rfl) (ev_var (i := 1) rfl)) e1) (by show 2 < 6; decide))).trans ?_
    refine (xb_cons (s := k02l_holds_1) ((xs_for (ea_1 (ev_lst (ea_3 (ev_var (i := 2) rfl) v0 (ev_blt (ea_1 (ev_var (i := 2) rfl)) e3)) (by simp) alT)) wk1).trans run1)).trans ?_
    refine (xb_cons (s := k02l_holds_2) ((xs_for (ea_1 ev_int) wk).trans run)).trans ?_
    refine (xb_cons (s := k02l_holds_3) (xs_asg c5 (by simp))).trans ?_
    refine xb_ret (s := k02l_holds_4) (xs_ret (ev_and_t (ev_cmp (ev_cal (ea_1 (c6 _)) e6) ev_str ?_) (ev_cmp (ev_cal (ea_1 (c7 _)) e7) (ev_var (i := 5) rfl) e8)))
    exact eq_txt (a := [113]) (b := [113]) (M := M3)
  rw [body]
  exact gc_any _ _ _
end Mini.Std

namespace Mini.Std
open PySem PySem.Spec PyProof.Rows L2 Mini
/- k12 -/
def k12table_of_0 : S := .exp (.cal "check_order" [(.var 0 0)] 0 0) 0
def k12table_of_1 : S := .asg (.nm 1 0) (.cal "word_in" [(.var 0 0)] 0 0) 0
def k12table_of_2 : S := .ret (.mth false (.str "\n" 0) .join [(.lc false (.itm 0 0) [(.cal "sizes_in" [(.var 0 0)] 0 0)] (.tp [(.nm 2 0), (.nm 3 0)] 0 0) [] (.fst (.fmt (.var 2 0) 0) (.ext .fm4 [(.var 3 0)] []) [(.ext .fm4 [(.mth false (.var 1 0) .count [(.var 2 0)] 0 0)] [])] 0) [] [("", 2), ("", 3)] 0)] 0 0) 0
def std_k12table_of : Fn := ⟨1, ["order", "word", "tag", "many"], [k12table_of_0, k12table_of_1, k12table_of_2]⟩
/- k12 -/
def k12l_right_0 : S := .par 1 2 0 0 0 0 (.blt false .repr [(.var 0 0)] 0 0) (.str "" 0) 0 0 0
def k12l_right_1 : S := .asgc 3 0 (.lc false .ov [(.str "abcdefghijklmnopqrstuvwxyz" 0)] (.nm 8 0) [(.cmp .In (.var 8 0) (.lc false .ov [(.var 0 0)] (.nm 9 0) [] (.ix (.var 9 0) (.int 0 0) 0) [] [("", 9)] 0) 0)] (.var 8 0) [] [("", 8)] 0) 0
def k12l_right_2b_0 : S := .asgc 5 0 (.lc false .ov [(.var 0 0)] (.nm 9 0) [(.cmp .Eq (.ix (.var 9 0) (.int 0 0) 0) (.var 4 0) 0)] (.var 9 0) [] [("", 9)] 0) 0
def k12l_right_2b_1 : S := .asgc 6 0 (.lc false (.zip 0 0) [(.var 0 0), (.sl false (.var 0 0) (.int 1 0) .nop 0 0)] (.tp [(.nm 10 0), (.nm 11 0)] 0 0) [(.and [(.cmp .Eq (.ix (.var 10 0) (.int 0 0) 0) (.var 4 0) 0), (.cmp .Eq (.ix (.var 11 0) (.int 0 0) 0) (.var 4 0) 0)] 0)] (.var 10 0) [] [("", 10), ("", 11)] 0) 0
def k12l_right_2b_2 : S := .asg (.nm 2 0) (.bin false .Add (.bin false .Add (.var 2 0) (.bin false .Mult (.str "\n" 0) (.blt false .int [(.cmp .NotEq (.var 2 0) (.str "" 0) 0)] 0 0) 0) 0) (.var 4 0) 0) 0
def k12l_right_2b_3b_0 : S := .asg (.nm 2 0) (.bin false .Add (.bin false .Add (.var 2 0) (.bin false .Mult (.str " " 0) (.bin false .Sub (.int 4 0) (.blt false .len [(.blt false .str [(.var 7 0)] 0 0)] 0 0) 0) 0) 0) (.blt false .str [(.var 7 0)] 0 0) 0) 0
def k12l_right_2b_3b : List S := [k12l_right_2b_3b_0]
def k12l_right_2b_3 : S := .for_ .ov [(.lst false [(.blt false .len [(.var 5 0)] 0 0), (.bin false .Sub (.blt false .len [(.var 5 0)] 0 0) (.blt false .len [(.var 6 0)] 0 0) 0)] 0)] (.nm 7 0) k12l_right_2b_3b 0
def k12l_right_2b : List S := [k12l_right_2b_0, k12l_right_2b_1, k12l_right_2b_2, k12l_right_2b_3]
def k12l_right_2 : S := .for_ .ov [(.var 3 0)] (.nm 4 0) k12l_right_2b 0
def k12l_right_3 : S := .ret (.and [(.cmp .Eq (.cal "table_of" [(.var 0 0)] 0 0) (.var 2 0) 0), (.cmp .Eq (.cal "table_of" [(.var 0 0)] 0 0) (.var 2 0) 0), (.cmp .Eq (.blt false .repr [(.var 0 0)] 0 0) (.var 1 0) 0)] 0) 0
def std_k12_law_right : Fn := ⟨1, ["_law_row_here", "_law_before", "_law_due", "_law_signs", "_law_sign", "_law_things", "_law_pairs", "_law_many", "_law_letter", "_law_thing", "_law_one", "_law_two"], [k12l_right_0, k12l_right_1, k12l_right_2, k12l_right_3]⟩
/- k12 -/
def k12l_holds_0 : S := .asg (.nm 2 0) (.cal "_law_row" [(.var 0 0), (.var 1 0)] 0 0) 0
def k12l_holds_1 : S := .ite (.or [(.not (.cal "_law_right" [(.var 2 0)] 0 0) 0), (.not (.cal "_law_right" [(.blt false .sorted [(.var 2 0)] 0 0)] 0 0) 0), (.not (.cal "_law_right" [(.sls false (.var 2 0) .nop .nop (.neg (.int 1 0) 0) 0 0)] 0 0) 0)] 0) [
    .ret (.bl false 0) 0] [] 0
def k12l_holds_2b_0 : S := .exp (.mth false (.var 2 0) .insert [(.cal "_law_draw" [(.var 0 0), (.blt false .len [(.var 2 0)] 0 0)] 0 0), (.mth false (.var 2 0) .pop [(.cal "_law_draw" [(.var 0 0), (.blt false .len [(.var 2 0)] 0 0)] 0 0)] 0 0)] 0 0) 0
def k12l_holds_2b_1 : S := .ite (.not (.cal "_law_right" [(.var 2 0)] 0 0) 0) [
      .ret (.bl false 0) 0] [] 0
def k12l_holds_2b : List S := [k12l_holds_2b_0, k12l_holds_2b_1]
def k12l_holds_2 : S := .for_ (.rng 0 0) [(.int 4 0)] (.nm 3 0) k12l_holds_2b 0
def k12l_holds_3 : S := .asgc 4 0 (.lc false (.rng 0 0) [(.int 24 0)] (.nm 5 0) [] (.tup [(.ix (.str "ab" 0) (.bin false .Mod (.var 5 0) (.int 2 0) 0) 0), (.bin false .Add (.var 5 0) (.int 1 0) 0)] 0 0) [] [("", 5)] 0) 0
def k12l_holds_4 : S := .ret (.and [(.cmp .Eq (.cal "table_of" [(.var 4 0)] 0 0) (.str "a  12  12\nb  12  12" 0) 0), (.cmp .Eq (.cal "table_of" [(.lst false [(.tup [(.str "z" 0), (.int 5 0)] 0 0)] 0)] 0 0) (.str "z   1   1" 0) 0)] 0) 0
def std_k12_law_holds : Fn := ⟨2, ["_law_source_here", "_law_most", "_law_row_here", "_law_step", "_law_turns", "_law_number"], [k12l_holds_0, k12l_holds_1, k12l_holds_2, k12l_holds_3, k12l_holds_4]⟩
end Mini.Std

namespace Mini.Std
open PySem PySem.Spec PyProof.Rows L2 Mini
variable {gg : Str → Option PyData} {xx : Str → Option Nat} {T : Tab} {cc : Bool}
def line12 (xs : Row) (c : Nat) : List Nat := c :: (pad4 (cntOf xs c) ++ pad4 ((wordOf xs).count c))
def table12 (xs : Row) (cs : List Nat) : List Nat := TL.joinL [10] (cs.map (line12 xs))
theorem cnt_le (xs : Row) (c : Nat) : cntOf xs c ≤ xs.length := List.length_filter_le _ _
theorem line12_len {xs : Row} {c : Nat} (h : xs.length ≤ 24) : (line12 xs c).length = 9 := by
  have h1 := cnt_le xs c
  have h2 := cnt_split c xs
  have := (pad_facts (n := cntOf xs c) (by omega)).2.2.2.1
  have := (pad_facts (n := (wordOf xs).count c) (by omega)).2.2.2.1
  unfold line12
  simp only [List.length_cons, List.length_append]
  omega
theorem joinL_len (s : List Nat) : ∀ ws : List (List Nat), (TL.joinL s ws).length ≤ (ws.map (·.length)).sum + ws.length * s.length
  | [] => Nat.zero_le _
  | [w] => by simp [TL.joinL]
  | w :: v :: ws => by
    have ih := joinL_len s (v :: ws)
    have e : TL.joinL s (w :: v :: ws) = w ++ (s ++ TL.joinL s (v :: ws)) := rfl
    rw [e]
    simp only [List.length_append, List.map_cons, List.sum_cons, List.length_cons, Nat.add_mul] at ih ⊢
    omega
theorem lines_sum {xs : Row} (h : xs.length ≤ 24) : ∀ cs : List Nat, ((cs.map (line12 xs)).map (·.length)).sum = 9 * cs.length
  | [] => rfl
  | c :: cs => by
    have ih := lines_sum h cs
    simp only [List.map_cons, List.sum_cons, List.length_cons, ih, line12_len h]
    omega
theorem table12_len {xs : Row} (h : xs.length ≤ 24) (cs : List Nat) : (table12 xs cs).length ≤ 10 * cs.length := by
  have h1 := joinL_len [10] (cs.map (line12 xs))
  rw [lines_sum h] at h1
  unfold table12
  simp only [List.length_map, List.length_cons, List.length_nil] at h1
  omega
theorem table12_snoc (xs : Row) (cs : List Nat) (c : Nat) : table12 xs (cs ++ [c]) = if cs = [] then line12 xs c else table12 xs cs ++ (10 :: line12 xs c) := by
  unfold table12
  rw [List.map_append, List.map_singleton, joinL_snoc]
  by_cases h : cs = []
  · subst h; rfl
  · rw [if_neg h, if_neg (by simpa using h)]
    rfl
theorem table12_ne {xs : Row} {cs : List Nat} (h : cs ≠ []) : table12 xs cs ≠ [] := by
  cases cs with
  | nil => exact absurd rfl h
  | cons c cs => cases cs <;> (intro e; cases e)
theorem itm_sizes (xs : Row) : itmD (sizesOf xs) = (tagNs xs).map fun c => D.p (.tuple [.str (sign c), .int (cntOf xs c)]) := by
  unfold itmD sizesOf dctOf
  rw [List.map_map]
  rfl
theorem jn_p {a b : List Nat} {M : Mem} (h : a.length + b.length ≤ 4000) : jnD (txt a) (.p (.str (txt b))) M = .ok (txt (a ++ b)) M := jn_t h
theorem table_of_ok [Has T "table_of" std_k12table_of] [Has T "tags_in" (std_tags_in false)] [Has T "view_in" (std_view_in false)] [Has T "check_order" std_check_order] [Has T "sizes_in" std_sizes_in] [Has T "word_in" std_word_in] [Has T "is_order" std_is_order] [Has T "runs_in" std_runs_in] [Has T "is_item" std_is_item] [Has T "is_integer" std_is_integer] [Gl gg "MOST_ITEMS" (.int 24)] [Gl gg "MOST_TAGS" (.int 4)] [Gl gg "LETTERS" (.str letters)] [Gl gg "MOST_NUMBER" (.int 99)] (k : Nat) {o : D} {xs : Row} {M : Mem} (h : seqD M o = some (row xs)) (g : Good xs) :
    callD gg xx T (k + 5) "table_of" [o] M = .ok (.p (.str (txt (table12 xs (tagNs xs))))) M := by
  have few := g.few
  rw [call_has (F := std_k12table_of) inferInstance rfl]
  have e1 := check_order_ok (gg := gg) (xx := xx) (T := T) k h g
  have e2 := word_in_ok (gg := gg) (xx := xx) (T := T) (k + 2) h (by omega)
  have e3 := sizes_in_ok (gg := gg) (xx := xx) (T := T) (k + 2) h (by omega)
  have tl := tagNs_len xs
  have run := lcL_map (w := []) (body := lcB (evalTs ⟨callD gg xx T (k + 4), gg⟩ []) (evalE ⟨callD gg xx T (k + 4), gg⟩ (.fst (.fmt (.var 2 0) 0) (.ext .fm4 [(.var 3 0)] []) [(.ext .fm4 [(.mth false (.var 1 0) .count [(.var 2 0)] 0 0)] [])] 0)) (.tp [(.nm 2 0), (.nm 3 0)] 0 0) [2, 3] [some o, some (.p (.str (txt (wordOf xs)))), none, none]) (M := M ++ [.dead]) (fun c => D.p (.tuple [.str (sign c), .int (cntOf xs c)])) (fun _ => true) (fun c => D.p (.str (txt (line12 xs c)))) stays_nil (as := tagNs xs) (by
    intro c hc
    have h1 := cnt_le xs c
    have h2 := cnt_split c xs
    have f1 := fm4_ok (n := cntOf xs c) (M := M ++ [.dead]) (by omega)
    have f2 := fm4_ok (n := (wordOf xs).count c) (M := M ++ [.dead]) (by omega)
    have l1 := (pad_facts (n := cntOf xs c) (by omega)).2.2.2.1
    have l2 := (pad_facts (n := (wordOf xs).count c) (by omega)).2.2.2.1
    have st : setT (.tp [(.nm 2 0), (.nm 3 0)] 0 0) (D.p (.tuple [.str (sign c), .int (cntOf xs c)])) [some o, some (.p (.str (txt (wordOf xs)))), none, none] = some [some o, some (.p (.str (txt (wordOf xs)))), some (.p (.str (sign c))), some (.p (.int (cntOf xs c)))] := rfl
    have fs : ∀ M : Mem, fmtR (.ok (.p (.str (sign c))) M) = .ok (.p (.str (sign c))) M := fun M => fmt_s (by show (1 : Nat) ≤ 1000; omega)
    have j1 : ∀ M : Mem, jnD Str.empty (.p (.str (sign c))) M = .ok (txt [c]) M := fun M => jn_0 (b := [c]) (by simp)
    have j2 : ∀ M : Mem, jnD (txt [c]) (.p (.str (txt (pad4 (cntOf xs c))))) M = .ok (txt (c :: pad4 (cntOf xs c))) M := fun M => jn_t (a := [c]) (by simp; omega)
    have j3 : ∀ M : Mem, jnD (txt (c :: pad4 (cntOf xs c))) (.p (.str (txt (pad4 ((wordOf xs).count c))))) M = .ok (txt (line12 xs c)) M := fun M => jn_t (a := c :: pad4 (cntOf xs c)) (by simp; omega)
    refine lcB_t (M1 := M ++ [.dead]) st et_nil ?_
    refine ev_fst (ev_fmt (ev_var (i := 2) rfl) (fs _)) (j1 _) (ev_ext (ea_1 (ev_var (i := 3) rfl)) (sem_fm4 (by omega))) (j2 _) (ej_cons (ev_ext (ea_1 (ev_mth (ev_var (i := 1) rfl) (rcv_s rfl) (ea_1 (ev_var (i := 2) rfl)) scount_ok)) (sem_fm4 (by omega))) (j3 _) ej_nil))
  have ft : (tagNs xs).filter (fun _ => true) = tagNs xs := by simp
  rw [ft, ← itm_sizes] at run
  have wk : walkR (.itm 0 0) [.ref M.length] (M ++ [.dct (sizesOf xs)]) = .ok (itmD (sizesOf xs), []) (M ++ [.dead]) := by
    rw [wk_items get_new, set_mid]
  have mm : (tagNs xs).map (fun c => D.p (.str (txt (line12 xs c)))) = ((tagNs xs).map (line12 xs)).map fun w => D.p (.str (txt w)) := by rw [List.map_map]; rfl
  rw [mm] at run
  have fin := fin_txts ((tagNs xs).map (line12 xs)) (M ++ [.dead]) (by rw [List.length_map]; omega)
  have jn : ∀ M : Mem, mthD false .join (.p (.str (txt [10]))) [.p (.list (((tagNs xs).map (line12 xs)).map fun w => .str (txt w)))] M = some (.p (.str (txt (table12 xs (tagNs xs)))), M) := fun M => mth_join (by
    rw [lines_sum few, List.length_map]
    simp
    omega)
  have nl : ("\n" : Str) = txt [10] := rfl
  have lc : evalE ⟨callD gg xx T (k + 4), gg⟩ (.lc false (.itm 0 0) [(.cal "sizes_in" [(.var 0 0)] 0 0)] (.tp [(.nm 2 0), (.nm 3 0)] 0 0) [] (.fst (.fmt (.var 2 0) 0) (.ext .fm4 [(.var 3 0)] []) [(.ext .fm4 [(.mth false (.var 1 0) .count [(.var 2 0)] 0 0)] [])] 0) [] [("", 2), ("", 3)] 0) [some o, some (.p (.str (txt (wordOf xs)))), none, none] M = .ok (.p (.list (((tagNs xs).map (line12 xs)).map fun w => .str (txt w)))) (M ++ [.dead]) :=
    ev_lcw (ea_1 (ev_cal (ea_1 (ev_var (i := 0) rfl)) e3)) wk run fin
  have s0 : execS ⟨callD gg xx T (k + 4), gg⟩ xx k12table_of_0 [some o, none, none, none] M = .next [some o, none, none, none] M := xs_exp (ev_cal (ea_1 (ev_var (i := 0) rfl)) e1)
  have s1 : execS ⟨callD gg xx T (k + 4), gg⟩ xx k12table_of_1 [some o, none, none, none] M = .next [some o, some (.p (.str (txt (wordOf xs)))), none, none] M := xs_asg (ev_cal (ea_1 (ev_var (i := 0) rfl)) e2) (by simp)
  have s2 : execS ⟨callD gg xx T (k + 4), gg⟩ xx k12table_of_2 [some o, some (.p (.str (txt (wordOf xs)))), none, none] M = .ret (.p (.str (txt (table12 xs (tagNs xs))))) (M ++ [.dead]) := by
    unfold k12table_of_2
    rw [nl]
    exact xs_ret (ev_mth ev_str (rcv_s rfl) (ea_1 lc) (jn _))
  have body : outR (execB ⟨callD gg xx T (k + 4), gg⟩ xx std_k12table_of.body (startD std_k12table_of.N [o]) M) = .ok (.p (.str (txt (table12 xs (tagNs xs))))) (M ++ [.dead]) := by
    show outR (execB _ xx [k12table_of_0, k12table_of_1, k12table_of_2] [some o, none, none, none] M) = _
    rw [xb_cons s0, xb_cons s1, xb_ret s2, out_ret]
  rw [body, gc_p]
end Mini.Std

namespace Mini.Std
open PySem PySem.Spec PyProof.Rows L2 Mini
variable {gg : Str → Option PyData} {xx : Str → Option Nat} {T : Tab} {cc : Bool}
def pairsOf (xs : Row) (c : Nat) : Row := ((xs.zip xs.tail).filter fun p => decide (p.1.1 = c) && decide (p.2.1 = c)).map (·.1)
theorem pairs_len (xs : Row) (c : Nat) : (pairsOf xs c).length = (looseOf xs).count c := by
  unfold pairsOf looseOf
  rw [List.length_map, List.count, List.countP_map, List.countP_filter, ← List.countP_eq_length_filter]
  congr 1
  funext p
  show _ = (p.1.1 == c && decide (p.1.1 = p.2.1))
  by_cases h1 : p.1.1 = c
  · subst h1
    by_cases h2 : p.2.1 = p.1.1
    · simp [h2]
    · have : ¬ p.1.1 = p.2.1 := fun z => h2 z.symm
      simp [h2, this]
  · simp [h1]
theorem k12_view (Γ : Wd) {o : D} {xs : Row} {M : Mem} {l : Lo} {c : Nat} (h : seqD M o = some (row xs)) (hl : xs.length ≤ 100) (h0 : l[0]? = some (some o)) (h4 : l[4]? = some (some (.p (.str (sign c))))) (h9 : 9 < l.length) :
    evalE Γ (.lc false .ov [(.var 0 0)] (.nm 9 0) [(.cmp .Eq (.ix (.var 9 0) (.int 0 0) 0) (.var 4 0) 0)] (.var 9 0) [] [("", 9)] 0) l M = .ok (.p (.list ((xs.filter fun x => decide (x.1 = c)).map item))) M := by
  refine ev_lc (own := [("", 9)]) (ea_1 (ev_var h0)) (walk_seq h) (R1 := row (xs.filter fun x => decide (x.1 = c))) (lcL_row (fun x => decide (x.1 = c)) (stays_one (by simp only [seqOrTup, h])) ?_) ?_
  · intro x hx
    have lw : 9 < (wipeL l [9]).length := by rw [wipeL_len]; exact h9
    have g9 : ((wipeL l [9]).set 9 (some (.p (item x))))[9]? = some (some (.p (item x))) := by rw [List.getElem?_set_self lw]
    have g4 : ((wipeL l [9]).set 9 (some (.p (item x))))[4]? = some (some (.p (.str (sign c)))) := by
      rw [List.getElem?_set_ne (by omega)]
      unfold wipeL
      rw [List.getElem?_set_ne (by omega)]
      exact h4
    have dd : decide (sign x.1 = sign c) = decide (x.1 = c) := by simp [sign_inj]
    exact lcB_b (setT_n lw) (et_1 (ev_cmp (ev_ix (ev_var g9) ev_int (it_0 x M)) (ev_var g4) (by rw [eq_ss, dd]))) (ev_var g9)
  · have := List.length_filter_le (fun x : Nat × Int => decide (x.1 = c)) xs
    unfold finL
    rw [if_pos (small_n (by rw [row_len]; omega)), row_eq, giv_al, giv_f]
theorem k12_pairs (Γ : Wd) {o : D} {xs : Row} {M : Mem} {c : Nat} {x1 x2 x3 x5 x6 x7 : Option D} (h : seqD M o = some (row xs)) (hl : xs.length ≤ 100) :
    evalE Γ (.lc false (.zip 0 0) [(.var 0 0), (.sl false (.var 0 0) (.int 1 0) .nop 0 0)] (.tp [(.nm 10 0), (.nm 11 0)] 0 0) [(.and [(.cmp .Eq (.ix (.var 10 0) (.int 0 0) 0) (.var 4 0) 0), (.cmp .Eq (.ix (.var 11 0) (.int 0 0) 0) (.var 4 0) 0)] 0)] (.var 10 0) [] [("", 10), ("", 11)] 0) [some o, x1, x2, x3, some (.p (.str (sign c))), x5, x6, x7, none, none, none, none] M = .ok (.p (.list ((pairsOf xs c).map item))) M := by
  have e1 := sl_seq (lo := some 1) (hi := none) h
  rw [cut_tail] at e1
  have es : evalE Γ (.sl false (.var 0 0) (.int 1 0) .nop 0 0) [some o, x1, x2, x3, some (.p (.str (sign c))), x5, x6, x7, none, none, none, none] M = .ok (.p (.list (xs.tail.map item))) M := by
    simp only [evalE, E.isNop, optI, get0, bind_ok, if_f, if_true, asInt, e1, ofO_some, Bool.false_eq_true, if_false]
  have z := zip_seq (p := 0) (q := 0) h (show seqD M (.p (.list (xs.tail.map item))) = some (row xs.tail) by rw [row_eq]; rfl)
  rw [zip_rows] at z
  refine ev_lc (own := [("", 10), ("", 11)]) (ea_2 (ev_var (i := 0) rfl) es) z (R1 := ((xs.zip xs.tail).filter fun p => decide (p.1.1 = c) && decide (p.2.1 = c)).map fun p => D.p (item p.1)) (lcL_map (fun p : (Nat × Int) × (Nat × Int) => D.p (.tuple [item p.1, item p.2])) (fun p => decide (p.1.1 = c) && decide (p.2.1 = c)) (fun p => D.p (item p.1)) (stays_two h (by rw [row_eq]; rfl)) ?_) ?_
  · intro p hp
    have st : setT (.tp [(.nm 10 0), (.nm 11 0)] 0 0) (D.p (.tuple [item p.1, item p.2])) (wipeL [some o, x1, x2, x3, some (.p (.str (sign c))), x5, x6, x7, none, none, none, none] [10, 11]) = some [some o, x1, x2, x3, some (.p (.str (sign c))), x5, x6, x7, none, none, some (.p (item p.1)), some (.p (item p.2))] := rfl
    have d1 : decide (sign p.1.1 = sign c) = decide (p.1.1 = c) := by simp [sign_inj]
    have d2 : decide (sign p.2.1 = sign c) = decide (p.2.1 = c) := by simp [sign_inj]
    refine lcB_b st (et_1 (ev_and_b (x := decide (p.1.1 = c)) (ev_cmp (ev_ix (ev_var (i := 10) rfl) ev_int (it_0 _ M)) (ev_var (i := 4) rfl) (by rw [eq_ss, d1])) (fun q => ?_) (fun q => by rw [q]; rfl))) (ev_var (i := 10) rfl)
    rw [q, Bool.true_and]
    exact ev_cmp (ev_ix (ev_var (i := 11) rfl) ev_int (it_0 _ M)) (ev_var (i := 4) rfl) (by rw [eq_ss, d2])
  · have e : (((xs.zip xs.tail).filter fun p => decide (p.1.1 = c) && decide (p.2.1 = c)).map fun p => D.p (item p.1)) = row (pairsOf xs c) := by
      unfold row pairsOf
      rw [List.map_map]
      rfl
    have l1 : (pairsOf xs c).length ≤ 100 := by
      unfold pairsOf
      rw [List.length_map]
      have := List.length_filter_le (fun p : (Nat × Int) × (Nat × Int) => decide (p.1.1 = c) && decide (p.2.1 = c)) (xs.zip xs.tail)
      have := List.length_zip (l₁ := xs) (l₂ := xs.tail)
      omega
    rw [e]
    unfold finL
    rw [if_pos (small_n (by rw [row_len]; omega)), row_eq, giv_al, giv_f]
/-- one number written in four columns -/
theorem k12_num (Γ : Wd) {xi : Str → Option Nat} {M : Mem} {a : List Nat} {n : Nat} {x0 x1 x3 x4 x5 x6 x8 x9 x10 x11 : Option D} (hn : n ≤ 99) (ha : a.length ≤ 1000) :
    execB Γ xi k12l_right_2b_3b [x0, x1, some (.p (.str (txt a))), x3, x4, x5, x6, some (.p (.int (n : Int))), x8, x9, x10, x11] M = .next [x0, x1, some (.p (.str (txt (a ++ pad4 n)))), x3, x4, x5, x6, some (.p (.int (n : Int))), x8, x9, x10, x11] M := by
  obtain ⟨f1, f2, -, f4, -⟩ := pad_facts hn
  have s7 : ∀ M : Mem, bltD false .str [.p (.int (n : Int))] M = some (.p (.str (txt (dig n))), M) := fun M => tx_str (by
    have := Nat.log2_lt (n := n) (k := 10)
    by_cases h0 : n = 0
    · subst h0; decide
    · have := (this h0).mpr (by omega)
      show n.log2 < 1920
      omega)
  have ls : ∀ M : Mem, bltD false .len [.p (.str (txt (dig n)))] M = some (.p (.int (dig n).length), M) := fun M => len_txt (by omega)
  have g7 : ([x0, x1, some (.p (.str (txt a))), x3, x4, x5, x6, some (.p (.int (n : Int))), x8, x9, x10, x11] : Lo)[7]? = some (some (.p (.int (n : Int)))) := rfl
  have sp : (" " : Str) = txt [32] := rfl
  have e : execS Γ xi k12l_right_2b_3b_0 [x0, x1, some (.p (.str (txt a))), x3, x4, x5, x6, some (.p (.int (n : Int))), x8, x9, x10, x11] M = .next [x0, x1, some (.p (.str (txt (a ++ pad4 n)))), x3, x4, x5, x6, some (.p (.int (n : Int))), x8, x9, x10, x11] M := by
    unfold k12l_right_2b_3b_0
    rw [sp]
    refine xs_asg (ev_bin (ev_bin (ev_var (i := 2) rfl) (ev_bin ev_str (ev_bin ev_int (ev_blt (ea_1 (ev_blt (ea_1 (ev_var g7)) (s7 M))) (ls M)) su_ii) (pad_mul hn)) (tx_add (by rw [List.length_replicate]; omega))) (ev_blt (ea_1 (ev_var g7)) (s7 M)) ?_) (by simp)
    rw [tx_add (by rw [List.length_append, List.length_replicate]; omega), List.append_assoc]
    rfl
  exact (xb_cons e).trans xb_nil
theorem k12_sign (k : Nat) {o b : D} {xs : Row} {M : Mem} {c : Nat} {cs : List Nat} {sg x5 x6 x7 : Option D} (h : seqD M o = some (row xs)) (g : Good xs) (hcs : cs.length ≤ 24) (Γ : Wd) :
    ∃ y5 y6 y7, execB Γ xx k12l_right_2b [some o, some b, some (.p (.str (txt (table12 xs cs)))), sg, some (.p (.str (sign c))), x5, x6, x7, none, none, none, none] M = .next [some o, some b, some (.p (.str (txt (table12 xs (cs ++ [c]))))), sg, some (.p (.str (sign c))), y5, y6, y7, none, none, none, none] M := by
  have few := g.few
  have c1 := cnt_le xs c
  have c2 := cnt_split c xs
  have pl := pairs_len xs c
  have tl := table12_len few cs
  refine ⟨some (.p (.list ((xs.filter fun x => decide (x.1 = c)).map item))), some (.p (.list ((pairsOf xs c).map item))), some (.p (.int ((wordOf xs).count c : Int))), ?_⟩
  have s0 : execS Γ xx k12l_right_2b_0 [some o, some b, some (.p (.str (txt (table12 xs cs)))), sg, some (.p (.str (sign c))), x5, x6, x7, none, none, none, none] M = .next [some o, some b, some (.p (.str (txt (table12 xs cs)))), sg, some (.p (.str (sign c))), some (.p (.list ((xs.filter fun x => decide (x.1 = c)).map item))), x6, x7, none, none, none, none] M := xs_asgc (k12_view Γ h (by omega) rfl rfl (by simp)) (by simp)
  have s1 : execS Γ xx k12l_right_2b_1 [some o, some b, some (.p (.str (txt (table12 xs cs)))), sg, some (.p (.str (sign c))), some (.p (.list ((xs.filter fun x => decide (x.1 = c)).map item))), x6, x7, none, none, none, none] M = .next [some o, some b, some (.p (.str (txt (table12 xs cs)))), sg, some (.p (.str (sign c))), some (.p (.list ((xs.filter fun x => decide (x.1 = c)).map item))), some (.p (.list ((pairsOf xs c).map item))), x7, none, none, none, none] M := xs_asgc (k12_pairs Γ h (by omega)) (by simp)
  let pre : List Nat := table12 xs cs ++ (if (!decide (table12 xs cs = [])) = true then [10] else []) ++ [c]
  have s2 : execS Γ xx k12l_right_2b_2 [some o, some b, some (.p (.str (txt (table12 xs cs)))), sg, some (.p (.str (sign c))), some (.p (.list ((xs.filter fun x => decide (x.1 = c)).map item))), some (.p (.list ((pairsOf xs c).map item))), x7, none, none, none, none] M = .next [some o, some b, some (.p (.str (txt pre))), sg, some (.p (.str (sign c))), some (.p (.list ((xs.filter fun x => decide (x.1 = c)).map item))), some (.p (.list ((pairsOf xs c).map item))), x7, none, none, none, none] M := by
    have nl : ("\n" : Str) = txt [10] := rfl
    have nm : ("" : Str) = txt [] := rfl
    unfold k12l_right_2b_2
    rw [nl, nm]
    refine xs_asg (ev_bin (ev_bin (ev_var (i := 2) rfl) (ev_bin ev_str (ev_blt (ea_1 (ev_cmp (ev_var (i := 2) rfl) ev_str tx_ne)) int_b) tx_mul01) (tx_add (by split <;> simp <;> omega))) (ev_var (i := 4) rfl) ?_) (by simp)
    rw [sign_txt]
    exact tx_add (by split <;> simp <;> omega)
  have lp : pre.length ≤ 400 := by
    show (table12 xs cs ++ (if (!decide (table12 xs cs = [])) = true then [10] else []) ++ [c]).length ≤ 400
    split <;> simp <;> omega
  have e1 : ∀ M : Mem, bltD false .len [.p (.list ((xs.filter fun x => decide (x.1 = c)).map item))] M = some (.p (.int (cntOf xs c)), M) := fun M => by
    rw [len_seq (seq_data _ _), List.length_map, List.length_map]; rfl
  have e2 : ∀ M : Mem, bltD false .len [.p (.list ((pairsOf xs c).map item))] M = some (.p (.int (pairsOf xs c).length), M) := fun M => by
    rw [len_seq (seq_data _ _), List.length_map, List.length_map]
  have sub : (cntOf xs c : Int) - ((pairsOf xs c).length : Int) = ((wordOf xs).count c : Int) := by omega
  have wk : walkR .ov [.p (.list [.int (cntOf xs c), .int ((wordOf xs).count c)])] M = .ok ([.p (.int (cntOf xs c)), .p (.int ((wordOf xs).count c))], [(.p (.list [.int (cntOf xs c), .int ((wordOf xs).count c)]), [.p (.int (cntOf xs c)), .p (.int ((wordOf xs).count c))])]) M := rfl
  have sy : stays [((.p (.list [.int (cntOf xs c), .int ((wordOf xs).count c)]) : D), [D.p (.int (cntOf xs c)), .p (.int ((wordOf xs).count c))])] M = true := stays_one rfl
  have n1 := k12_num Γ (xi := xx) (M := M) (a := pre) (n := cntOf xs c) (x0 := some o) (x1 := some b) (x3 := sg) (x4 := some (.p (.str (sign c)))) (x5 := some (.p (.list ((xs.filter fun x => decide (x.1 = c)).map item)))) (x6 := some (.p (.list ((pairsOf xs c).map item)))) (x8 := none) (x9 := none) (x10 := none) (x11 := none) (by omega) (by omega)
  have p4 := (pad_facts (n := cntOf xs c) (by omega)).2.2.2.1
  have n2 := k12_num Γ (xi := xx) (M := M) (a := pre ++ pad4 (cntOf xs c)) (n := (wordOf xs).count c) (x0 := some o) (x1 := some b) (x3 := sg) (x4 := some (.p (.str (sign c)))) (x5 := some (.p (.list ((xs.filter fun x => decide (x.1 = c)).map item)))) (x6 := some (.p (.list ((pairsOf xs c).map item)))) (x8 := none) (x9 := none) (x10 := none) (x11 := none) (by omega) (by rw [List.length_append]; omega)
  have out : pre ++ pad4 (cntOf xs c) ++ pad4 ((wordOf xs).count c) = table12 xs (cs ++ [c]) := by
    rw [table12_snoc]
    show table12 xs cs ++ (if (!decide (table12 xs cs = [])) = true then [10] else []) ++ [c] ++ pad4 (cntOf xs c) ++ pad4 ((wordOf xs).count c) = _
    by_cases hc : cs = []
    · subst hc
      rw [if_pos rfl]
      rfl
    · rw [if_neg hc, decide_eq_false (table12_ne hc)]
      unfold line12
      simp
  rw [out] at n2
  have s3 : execS Γ xx k12l_right_2b_3 [some o, some b, some (.p (.str (txt pre))), sg, some (.p (.str (sign c))), some (.p (.list ((xs.filter fun x => decide (x.1 = c)).map item))), some (.p (.list ((pairsOf xs c).map item))), x7, none, none, none, none] M = .next [some o, some b, some (.p (.str (txt (table12 xs (cs ++ [c]))))), sg, some (.p (.str (sign c))), some (.p (.list ((xs.filter fun x => decide (x.1 = c)).map item))), some (.p (.list ((pairsOf xs c).map item))), some (.p (.int ((wordOf xs).count c : Int))), none, none, none, none] M := by
    refine (xs_for (ea_1 (ev_lst (ea_2 (ev_blt (ea_1 (ev_var (i := 5) rfl)) (e1 M)) (ev_bin (ev_blt (ea_1 (ev_var (i := 5) rfl)) (e1 M)) (ev_blt (ea_1 (ev_var (i := 6) rfl)) (e2 M)) (by rw [su_ii, sub]))) (by simp) rfl)) wk).trans ?_
    have t1 : ∀ (d : D) (x2 : Option D) (x7 : Option D), setT (.nm 7 0) d [some o, some b, x2, sg, some (.p (.str (sign c))), some (.p (.list ((xs.filter fun x => decide (x.1 = c)).map item))), some (.p (.list ((pairsOf xs c).map item))), x7, none, none, none, none] = some [some o, some b, x2, sg, some (.p (.str (sign c))), some (.p (.list ((xs.filter fun x => decide (x.1 = c)).map item))), some (.p (.list ((pairsOf xs c).map item))), some d, none, none, none, none] := fun d x2 x7 => setT_n (by simp)
    simp only [forL, sy, if_true, t1, n1, n2]
  show execB Γ xx [k12l_right_2b_0, k12l_right_2b_1, k12l_right_2b_2, k12l_right_2b_3] _ M = _
  rw [xb_cons s0, xb_cons s1, xb_cons s2, xb_cons s3, xb_nil]
theorem k12_right_ok [Has T "table_of" std_k12table_of] [Has T "tags_in" (std_tags_in false)] [Has T "view_in" (std_view_in false)] [Has T "_law_right" std_k12_law_right] [Has T "check_order" std_check_order] [Has T "sizes_in" std_sizes_in] [Has T "word_in" std_word_in] [Has T "is_order" std_is_order] [Has T "runs_in" std_runs_in] [Has T "is_item" std_is_item] [Has T "is_integer" std_is_integer] [Gl gg "MOST_ITEMS" (.int 24)] [Gl gg "MOST_TAGS" (.int 4)] [Gl gg "LETTERS" (.str letters)] [Gl gg "MOST_NUMBER" (.int 99)] (k : Nat) {o : D} {xs : Row} {M : Mem} (h : seqD M o = some (row xs)) (g : Good xs) :
    callD gg xx T (k + 6) "_law_right" [o] M = .ok (.p (.bool true)) M := by
  have few := g.few
  rw [call_has (F := std_k12_law_right) inferInstance rfl]
  have e0 := repr_seq (c := false) h g.ok (by omega)
  have e1 := table_of_ok (gg := gg) (xx := xx) (T := T) k h g
  have tl := tagNs_len xs
  have s0 : execS ⟨callD gg xx T (k + 5), gg⟩ xx k12l_right_0 [some o, none, none, none, none, none, none, none, none, none, none, none] M = .next [some o, some (.p (.str (rep xs))), some (.p (.str (txt []))), none, none, none, none, none, none, none, none, none] M := xs_par (ev_blt (ea_1 (ev_var (i := 0) rfl)) e0) ev_str (by simp) (by simp)
  have s1 : execS ⟨callD gg xx T (k + 5), gg⟩ xx k12l_right_1 [some o, some (.p (.str (rep xs))), some (.p (.str (txt []))), none, none, none, none, none, none, none, none, none] M = .next [some o, some (.p (.str (rep xs))), some (.p (.str (txt []))), some (.p (strsP (tagNs xs))), none, none, none, none, none, none, none, none] M := xs_asgc (k02_letters _ h g rfl (by simp)) (by simp)
  have sq : seqD M (.p (strsP (tagNs xs))) = some ((tagNs xs).map sgn) := by
    show some ((List.map _ (tagNs xs)).map D.p) = _
    rw [List.map_map]; rfl
  let I : Nat → Lo → Mem → Prop := fun i l M' => M' = M ∧ ∃ x4 x5 x6 x7, l = [some o, some (.p (.str (rep xs))), some (.p (.str (txt (table12 xs ((tagNs xs).take i))))), some (.p (strsP (tagNs xs))), x4, x5, x6, x7, none, none, none, none]
  obtain ⟨l', M', run, rfl, x4, x5, x6, x7, rfl⟩ := forL_inv (w := [(.p (strsP (tagNs xs)), (tagNs xs).map sgn)]) (t := .nm 4 0) (body := execB ⟨callD gg xx T (k + 5), gg⟩ xx k12l_right_2b) I (ds := (tagNs xs).map sgn) (M := M) (l := [some o, some (.p (.str (rep xs))), some (.p (.str (txt []))), some (.p (strsP (tagNs xs))), none, none, none, none, none, none, none, none])
    (by
      rintro i l M' d hd ⟨rfl, x4, x5, x6, x7, rfl⟩
      rw [List.getElem?_map] at hd
      cases e : (tagNs xs)[i]? with
      | none => rw [e] at hd; cases hd
      | some c =>
        rw [e] at hd
        have hd : sgn c = d := by simpa using hd
        subst hd
        refine ⟨stays_one (by simp only [seqOrTup, sq]), _, setT_n (by simp), ?_⟩
        obtain ⟨y5, y6, y7, e2⟩ := k12_sign (xx := xx) k (b := .p (.str (rep xs))) (cs := (tagNs xs).take i) (c := c) (sg := some (.p (strsP (tagNs xs)))) (x5 := x5) (x6 := x6) (x7 := x7) h g (by rw [List.length_take]; omega) ⟨callD gg xx T (k + 5), gg⟩
        refine ⟨_, M', .inl e2, rfl, some (.p (.str (sign c))), y5, y6, y7, ?_⟩
        rw [List.take_add_one, e, Option.toList_some])
    (fun l M' ⟨e, _⟩ => by rw [e]; exact stays_one (by simp only [seqOrTup, sq]))
    ⟨rfl, none, none, none, none, rfl⟩
  rw [List.length_map, List.take_length] at run
  have s2 := (xs_for (Γ := ⟨callD gg xx T (k + 5), gg⟩) (xi := xx) (k := .ov) (t := .nm 4 0) (body := k12l_right_2b) (ea_1 (ev_var (i := 3) rfl)) (walk_seq sq)).trans run
  have s3 : execS ⟨callD gg xx T (k + 5), gg⟩ xx k12l_right_3 [some o, some (.p (.str (rep xs))), some (.p (.str (txt (table12 xs (tagNs xs))))), some (.p (strsP (tagNs xs))), x4, x5, x6, x7, none, none, none, none] M' = .ret (.p (.bool true)) M' := by
    have t1 : evalE ⟨callD gg xx T (k + 5), gg⟩ (.cmp .Eq (.cal "table_of" [(.var 0 0)] 0 0) (.var 2 0) 0) [some o, some (.p (.str (rep xs))), some (.p (.str (txt (table12 xs (tagNs xs))))), some (.p (strsP (tagNs xs))), x4, x5, x6, x7, none, none, none, none] M' = .ok (.p (.bool true)) M' := ev_cmp (ev_cal (ea_1 (ev_var (i := 0) rfl)) e1) (ev_var (i := 2) rfl) (by rw [tx_eq, decide_eq_true rfl])
    have t2 : evalE ⟨callD gg xx T (k + 5), gg⟩ (.cmp .Eq (.blt false .repr [(.var 0 0)] 0 0) (.var 1 0) 0) [some o, some (.p (.str (rep xs))), some (.p (.str (txt (table12 xs (tagNs xs))))), some (.p (strsP (tagNs xs))), x4, x5, x6, x7, none, none, none, none] M' = .ok (.p (.bool true)) M' := ev_cmp (ev_blt (ea_1 (ev_var (i := 0) rfl)) e0) (ev_var (i := 1) rfl) (by rw [eq_ss, decide_eq_true rfl])
    refine xs_ret ?_
    simp only [evalE, evalAnd] at t1 t2 ⊢
    simp only [t1, t2, bind_ok, truB, if_true]
  have body : outR (execB ⟨callD gg xx T (k + 5), gg⟩ xx std_k12_law_right.body (startD std_k12_law_right.N [o]) M') = .ok (.p (.bool true)) M' := by
    show outR (execB _ xx [k12l_right_0, k12l_right_1, k12l_right_2, k12l_right_3] [some o, none, none, none, none, none, none, none, none, none, none, none] M') = _
    rw [xb_cons s0, xb_cons s1, xb_cons (s := k12l_right_2) s2, xb_ret s3, out_ret]
  rw [body, gc_p0]
end Mini.Std

namespace Mini.Std
open PySem PySem.Spec PyProof.Rows L2 Mini
variable {gg : Str → Option PyData} {xx : Str → Option Nat} {T : Tab} {cc : Bool}
def turns12 : Row := (List.range 24).map fun n => (97 + n % 2, (n : Int) + 1)
theorem good_turns : Good turns12 := ⟨by
  intro x hx
  obtain ⟨n, hn, rfl⟩ := List.mem_map.mp hx
  rw [List.mem_range] at hn
  exact ⟨by show 97 ≤ 97 + n % 2; omega, by show 97 + n % 2 ≤ 122; omega, by show 1 ≤ (n : Int) + 1; omega, by show (n : Int) + 1 ≤ 99; omega⟩, by decide +kernel, by decide +kernel, by decide +kernel, by decide +kernel⟩
theorem table_turns : table12 turns12 (tagNs turns12) = ("a  12  12\nb  12  12" : Str).cps.toList := by
  rw [← tagNs_letters good_turns.ok]
  decide +kernel
theorem good_z5 : Good [(122, 5)] := ⟨by intro x hx; simp at hx; rcases hx with rfl; exact ⟨by decide, by decide, by decide, by decide⟩, by decide, by decide, by decide, by decide⟩
theorem table_z5 : table12 [(122, 5)] (tagNs [(122, 5)]) = ("z   1   1" : Str).cps.toList := by
  rw [← tagNs_letters good_z5.ok]
  decide +kernel
theorem txt_tl (s : Str) : txt s.cps.toList = s := rfl
theorem k12_turns (Γ : Wd) {M : Mem} {l : Lo} (h5 : 5 < l.length) :
    evalE Γ (.lc false (.rng 0 0) [(.int 24 0)] (.nm 5 0) [] (.tup [(.ix (.str "ab" 0) (.bin false .Mod (.var 5 0) (.int 2 0) 0) 0), (.bin false .Add (.var 5 0) (.int 1 0) 0)] 0 0) [] [("", 5)] 0) l M = .ok (.p (.list (turns12.map item))) M := by
  have wk : walkR (.rng 0 0) [.p (.int 24)] M = .ok ((List.range 24).map fun (n : Nat) => D.p (.int (n : Int)), []) M := by
    rw [walk_rng1 (by unfold big; omega)]
    rfl
  have run := lcL_map (w := []) (body := lcB (evalTs Γ []) (evalE Γ (.tup [(.ix (.str "ab" 0) (.bin false .Mod (.var 5 0) (.int 2 0) 0) 0), (.bin false .Add (.var 5 0) (.int 1 0) 0)] 0 0)) (.nm 5 0) [5] l) (M := M) (fun n : Nat => D.p (.int (n : Int))) (fun _ => true) (fun n => D.p (item (97 + n % 2, (n : Int) + 1))) stays_nil (as := List.range 24) (by
    intro n hn
    have lw : 5 < (wipeL l [5]).length := by rw [wipeL_len]; exact h5
    have g5 : ((wipeL l [5]).set 5 (some (.p (.int (n : Int)))))[5]? = some (some (.p (.int (n : Int)))) := by rw [List.getElem?_set_self lw]
    have ab : ixD (.p (.str "ab")) (.p (.int ((n : Int) % 2))) M = some (.p (.str (sign (97 + n % 2))), M) := by
      rcases Nat.mod_two_eq_zero_or_one n with e | e
      · have : (n : Int) % 2 = 0 := by omega
        rw [this, e]
        exact ix_txt0 (c := 97) (ws := [98]) (by decide)
      · have : (n : Int) % 2 = 1 := by omega
        rw [this, e]
        rfl
    have := ev_tup (Γ := Γ) (l := (wipeL l [5]).set 5 (some (.p (.int (n : Int))))) (M := M) (ea_2 (ev_ix ev_str (ev_bin (c := false) (ev_var g5) ev_int (mod_ii (by decide))) ab) (ev_bin (c := false) (ev_var g5) (ev_int (i := 1)) ad_ii)) (by simp)
    exact (lcB_t (setT_n lw) et_nil this))
  have ft : (List.range 24).filter (fun _ => true) = List.range 24 := by simp
  rw [ft] at run
  have mm : (List.range 24).map (fun n => D.p (item (97 + n % 2, (n : Int) + 1))) = row turns12 := by
    unfold row turns12
    rw [List.map_map]; rfl
  rw [mm] at run
  refine ev_lc (own := [("", 5)]) (ea_1 ev_int) wk run ?_
  unfold finL
  rw [if_pos (small_n (by rw [row_len]; decide)), row_eq, giv_al, giv_f]
theorem k12_holds [Has T "table_of" std_k12table_of] [Has T "tags_in" (std_tags_in false)] [Has T "view_in" (std_view_in false)] [Has T "_law_right" std_k12_law_right] [Has T "_law_row" std__law_row] [Has T "_law_holds" std_k12_law_holds] [Has T "check_order" std_check_order] [Has T "sizes_in" std_sizes_in] [Has T "word_in" std_word_in] [Has T "_law_draw" std__law_draw] [Has T "is_order" std_is_order] [Has T "runs_in" std_runs_in] [Has T "is_item" std_is_item] [Has T "is_integer" std_is_integer] [Gl gg "MOST_ITEMS" (.int 24)] [Gl gg "MOST_TAGS" (.int 4)] [Gl gg "LETTERS" (.str letters)] [Gl gg "MOST_NUMBER" (.int 99)] (k : Nat) {m : Nat} {M : Mem} {most : Int} (p : Pool 0 m M) (h0 : 5 ≤ most) (h1 : most ≤ 24) :
    ∃ M', callD gg xx T (k + 7) "_law_holds" [.ref m, .p (.int most)] M = .ok (.p (.bool true)) M' := by
  rw [call_has (F := std_k12_law_holds) inferInstance rfl]
  obtain ⟨r, xs, M1, e1, hr, g, -, p1, ne, -⟩ := row_ok (gg := gg) (xx := xx) (T := T) (k + 4) (most := most) p (by omega) (by omega) h1
  have few := g.few
  have sr := seq_ref hr
  have e2 := k12_right_ok (gg := gg) (xx := xx) (T := T) k sr g
  obtain ⟨ys, e3, pm⟩ := sorted_row sr (by omega)
  have e4 := k12_right_ok (gg := gg) (xx := xx) (T := T) k (M := M1) (o := .p (.list (ys.map item))) (xs := ys) (by rw [row_eq]; rfl) (g.perm pm)
  have e5 := rev_seq sr
  have e6 := k12_right_ok (gg := gg) (xx := xx) (T := T) k (M := M1) (o := .p (.list (xs.reverse.map item))) (xs := xs.reverse) (by rw [row_eq]; rfl) (g.perm (List.reverse_perm xs))
  have ng : ∀ M : Mem, negD (.p (.int 1)) M = some (.p (.int (-1)), M) := fun _ => rfl
  have wk : walkR (.rng 0 0) [.p (.int 4)] M1 = .ok (rngD 0 4, []) M1 := walk_rng1 (by unfold big; omega)
  let I : Nat → Lo → Mem → Prop := fun i l M' => ∃ x3 xs, l = [some (.ref m), some (.p (.int most)), some (.ref r), x3, none, none] ∧ St (0 + 100 + 2 * i) m r xs M'
  obtain ⟨l', M2, run, y3, zs, rfl, s2⟩ := forL_inv (w := []) (t := .nm 3 0) (body := execB ⟨callD gg xx T (k + 6), gg⟩ xx k12l_holds_2b) I (ds := rngD 0 4) (M := M1) (l := [some (.ref m), some (.p (.int most)), some (.ref r), none, none, none])
    (by
      rintro i l M' d hd ⟨x3, xs, rfl, s⟩
      obtain ⟨hi, rfl⟩ := rng_get hd
      refine ⟨stays_nil, _, setT_n (by simp), ?_⟩
      obtain ⟨ys, M2, e, s2, -⟩ := move_ok (gg := gg) (xx := xx) (T := T) (k + 5) (l := [some (.ref m), some (.p (.int most)), some (.ref r), some (.p (.int (0 + i))), none, none]) s (by omega) rfl rfl
      have e2 := k12_right_ok (gg := gg) (xx := xx) (T := T) k (seq_ref s2.row) s2.good
      refine ⟨_, M2, .inl ?_, some (.p (.int (0 + i))), ys, rfl, s2⟩
      have e' : execS ⟨callD gg xx T (k + 6), gg⟩ xx k12l_holds_2b_0 [some (.ref m), some (.p (.int most)), some (.ref r), some (.p (.int (0 + i))), none, none] M' = .next [some (.ref m), some (.p (.int most)), some (.ref r), some (.p (.int (0 + i))), none, none] M2 := e
      show execB _ xx [k12l_holds_2b_0, k12l_holds_2b_1] _ M' = _
      rw [show List.set [some (.ref m), some (.p (.int most)), some (.ref r), x3, none, none] 3 (some (.p (.int (0 + i)))) = ([some (.ref m), some (.p (.int most)), some (.ref r), some (.p (.int (0 + i))), none, none] : Lo) from rfl, xb_cons e']
      exact (xb_cons (s := k12l_holds_2b_1) (xs_skip (ev_not (b := true) (ev_cal (ea_1 (ev_var (i := 2) rfl)) e2)))).trans xb_nil)
    (fun _ _ _ => stays_nil) ⟨none, xs, rfl, ⟨p1, hr, g, ne⟩⟩
  have e7 := table_of_ok (gg := gg) (xx := xx) (T := T) (k + 1) (M := M2) (o := .p (.list (turns12.map item))) (xs := turns12) (by rw [row_eq]; rfl) good_turns
  rw [table_turns, txt_tl] at e7
  have e8 := table_of_ok (gg := gg) (xx := xx) (T := T) (k + 1) (M := M2) (o := .p (.list [item (122, 5)])) (xs := [(122, 5)]) (by rw [row_eq]; rfl) good_z5
  rw [table_z5, txt_tl] at e8
  have s0 : execS ⟨callD gg xx T (k + 6), gg⟩ xx k12l_holds_0 [some (.ref m), some (.p (.int most)), none, none, none, none] M = .next [some (.ref m), some (.p (.int most)), some (.ref r), none, none, none] M1 := xs_asg (ev_cal (ea_2 (ev_var (i := 0) rfl) (ev_var (i := 1) rfl)) e1) (by simp)
  have s1 : execS ⟨callD gg xx T (k + 6), gg⟩ xx k12l_holds_1 [some (.ref m), some (.p (.int most)), some (.ref r), none, none, none] M1 = .next [some (.ref m), some (.p (.int most)), some (.ref r), none, none, none] M1 := by
    simp only [k12l_holds_1, execB, execS, evalE, evalA, evalAnd, evalOr, startD, List.map, List.cons_append, List.nil_append, List.length_cons, List.length_nil, List.replicate, Nat.reduceAdd, Nat.reduceSub, get0, getS, bind_ok, to_ok, then_next, then_ret, out_ret, out_next, ofO_some, truB, if_t, if_f, if_true, sz0, sz1, sz2, sz3, sz4, sz5, sz6, sz7, sz8, sz9, sz10, sz11, sz12, mkT1, mkT2, mkT3, al_tr, alf0, alf1, alf2, alf3, alf4, alf5, alf6, alf7, alf8, setT_nm0, List.set_cons_succ, List.set_cons_zero, Nat.reduceLT, e2, e3, e4, E.isNop, opt_t, stp_i, ng, e5, e6, Bool.not_true]
  have s2' : execS ⟨callD gg xx T (k + 6), gg⟩ xx k12l_holds_2 [some (.ref m), some (.p (.int most)), some (.ref r), none, none, none] M1 = .next [some (.ref m), some (.p (.int most)), some (.ref r), y3, none, none] M2 := (xs_for (ea_1 ev_int) wk).trans run
  have s3 : execS ⟨callD gg xx T (k + 6), gg⟩ xx k12l_holds_3 [some (.ref m), some (.p (.int most)), some (.ref r), y3, none, none] M2 = .next [some (.ref m), some (.p (.int most)), some (.ref r), y3, some (.p (.list (turns12.map item))), none] M2 := xs_asgc (k12_turns _ (by simp)) (by simp)
  have s4 : execS ⟨callD gg xx T (k + 6), gg⟩ xx k12l_holds_4 [some (.ref m), some (.p (.int most)), some (.ref r), y3, some (.p (.list (turns12.map item))), none] M2 = .ret (.p (.bool true)) M2 := by
    refine xs_ret (ev_and_t (ev_cmp (ev_cal (ea_1 (ev_var (i := 4) rfl)) e7) ev_str (by rw [eq_ss, decide_eq_true rfl])) (ev_cmp (ev_cal (ea_1 (ev_lst (ea_1 (ev_tup (ea_2 ev_str ev_int) (by simp))) (by simp) rfl)) e8) ev_str (by rw [eq_ss, decide_eq_true rfl])))
  have body : outR (execB ⟨callD gg xx T (k + 6), gg⟩ xx std_k12_law_holds.body (startD std_k12_law_holds.N [.ref m, .p (.int most)]) M) = .ok (.p (.bool true)) M2 := by
    show outR (execB _ xx [k12l_holds_0, k12l_holds_1, k12l_holds_2, k12l_holds_3, k12l_holds_4] [some (.ref m), some (.p (.int most)), none, none, none, none] M) = _
    rw [xb_cons s0, xb_cons s1, xb_cons s2', xb_cons s3, xb_ret s4, out_ret]
  rw [body]
  exact gc_any _ _ _
end Mini.Std

namespace Mini.Law
open PySem PySem.Spec PyProof.Rows L2 Mini
def top (i : Nat) : Stmt := PySem.Challenge.pw_filterdrag_k12_tables.main.body.getD i (.Pass ⟨0, 0, 0, 0⟩)
def fn_is_integer : Fn := ⟨3, ["value", "least", "most"], [
  .ret (.and [(.isi (.var 0 825002868763) .int 825120309280 824818319381 824818319393), (.not (.isi (.var 0 825539739707) .bool 825657180225 825355190325 825355190338) 825288081474), (.chn .LtE .LtE (.var 1 825858506830) (.var 0 826009501783) (.var 2 826160496735) 825858506847)] 824818319456) 824700878944]⟩
def fn_is_item : Fn := ⟨1, ["value"], [
  .ite (.or [(.not (.isi (.var 0 962441830427) .tuple 962559270946 962257281045 962257281059) 962190172195), (.cmp .NotEq (.blt false .len [(.var 0 962794151984)] 962727043114 962727043121) (.int 2 962961924150) 962727043126), (.not (.isi (.ix (.var 0 963314245711) (.int 0 963414909009) 963314245714) .str 963482017879 963129696329 963129696344) 963062587480)] 962190172249) [
    .ret (.bl false 1031043870740) 1030926430228] [] 962139844628,
  .ret (.and [(.cmp .Eq (.blt false .len [(.ix (.var 0 1099763351572) (.int 0 1099864014870) 1099763351575)] 1099696242702 1099696242712) (.int 1 1099981455389) 1099696242717), (.cmp .In (.ix (.var 0 1100082118695) (.int 0 1100182781993) 1100082118698) (.glb "LETTERS" 1100283445301) 1100082118709), (.cal "is_integer" [(.ix (.var 0 1100669321290) (.int 1 1100769984588) 1100669321293), (.int 1 1100837093456), (.glb "MOST_NUMBER" 1100887425117)] 1100484771908 1100484771934)] 1099696242782) 1099578802270]⟩
def fn_tags_in : Fn := ⟨1, ["order", "tag", "number"], [
  .ret (.ssc false .ov [(.var 0 1237655298095)] (.tp [(.nm 1 1237403639838), (.nm 2 1237487525926)] 0 1237403639846) [] (.var 1 1237269422102) [(".0", .local), ("tag", .local), ("number", .local)] [("tag", 1), ("number", 2)] 1237252644912 1237135204369 1237135204401) 1237017763889]⟩
def fn_is_order : Fn := ⟨1, ["value", "item"], [
  .ite (.or [(.not (.isi (.var 0 1374758715419) .list 1374876155937 1374574166037 1374574166050) 1374507057186), (.not (.chn .LtE .LtE (.int 1 1375094259755) (.blt false .len [(.var 0 1375245254712)] 1375178145842 1375178145849) (.glb "MOST_ITEMS" 1375413026887) 1375094259783) 1375027150919)] 1374507057223) [
    .ret (.bl false 1443360755732) 1443243315220] [] 1374456729620,
  .ite (.not (.blt false .all [(.lc false .ov [(.var 0 1512533221423)] (.nm 1 1512399003686) [] (.cal "is_item" [(.var 1 1512231231516)] 1512097013783 1512097013789) [(".0", .local), ("item", .local), ("is_item", .globalImplicit)] [("item", 1)] 1512080236592)] 1512013127694 1512013127729) 1511946018865) [
    .ret (.bl false 1580799717396) 1580682276884] [] 1511895691284,
  .ret (.and [(.cmp .Eq (.nst (.var 0 1649586307096) 1649519198226 1649519198233 1649452089358 1649452089370) (.blt false .len [(.var 0 1649837965351)] 1649770856481 1649770856488) 1649452089384), (.cmp .LtE (.blt false .len [(.cal "tags_in" [(.var 0 1650223841342)] 1650089623608 1650089623615)] 1650022514736 1650022514752) (.glb "MOST_TAGS" 1650408390733) 1650022514765)] 1649452089421) 1649334648909]⟩
def fn_check_order : Fn := ⟨1, ["order"], [
  .ite (.not (.cal "is_order" [(.var 0 1787042045977)] 1786891051027 1786891051034) 1786823942170) [
    .rse "InvalidOrderError" "not an order" 1855660863519 1855962853422 1855660863535 1855560200239] [] 1786773614639]⟩
def fn_view_in : Fn := ⟨2, ["order", "tag", "item"], [
  .ret (.lc false .ov [(.var 0 1993351483426)] (.nm 2 1993217265689) [(.cmp .Eq (.ix (.var 2 1993502478378) (.int 0 1993586364460) 1993502478381) (.var 1 1993687027764) 1993502478388)] (.var 2 1993066270736) [(".0", .local), ("item", .local), ("tag", .free)] [("item", 2)] 1993049493557) 1992932053045]⟩
def fn_runs_in : Fn := ⟨1, ["order", "found", "item"], [
  .asg (.nm 1 2130371014665) (.lst true [] 2130505232398) 2130371014670,
  .for_ .ov [(.var 0 2199291822101)] (.nm 2 2199157604364) [
    .ite (.and [(.cmp .NotEq (.var 1 2267927416848) (.lst false [] 2268078411798) 2267927416854), (.cmp .Eq (.ix (.ix (.ix (.var 1 2268195852320) (.neg (.int 1 2268313292835) 2268296515619) 2268195852324) (.neg (.int 1 2268380401703) 2268363624487) 2268195852328) (.int 0 2268430733354) 2268195852331) (.ix (.var 2 2268531396659) (.int 0 2268615282741) 2268531396662) 2268195852342)] 2267927416886) [
      .exp (.mth false (.ix (.var 1 2336663674897) (.neg (.int 1 2336781115412) 2336764338196) 2336663674901) .append [(.var 2 2336948887585)] 2336663674908 2336663674914) 2336663674914] [
      .exp (.mth false (.var 1 2474102636561) .append [(.lst true [(.var 2 2474337517598)] 2474320740383)] 2474102636568 2474102636576) 2474102636576] 2267877097504] 2199090511904,
  .ret (.var 1 2542805340176) 2542687899664]⟩
def fn_word_in : Fn := ⟨1, ["order", "run"], [
  .ret (.mth false (.str "" 2680244301837) .join [(.lc false .ov [(.cal "runs_in" [(.var 0 2680881836086)] 2680747618352 2680747618359)] (.nm 1 2680630177829) [] (.ix (.ix (.var 1 2680395296791) (.int 0 2680462405657) 2680395296794) (.int 0 2680512737308) 2680395296797) [(".0", .local), ("run", .local)] [("run", 1)] 2680378519608)] 2680244301842 2680244301881) 2680126861369]⟩
def fn_sizes_in : Fn := ⟨1, ["order", "tag"], [
  .ret (.dcp .ov [(.cal "tags_in" [(.var 0 2818522124354)] 2818387906620 2818387906627)] (.nm 1 2818270466097) [] (.var 1 2817700040719) (.blt false .len [(.cal "view_in" [(.var 0 2817985253410), (.var 1 2818102693927)] 2817851035676 2817851035688)] 2817783926804 2817783926825) [(".0", .local), ("tag", .local), ("len", .globalImplicit), ("view_in", .globalImplicit), ("order", .free)] [("tag", 1)] 2817683263556) 2817565823044]⟩
def fn_table_of : Fn := ⟨1, ["order", "word", "tag", "many"], [
  .exp (.cal "check_order" [(.var 0 3023925592085)] 3023724265487 3023724265494) 3023724265494,
  .asg (.nm 1 3092443746312) (.cal "word_in" [(.var 0 3092695404568)] 3092561186834 3092561186841) 3092443746329,
  .ret (.mth false (.str "\n" 3161280667663) .join [(.lc false (.itm 3162387964002 3162387964004) [(.cal "sizes_in" [(.var 0 3162538958939)] 3162387963989 3162387963996)] (.tp [(.nm 2 3162169860163), (.nm 3 3162253746249)] 0 3162169860169) [] (.fst (.fmt (.var 2 3161515548700) 3161498771485) (.ext .fm4 [(.var 3 3161599434786)] [3161683320869, 3161666543653, 3161582657574]) [(.ext .fm4 [(.mth false (.var 1 3161750429739) .count [(.var 2 3161934979125)] 3161750429745 3161750429750)] [3162018865209, 3162002087993, 3161733652538])] 3161465217083) [(".0", .local), ("tag", .local), ("many", .local), ("word", .free)] [("tag", 2), ("many", 3)] 3161448439909)] 3161280667668 3161280667750) 3161163227238]⟩
def fn__law_source : Fn := ⟨2, ["_law_cell", "_law_k"], [
  .ret (.lst true [(.blt false .max [(.int 0 3367522996241), (.bin false .Sub (.var 0 3367573327900) (.bin false .Pow (.int 10 3367774654497) (.int 18 3367875317799) 3367774654503) 3367573327911)] 3367455887375 3367455887400), (.bin false .Add (.bin false .Mult (.bin false .Mod (.var 0 3367959203891) (.bin false .Add (.bin false .Pow (.int 10 3368177307705) (.int 34 3368277971007) 3368177307711) (.int 193 3368361857093) 3368177307717) 3367959203910) (.int 101 3368479297612) 3367959203916) (.var 1 3368579960917) 3367959203925), (.int 0 3368714178648)] 3367439110233) 3367321669721]⟩
def fn__law_draw : Fn := ⟨2, ["_law_source_here", "_law_count", "_law_digit", "_law_mixed"], [
  .ite (.cmp .Gt (.ix (.var 0 3504810962967) (.int 0 3505096175641) 3504810962970) (.int 0 3505180061726) 3504810962974) [
    .asg (.nm 2 3573547221010) (.bin false .Mod (.ix (.var 0 3573765324837) (.int 0 3574050537511) 3573765324840) (.var 1 3574134423605) 3573765324853) 3573547221045,
    .set (.var 0 3642266701848) (.int 0 3642551914522) (.bin false .FloorDiv (.ix (.var 0 3642635800622) (.int 0 3642921013296) 3642635800625) (.var 1 3643021676607) 3642635800639) 3642266701851 3642266701887,
    .ret (.var 2 3711103623193) 3710986182681] [] 3504760643609,
  .set (.var 0 3779638554644) (.int 2 3779923767318) (.bin false .Add (.ix (.var 0 3780007653418) (.int 2 3780292866092) 3780007653421) (.int 1 3780376752177) 3780007653425) 3779638554647 3779638554673,
  .asg (.nm 3 3848358035470) (.bin false .Mod (.bin false .Pow (.bin false .Add (.ix (.var 0 3848592916514) (.int 1 3848878129188) 3848592916517) (.bin false .Mult (.int 940031 3848962015278) (.ix (.var 0 3849113010241) (.int 2 3849398222915) 3849113010244) 3848962015300) 3848592916548) (.int 3 3849515663434) 3848576139338) (.bin false .Add (.bin false .Pow (.int 10 3849599549520) (.int 37 3849700212822) 3849599549526) (.int 43 3849784098907) 3849599549531) 3848576139356) 3848358035548,
  .asg (.nm 3 3917077516302) (.bin false .Mod (.bin false .Pow (.bin false .Add (.var 3 3917312397340) (.bin false .Mult (.int 79 3917530501153) (.ix (.var 0 3917614387252) (.int 2 3917899599926) 3917614387255) 3917530501175) 3917312397367) (.int 3 3918017040445) 3917295620157) (.bin false .Add (.bin false .Pow (.int 10 3918100926531) (.int 38 3918201589833) 3918100926537) (.int 133 3918285475919) 3918100926543) 3917295620176) 3917077516368,
  .ret (.bin false .Mod (.bin false .FloorDiv (.var 3 3985914437653) (.int 65629 3986149318686) 3985914437662) (.var 1 3986283536427) 3985914437675) 3985796997163]⟩
def fn__law_row : Fn := ⟨2, ["_law_source_here", "_law_most", "_law_many", "_law_letters", "_law_step", "_law_signs", "_law_wide", "_law_style", "_law_found", "_law_left", "_law_sign", "_law_some"], [
  .asg (.nm 2 4123235958797) (.ix (.lst false [(.bin false .Add (.int 1 4123454062610) (.cal "_law_draw" [(.var 0 4123688943663), (.var 1 4123990933562)] 4123521171486 4123521171515) 4123454062651), (.bin false .Add (.int 1 4124192260158) (.cal "_law_draw" [(.var 0 4124427141211), (.blt false .min [(.var 1 4124796239978), (.int 6 4124980789357)] 4124729131104 4124729131118)] 4124259369034 4124259369071) 4124192260207), (.var 1 4125064675450)] 4123437285499) (.cal "_law_draw" [(.var 0 4125416997014), (.int 3 4125718986905)] 4125249224837 4125249224858) 4123437285531) 4123235958939,
  .asg (.nm 3 4191955439632) (.blt true .list [(.str "abcdefghijklmnopqrstuvwxyz" 4192290983988)] 4192207097879 4192207097909) 4191955439669,
  .asgc 5 4260674920462 (.lc false (.rng 4262285533289 4262285533325) [(.bin false .Add (.int 1 4262386196587) (.cal "_law_draw" [(.var 0 4262621077640), (.int 4 4262923067531)] 4262453305463 4262453305484) 4262386196620)] (.nm 4 4262067429472) [] (.mth false (.var 3 4260909801502) .pop [(.cal "_law_draw" [(.var 0 4261362786365), (.blt false .len [(.var 3 4261731885135)] 4261664776258 4261664776272)] 4261195014188 4261195014225)] 4260909801506 4260909801554) [(".0", .local), ("_law_step", .local), ("_law_draw", .globalImplicit), ("len", .globalImplicit), ("_law_letters", .free), ("_law_source_here", .free)] [("_law_step", 4)] 4260893024398) 4260674920590,
  .asg (.tp [(.nm 6 4329394401293), (.nm 7 4329578950681), (.nm 8 4329780277285), (.nm 9 4329981603888)] 0 4329394401328) (.tup [(.ix (.lst false [(.int 99 4330216484919), (.int 24 4330283593787)] 4330199707708) (.cal "_law_draw" [(.var 0 4330518474839), (.int 2 4330820464730)] 4330350702662 4330350702683) 4330199707740), (.cal "_law_draw" [(.var 0 4331072123000), (.int 4 4331374112891)] 4330904350823 4330904350844), (.lst true [] 4331441221760), (.dc0 4331508330628)] 0 4330182930565) 4329394401413,
  .for_ .ov [(.var 5 4398399094815)] (.nm 10 4398180990993) [
    .set (.var 9 4466900471825) (.var 10 4467068243995) (.lrg true [(.int 1 4467470897195), (.bin false .Add (.var 6 4467521228854) (.int 1 4467722555450) 4467521228858)] 4467370233897 4467370233915 4467286347811 4467286347836) 4466900471836 4466900471868] 4398113886268,
  .for_ (.rng 4535838056474 4535838056485) [(.var 2 4535938719780)] (.nm 4 4535619952657) [
    .asg (.nm 11 4604339433489) (.lst true [(.cal "_law_draw" [(.var 0 4604725309487), (.blt false .len [(.var 5 4605094408255)] 4605027299380 4605027299392)] 4604557537310 4604557537345), (.bin false .Mod (.var 4 4605329289292) (.blt false .len [(.var 5 4605597724765)] 4605530615890 4605530615902) 4605329289310), (.bin false .FloorDiv (.bin false .Mult (.var 4 4605815828585) (.blt false .len [(.var 5 4606084264058)] 4606017155183 4606017155195) 4605815828603) (.var 2 4606335922312) 4605815828616)] 4604540760201) 4604339433609,
    .exp (.mth false (.var 11 4673058914321) .append [(.bin false .Mult (.ix (.var 11 4673344127010) (.int 0 4673511899172) 4673344127013) (.blt false .int [(.cmp .Eq (.cal "_law_draw" [(.var 0 4673830666310), (.int 4 4674132656201)] 4673662894133 4673662894154) (.int 0 4674233319503) 4673662894159)] 4673595785259 4673595785296) 4673344127056)] 4673058914328 4673058914385) 4673058914385,
    .asg (.nm 10 4741778395153) (.ix (.var 5 4741979721758) (.ix (.var 11 4742164271144) (.var 7 4742332043315) 4742164271156) 4741979721781) 4741778395189,
    .exp (.mth false (.var 8 4810497875986) .append [(.tup [(.var 10 4810816643108), (.mth false (.ix (.var 9 4811001192495) (.var 10 4811168964665) 4811001192506) .pop [(.cal "_law_draw" [(.var 0 4811588395097), (.blt false .len [(.ix (.var 9 4811957493864) (.var 10 4812125266034) 4811957493875)] 4811890384990 4811890385012)] 4811420622920 4811420622965)] 4811001192510 4811001192566)] 0 4810799865975)] 4810497875993 4810497876088) 4810497876088] 4535552860280,
  .ret (.var 8 4879267688469) 4879150247957]⟩
def fn__law_right : Fn := ⟨1, ["_law_row_here", "_law_before", "_law_due", "_law_signs", "_law_sign", "_law_things", "_law_pairs", "_law_many", "_law_letter", "_law_thing", "_law_one", "_law_two"], [
  .par 1 2 5016589209615 5016807313433 0 5016589209625 (.blt false .repr [(.var 0 5017092526127)] 5017008640033 5017008640048) (.str "" 5017360961588) 0 5016991862837 5016589209653,
  .asgc 3 5085308690446 (.lc false .ov [(.str "abcdefghijklmnopqrstuvwxyz" 5086063665229)] (.nm 8 5085812006957) [(.cmp .In (.var 8 5086600536156) (.lc false .ov [(.var 0 5087405842574)] (.nm 9 5087170961533) [] (.ix (.var 9 5086868971627) (.int 0 5087053521005) 5086868971630) [(".0", .local), ("_law_thing", .local)] [("_law_thing", 9)] 5086852194447) 5086600536207)] (.var 8 5085543571485) [(".0", .local), ("_law_letter", .local), ("_law_row_here", .free)] [("_law_letter", 8)] 5085526794384) 5085308690576,
  .for_ .ov [(.var 3 5154313383967)] (.nm 4 5154095280145) [
    .asgc 5 5222814760979 (.lc false .ov [(.var 0 5223552958529)] (.nm 9 5223318077488) [(.cmp .Eq (.ix (.var 9 5223838171215) (.int 0 5224022720593) 5223838171218) (.var 4 5224123383903) 5223838171231)] (.var 9 5223066419233) [(".0", .local), ("_law_thing", .local), ("_law_sign", .free)] [("_law_thing", 9)] 5223049642080) 5222814761056,
    .asgc 6 5291534241810 (.lc false (.zip 5292356325436 5292356325470) [(.var 0 5292423434314), (.sl false (.var 0 5292675092569) (.int 1 5292909973595) .nop 5292909973596 5292675092573)] (.tp [(.nm 10 5291987226667), (.nm 11 5292154998837)] 0 5291987226677) [(.and [(.cmp .Eq (.ix (.var 10 5293044191338) (.int 0 5293195186284) 5293044191341) (.var 4 5293295849594) 5293044191354), (.cmp .Eq (.ix (.var 11 5293530730631) (.int 0 5293681725577) 5293530730634) (.var 4 5293782388887) 5293530730647)] 5293044191383)] (.var 10 5291769122846) [(".0", .local), ("_law_one", .local), ("_law_two", .local), ("_law_sign", .free)] [("_law_one", 10), ("_law_two", 11)] 5291752345752) 5291534241944,
    .asg (.nm 2 5360253722640) (.bin false .Add (.bin false .Add (.var 2 5360438272027) (.bin false .Mult (.str "\n" 5360622821410) (.blt false .int [(.cmp .NotEq (.var 2 5360807370801) (.str "" 5361008697399) 5360807370807)] 5360740261928 5360740261944) 5360622821432) 5360438272056) (.var 4 5361109360708) 5360438272068) 5360253722692,
    .for_ .ov [(.lst false [(.blt false .len [(.var 5 5429342302249)] 5429275193373 5429275193386), (.bin false .Sub (.blt false .len [(.var 5 5429644292155)] 5429577183279 5429577183292) (.blt false .len [(.var 6 5429963059277)] 5429895950402 5429895950414) 5429577183310)] 5429258416207)] (.nm 7 5429040312341) [
      .asg (.nm 2 5497759793172) (.bin false .Add (.bin false .Add (.var 2 5497944342559) (.bin false .Mult (.str " " 5498128891941) (.bin false .Sub (.int 4 5498246332458) (.blt false .len [(.blt false .str [(.var 7 5498447659070)] 5498380550196 5498380550207)] 5498313441328 5498313441344) 5498246332480) 5498128891969) 5497944342593) (.blt false .str [(.var 7 5498766426193)] 5498699317319 5498699317330) 5497944342610) 5497759793234] 5428973207634] 5154028191826,
  .ret (.and [(.cmp .Eq (.cal "table_of" [(.var 0 5566613491745)] 5566462496787 5566462496802) (.var 2 5566915481646) 5566462496814), (.cmp .Eq (.cal "table_of" [(.var 0 5567284580425)] 5567133585467 5567133585482) (.var 2 5567586570326) 5567133585494), (.cmp .Eq (.blt false .repr [(.var 0 5567905337454)] 5567821451360 5567821451375) (.var 1 5568207327358) 5567821451390)] 5566462496895) 5566345056383]⟩
def fn__law_holds : Fn := ⟨2, ["_law_source_here", "_law_most", "_law_row_here", "_law_step", "_law_turns", "_law_number"], [
  .asg (.nm 2 5703784017937) (.cal "_law_row" [(.var 0 5704203448365), (.var 1 5704505438264)] 5704052453404 5704052453433) 5703784017977,
  .ite (.or [(.not (.cal "_law_right" [(.var 2 5772805488675)] 5772620939285 5772620939300) 5772553830436), (.not (.cal "_law_right" [(.blt false .sorted [(.var 2 5773476577355)] 5773359136829 5773359136844)] 5773174587446 5773174587469) 5773107478605), (.not (.cal "_law_right" [(.sls false (.var 2 5774063779950) .nop .nop (.neg (.int 1 5774348992627) 5774332215411) 5774298660979 5774063779956)] 5773879230560 5773879230581) 5773812121717)] 5772553830518) [
    .ret (.bl false 5841407528980) 5841290088468] [] 5772503502868,
  .for_ (.rng 5910227673114 5910227673117) [(.int 4 5910328336412)] (.nm 3 5910009569297) [
    .exp (.mth false (.var 2 5978729050133) .insert [(.cal "_law_draw" [(.var 0 5979249143863), (.blt false .len [(.var 2 5979618242634)] 5979551133756 5979551133771)] 5979081371686 5979081371724), (.mth false (.var 2 5979903455323) .pop [(.cal "_law_draw" [(.var 0 5980373217402), (.blt false .len [(.var 2 5980742316173)] 5980675207295 5980675207310)] 5980205445225 5980205445263)] 5979903455327 5979903455376)] 5978729050140 5978729050257) 5978729050257,
    .ite (.not (.cal "_law_right" [(.var 2 6047750520871)] 6047565971481 6047565971496) 6047498862632) [
      .ret (.bl false 6116352561176) 6116235120664] [] 6047448535064] 5909942472728,
  .asgc 4 6184820383758 (.lc false (.rng 6186061897811 6186061897815) [(.int 24 6186162561110)] (.nm 5 6185810239562) [] (.tup [(.ix (.str "ab" 6185072042007) (.bin false .Mod (.var 5 6185155928099) (.int 2 6185390809127) 6185155928103) 6185072042024), (.bin false .Add (.var 5 6185457918005) (.int 1 6185692799033) 6185457918009)] 0 6185055264826) [(".0", .local), ("_law_number", .local)] [("_law_number", 5)] 6185038487640) 6184820383832,
  .ret (.and [(.cmp .Eq (.cal "table_of" [(.var 4 6253808300062)] 6253657305107 6253657305119) (.str "a  12  12\nb  12  12" 6254059958329) 6253657305145), (.cmp .Eq (.cal "table_of" [(.lst false [(.tup [(.str "z" 6254697492556), (.int 5 6254781378639)] 0 6254680715344)] 6254663938129)] 6254512943174 6254512943186) (.str "z   1   1" 6254915596385) 6254512943201)] 6253657305185) 6253539864673]⟩
def fn_law : Fn := ⟨1, ["_law_script", "_law_k", "_law_cell"], [
  .for_ (.enu 6391398256678 6391398256735) [(.sl false (.bin false .Add (.var 0 6391582806067) (.lst false [(.int 0 6391834464312)] 6391817687097) 6391582806073) .nop (.blt false .max [(.int 1 6391985459265), (.blt false .min [(.blt false .len [(.var 0 6392170008662)] 6392102899786 6392102899799), (.int 16 6392404889691)] 6392035790918 6392035790940)] 6391918350399 6391918350429) 6391901573213 6391566028894)] (.tp [(.nm 1 6391045935118), (.nm 2 6391180152857)] 0 6391045935129) [
    .ite (.not (.cal "_law_holds" [(.cal "_law_source" [(.var 2 6460268732463), (.var 1 6460453281847)] 6460067405861 6460067405880), (.ife (.cmp .Eq (.var 0 6460688162890) (.lst false [] 6460939821136) 6460688162896) (.int 5 6460604276795) (.int 24 6461074038872) 6460604276824)] 6459882856473 6459882856537) 6459815747673) [
      .ret (.bl false 6528669446168) 6528552005656] [] 6459765420056] 6390978834456,
  .ret (.bl true 6597254709263) 6597137268751]⟩
def tab : Tab := [("is_integer", fn_is_integer), ("is_item", fn_is_item), ("tags_in", fn_tags_in), ("is_order", fn_is_order), ("check_order", fn_check_order), ("view_in", fn_view_in), ("runs_in", fn_runs_in), ("word_in", fn_word_in), ("sizes_in", fn_sizes_in), ("table_of", fn_table_of), ("_law_source", fn__law_source), ("_law_draw", fn__law_draw), ("_law_row", fn__law_row), ("_law_right", fn__law_right), ("_law_holds", fn__law_holds), ("law", fn_law)]
def xtab : List (Str × Nat) := [("FilterdragError", 0), ("InvalidOrderError", 1)]
def gtab : List (Str × PyData) := [("LETTERS", .str "abcdefghijklmnopqrstuvwxyz"), ("MOST_NUMBER", .int 99), ("MOST_ITEMS", .int 24), ("MOST_TAGS", .int 4)]
abbrev xi : Str → Option Nat := fun x => xtab.lookup x
abbrev glb : Str → Option PyData := fun x => gtab.lookup x
theorem ast_is_integer : defBody (top 8) = S.asts fn_is_integer.N fn_is_integer.body := by rfl
theorem ok_is_integer : S.oks tab.fns xi fn_is_integer.N (defScope (top 8)) fn_is_integer.body = true := by decide +kernel
theorem sc_is_integer : FnScope fn_is_integer.N ["value", "least", "most"] (defScope (top 8)) := ⟨rfl, rfl, rfl, by decide +kernel, rfl, by decide +kernel, by decide +kernel⟩
theorem ast_is_item : defBody (top 9) = S.asts fn_is_item.N fn_is_item.body := by rfl
theorem ok_is_item : S.oks tab.fns xi fn_is_item.N (defScope (top 9)) fn_is_item.body = true := by decide +kernel
theorem sc_is_item : FnScope fn_is_item.N ["value"] (defScope (top 9)) := ⟨rfl, rfl, rfl, by decide +kernel, rfl, by decide +kernel, by decide +kernel⟩
theorem ast_tags_in : defBody (top 10) = S.asts fn_tags_in.N fn_tags_in.body := by rfl
theorem ok_tags_in : S.oks tab.fns xi fn_tags_in.N (defScope (top 10)) fn_tags_in.body = true := by decide +kernel
theorem sc_tags_in : FnScope fn_tags_in.N ["order"] (defScope (top 10)) := ⟨rfl, rfl, rfl, by decide +kernel, rfl, by decide +kernel, by decide +kernel⟩
theorem ast_is_order : defBody (top 11) = S.asts fn_is_order.N fn_is_order.body := by rfl
theorem ok_is_order : S.oks tab.fns xi fn_is_order.N (defScope (top 11)) fn_is_order.body = true := by decide +kernel
theorem sc_is_order : FnScope fn_is_order.N ["value"] (defScope (top 11)) := ⟨rfl, rfl, rfl, by decide +kernel, rfl, by decide +kernel, by decide +kernel⟩
theorem ast_check_order : defBody (top 12) = S.asts fn_check_order.N fn_check_order.body := by rfl
theorem ok_check_order : S.oks tab.fns xi fn_check_order.N (defScope (top 12)) fn_check_order.body = true := by decide +kernel
theorem sc_check_order : FnScope fn_check_order.N ["order"] (defScope (top 12)) := ⟨rfl, rfl, rfl, by decide +kernel, rfl, by decide +kernel, by decide +kernel⟩
theorem ast_view_in : defBody (top 13) = S.asts fn_view_in.N fn_view_in.body := by rfl
theorem ok_view_in : S.oks tab.fns xi fn_view_in.N (defScope (top 13)) fn_view_in.body = true := by decide +kernel
theorem sc_view_in : FnScope fn_view_in.N ["order", "tag"] (defScope (top 13)) := ⟨rfl, rfl, rfl, by decide +kernel, rfl, by decide +kernel, by decide +kernel⟩
theorem ast_runs_in : defBody (top 14) = S.asts fn_runs_in.N fn_runs_in.body := by rfl
theorem ok_runs_in : S.oks tab.fns xi fn_runs_in.N (defScope (top 14)) fn_runs_in.body = true := by decide +kernel
theorem sc_runs_in : FnScope fn_runs_in.N ["order"] (defScope (top 14)) := ⟨rfl, rfl, rfl, by decide +kernel, rfl, by decide +kernel, by decide +kernel⟩
theorem ast_word_in : defBody (top 15) = S.asts fn_word_in.N fn_word_in.body := by rfl
theorem ok_word_in : S.oks tab.fns xi fn_word_in.N (defScope (top 15)) fn_word_in.body = true := by decide +kernel
theorem sc_word_in : FnScope fn_word_in.N ["order"] (defScope (top 15)) := ⟨rfl, rfl, rfl, by decide +kernel, rfl, by decide +kernel, by decide +kernel⟩
theorem ast_sizes_in : defBody (top 16) = S.asts fn_sizes_in.N fn_sizes_in.body := by rfl
theorem ok_sizes_in : S.oks tab.fns xi fn_sizes_in.N (defScope (top 16)) fn_sizes_in.body = true := by decide +kernel
theorem sc_sizes_in : FnScope fn_sizes_in.N ["order"] (defScope (top 16)) := ⟨rfl, rfl, rfl, by decide +kernel, rfl, by decide +kernel, by decide +kernel⟩
theorem ast_table_of : defBody (top 18) = S.asts fn_table_of.N fn_table_of.body := by rfl
theorem ok_table_of : S.oks tab.fns xi fn_table_of.N (defScope (top 18)) fn_table_of.body = true := by decide +kernel
theorem sc_table_of : FnScope fn_table_of.N ["order"] (defScope (top 18)) := ⟨rfl, rfl, rfl, by decide +kernel, rfl, by decide +kernel, by decide +kernel⟩
theorem ast__law_source : defBody (top 20) = S.asts fn__law_source.N fn__law_source.body := by rfl
theorem ok__law_source : S.oks tab.fns xi fn__law_source.N (defScope (top 20)) fn__law_source.body = true := by decide +kernel
theorem sc__law_source : FnScope fn__law_source.N ["_law_cell", "_law_k"] (defScope (top 20)) := ⟨rfl, rfl, rfl, by decide +kernel, rfl, by decide +kernel, by decide +kernel⟩
theorem ast__law_draw : defBody (top 21) = S.asts fn__law_draw.N fn__law_draw.body := by rfl
theorem ok__law_draw : S.oks tab.fns xi fn__law_draw.N (defScope (top 21)) fn__law_draw.body = true := by decide +kernel
theorem sc__law_draw : FnScope fn__law_draw.N ["_law_source_here", "_law_count"] (defScope (top 21)) := ⟨rfl, rfl, rfl, by decide +kernel, rfl, by decide +kernel, by decide +kernel⟩
theorem ast__law_row : defBody (top 22) = S.asts fn__law_row.N fn__law_row.body := by rfl
theorem ok__law_row : S.oks tab.fns xi fn__law_row.N (defScope (top 22)) fn__law_row.body = true := by decide +kernel
theorem sc__law_row : FnScope fn__law_row.N ["_law_source_here", "_law_most"] (defScope (top 22)) := ⟨rfl, rfl, rfl, by decide +kernel, rfl, by decide +kernel, by decide +kernel⟩
theorem ast__law_right : defBody (top 23) = S.asts fn__law_right.N fn__law_right.body := by rfl
theorem ok__law_right : S.oks tab.fns xi fn__law_right.N (defScope (top 23)) fn__law_right.body = true := by decide +kernel
theorem sc__law_right : FnScope fn__law_right.N ["_law_row_here"] (defScope (top 23)) := ⟨rfl, rfl, rfl, by decide +kernel, rfl, by decide +kernel, by decide +kernel⟩
theorem ast__law_holds : defBody (top 24) = S.asts fn__law_holds.N fn__law_holds.body := by rfl
theorem ok__law_holds : S.oks tab.fns xi fn__law_holds.N (defScope (top 24)) fn__law_holds.body = true := by decide +kernel
theorem sc__law_holds : FnScope fn__law_holds.N ["_law_source_here", "_law_most"] (defScope (top 24)) := ⟨rfl, rfl, rfl, by decide +kernel, rfl, by decide +kernel, by decide +kernel⟩
theorem ast_law : defBody (top 25) = S.asts fn_law.N fn_law.body := by rfl
theorem ok_law : S.oks tab.fns xi fn_law.N (defScope (top 25)) fn_law.body = true := by decide +kernel
theorem sc_law : FnScope fn_law.N ["_law_script"] (defScope (top 25)) := ⟨rfl, rfl, rfl, by decide +kernel, rfl, by decide +kernel, by decide +kernel⟩
theorem tab_nd : (tab.map (·.1)).Nodup := by decide +kernel
end Mini.Law

namespace Mini.Law
open PySem PySem.Spec PyProof.Rows L2 Mini Mini.Std
instance : Has tab "is_integer" std_is_integer := ⟨fn_is_integer, rfl, rfl, rfl, rfl⟩
instance : Has tab "is_item" std_is_item := ⟨fn_is_item, rfl, rfl, rfl, rfl⟩
instance : Has tab "tags_in" (std_tags_in false) := ⟨fn_tags_in, rfl, rfl, rfl, rfl⟩
instance : Has tab "is_order" std_is_order := ⟨fn_is_order, rfl, rfl, rfl, rfl⟩
instance : Has tab "check_order" std_check_order := ⟨fn_check_order, rfl, rfl, rfl, rfl⟩
instance : Has tab "view_in" (std_view_in false) := ⟨fn_view_in, rfl, rfl, rfl, rfl⟩
instance : Has tab "runs_in" std_runs_in := ⟨fn_runs_in, rfl, rfl, rfl, rfl⟩
instance : Has tab "word_in" std_word_in := ⟨fn_word_in, rfl, rfl, rfl, rfl⟩
instance : Has tab "sizes_in" std_sizes_in := ⟨fn_sizes_in, rfl, rfl, rfl, rfl⟩
instance : Has tab "table_of" std_k12table_of := ⟨fn_table_of, rfl, rfl, rfl, rfl⟩
instance : Has tab "_law_source" std__law_source := ⟨fn__law_source, rfl, rfl, rfl, rfl⟩
instance : Has tab "_law_draw" std__law_draw := ⟨fn__law_draw, rfl, rfl, rfl, rfl⟩
instance : Has tab "_law_row" std__law_row := ⟨fn__law_row, rfl, rfl, rfl, rfl⟩
instance : Has tab "_law_right" std_k12_law_right := ⟨fn__law_right, rfl, rfl, rfl, rfl⟩
instance : Has tab "_law_holds" std_k12_law_holds := ⟨fn__law_holds, rfl, rfl, rfl, rfl⟩
instance : Has tab "law" (std_law 16) := ⟨fn_law, rfl, rfl, rfl, rfl⟩
instance : Gl glb "LETTERS" (.str "abcdefghijklmnopqrstuvwxyz") := ⟨rfl⟩
instance : Gl glb "MOST_NUMBER" (.int 99) := ⟨rfl⟩
instance : Gl glb "MOST_ITEMS" (.int 24) := ⟨rfl⟩
instance : Gl glb "MOST_TAGS" (.int 4) := ⟨rfl⟩
instance : Xi xi "FilterdragError" 0 := ⟨rfl⟩
instance : Xi xi "InvalidOrderError" 1 := ⟨rfl⟩
theorem the_law : forall ns : List Int, ns.length <= 63 -> exists M' : Mem, callD glb xi tab 60 "law" [.p (.list (ns.map .int))] [] = .ok (.p (.bool true)) M' :=
  law_ok (L := 16) 58 (fun M m most p h0 h1 => k12_holds 52 p h0 h1)
end Mini.Law

set_option maxRecDepth 512
open PySem PySem.W PyProof.Rows in
set_option maxRecDepth 100000 in
set_option maxHeartbeats 0 in
theorem PySem.Challenge.cw_filterdrag_k12_tables_holds : PySem.Challenge.rw_filterdrag_k12_tables.Holds := by
  w_on; o_law; k_head; (case hw => w_witness2)
  k_fill
  refine Mini.walkM (l := PySem.Challenge.rw_filterdrag_k12_tables) (n := 63) (k := 60) (T := Mini.Law.tab) (glb := Mini.Law.glb) (xi := Mini.Law.xi) (F := Mini.Law.fn_law) rfl (by decide) rfl ⟨rfl, by decide, by decide⟩ rfl (by rfl) rfl (fun w h Y => PySem.W.kIn_of Y) ?F Mini.Law.the_law
  case F =>
    intro w mg h KX G
    have X_FilterdragError : ∃ a : Addr, Mini.ExcRaw (L2.KOf KX) mg "FilterdragError" a := by
      delta L2.KOf
      refine' Mini.exc_raw KX G ?a1 ?k1 ?s1 ?t1 ?q1
      (case a1 => k_is)
      (case k1 => k_is)
      (case s1 => k_is)
      (case t1 => k_is)
      (case q1 => k_exc)
    have X_InvalidOrderError : ∃ a : Addr, Mini.ExcRaw (L2.KOf KX) mg "InvalidOrderError" a := by
      delta L2.KOf
      refine' Mini.exc_raw KX G ?a1 ?k1 ?s1 ?t1 ?q1
      (case a1 => k_is)
      (case k1 => k_is)
      (case s1 => k_is)
      (case t1 => k_is)
      (case q1 => k_exc)
    have D_is_integer : ∃ (a : Addr) (fd : FuncData) (ps : List Str) (st : Stmt), Mini.Def1 (L2.KOf KX) mg Mini.Law.xi Mini.Law.tab "is_integer" Mini.Law.fn_is_integer a fd ps st := by
      refine' Mini.def_fact KX G (st := Mini.Law.top 8) (ps := ["value", "least", "most"]) ?a1 ?l1 ?c1 ?k1 Mini.Law.sc_is_integer Mini.Law.ast_is_integer Mini.Law.ok_is_integer rfl ⟨rfl, rfl, rfl, rfl, rfl⟩ (fun _ _ _ _ _ _ us hl => match us, hl with | [_, _, _], _ => rfl)
      (case a1 => k_is)
      (case l1 => k_is)
      (case c1 => k_is)
      (case k1 => k_is)
    have D_is_item : ∃ (a : Addr) (fd : FuncData) (ps : List Str) (st : Stmt), Mini.Def1 (L2.KOf KX) mg Mini.Law.xi Mini.Law.tab "is_item" Mini.Law.fn_is_item a fd ps st := by
      refine' Mini.def_fact KX G (st := Mini.Law.top 9) (ps := ["value"]) ?a1 ?l1 ?c1 ?k1 Mini.Law.sc_is_item Mini.Law.ast_is_item Mini.Law.ok_is_item rfl ⟨rfl, rfl, rfl, rfl, rfl⟩ (fun _ _ _ _ _ _ us hl => match us, hl with | [_], _ => rfl)
      (case a1 => k_is)
      (case l1 => k_is)
      (case c1 => k_is)
      (case k1 => k_is)
    have D_tags_in : ∃ (a : Addr) (fd : FuncData) (ps : List Str) (st : Stmt), Mini.Def1 (L2.KOf KX) mg Mini.Law.xi Mini.Law.tab "tags_in" Mini.Law.fn_tags_in a fd ps st := by
      refine' Mini.def_fact KX G (st := Mini.Law.top 10) (ps := ["order"]) ?a1 ?l1 ?c1 ?k1 Mini.Law.sc_tags_in Mini.Law.ast_tags_in Mini.Law.ok_tags_in rfl ⟨rfl, rfl, rfl, rfl, rfl⟩ (fun _ _ _ _ _ _ us hl => match us, hl with | [_], _ => rfl)
      (case a1 => k_is)
      (case l1 => k_is)
      (case c1 => k_is)
      (case k1 => k_is)
    have D_is_order : ∃ (a : Addr) (fd : FuncData) (ps : List Str) (st : Stmt), Mini.Def1 (L2.KOf KX) mg Mini.Law.xi Mini.Law.tab "is_order" Mini.Law.fn_is_order a fd ps st := by
      refine' Mini.def_fact KX G (st := Mini.Law.top 11) (ps := ["value"]) ?a1 ?l1 ?c1 ?k1 Mini.Law.sc_is_order Mini.Law.ast_is_order Mini.Law.ok_is_order rfl ⟨rfl, rfl, rfl, rfl, rfl⟩ (fun _ _ _ _ _ _ us hl => match us, hl with | [_], _ => rfl)
      (case a1 => k_is)
      (case l1 => k_is)
      (case c1 => k_is)
      (case k1 => k_is)
    have D_check_order : ∃ (a : Addr) (fd : FuncData) (ps : List Str) (st : Stmt), Mini.Def1 (L2.KOf KX) mg Mini.Law.xi Mini.Law.tab "check_order" Mini.Law.fn_check_order a fd ps st := by
      refine' Mini.def_fact KX G (st := Mini.Law.top 12) (ps := ["order"]) ?a1 ?l1 ?c1 ?k1 Mini.Law.sc_check_order Mini.Law.ast_check_order Mini.Law.ok_check_order rfl ⟨rfl, rfl, rfl, rfl, rfl⟩ (fun _ _ _ _ _ _ us hl => match us, hl with | [_], _ => rfl)
      (case a1 => k_is)
      (case l1 => k_is)
      (case c1 => k_is)
      (case k1 => k_is)
    have D_view_in : ∃ (a : Addr) (fd : FuncData) (ps : List Str) (st : Stmt), Mini.Def1 (L2.KOf KX) mg Mini.Law.xi Mini.Law.tab "view_in" Mini.Law.fn_view_in a fd ps st := by
      refine' Mini.def_fact KX G (st := Mini.Law.top 13) (ps := ["order", "tag"]) ?a1 ?l1 ?c1 ?k1 Mini.Law.sc_view_in Mini.Law.ast_view_in Mini.Law.ok_view_in rfl ⟨rfl, rfl, rfl, rfl, rfl⟩ (fun _ _ _ _ _ _ us hl => match us, hl with | [_, _], _ => rfl)
      (case a1 => k_is)
      (case l1 => k_is)
      (case c1 => k_is)
      (case k1 => k_is)
    have D_runs_in : ∃ (a : Addr) (fd : FuncData) (ps : List Str) (st : Stmt), Mini.Def1 (L2.KOf KX) mg Mini.Law.xi Mini.Law.tab "runs_in" Mini.Law.fn_runs_in a fd ps st := by
      refine' Mini.def_fact KX G (st := Mini.Law.top 14) (ps := ["order"]) ?a1 ?l1 ?c1 ?k1 Mini.Law.sc_runs_in Mini.Law.ast_runs_in Mini.Law.ok_runs_in rfl ⟨rfl, rfl, rfl, rfl, rfl⟩ (fun _ _ _ _ _ _ us hl => match us, hl with | [_], _ => rfl)
      (case a1 => k_is)
      (case l1 => k_is)
      (case c1 => k_is)
      (case k1 => k_is)
    have D_word_in : ∃ (a : Addr) (fd : FuncData) (ps : List Str) (st : Stmt), Mini.Def1 (L2.KOf KX) mg Mini.Law.xi Mini.Law.tab "word_in" Mini.Law.fn_word_in a fd ps st := by
      refine' Mini.def_fact KX G (st := Mini.Law.top 15) (ps := ["order"]) ?a1 ?l1 ?c1 ?k1 Mini.Law.sc_word_in Mini.Law.ast_word_in Mini.Law.ok_word_in rfl ⟨rfl, rfl, rfl, rfl, rfl⟩ (fun _ _ _ _ _ _ us hl => match us, hl with | [_], _ => rfl)
      (case a1 => k_is)
      (case l1 => k_is)
      (case c1 => k_is)
      (case k1 => k_is)
    have D_sizes_in : ∃ (a : Addr) (fd : FuncData) (ps : List Str) (st : Stmt), Mini.Def1 (L2.KOf KX) mg Mini.Law.xi Mini.Law.tab "sizes_in" Mini.Law.fn_sizes_in a fd ps st := by
      refine' Mini.def_fact KX G (st := Mini.Law.top 16) (ps := ["order"]) ?a1 ?l1 ?c1 ?k1 Mini.Law.sc_sizes_in Mini.Law.ast_sizes_in Mini.Law.ok_sizes_in rfl ⟨rfl, rfl, rfl, rfl, rfl⟩ (fun _ _ _ _ _ _ us hl => match us, hl with | [_], _ => rfl)
      (case a1 => k_is)
      (case l1 => k_is)
      (case c1 => k_is)
      (case k1 => k_is)
    have D_table_of : ∃ (a : Addr) (fd : FuncData) (ps : List Str) (st : Stmt), Mini.Def1 (L2.KOf KX) mg Mini.Law.xi Mini.Law.tab "table_of" Mini.Law.fn_table_of a fd ps st := by
      refine' Mini.def_fact KX G (st := Mini.Law.top 18) (ps := ["order"]) ?a1 ?l1 ?c1 ?k1 Mini.Law.sc_table_of Mini.Law.ast_table_of Mini.Law.ok_table_of rfl ⟨rfl, rfl, rfl, rfl, rfl⟩ (fun _ _ _ _ _ _ us hl => match us, hl with | [_], _ => rfl)
      (case a1 => k_is)
      (case l1 => k_is)
      (case c1 => k_is)
      (case k1 => k_is)
    have D__law_source : ∃ (a : Addr) (fd : FuncData) (ps : List Str) (st : Stmt), Mini.Def1 (L2.KOf KX) mg Mini.Law.xi Mini.Law.tab "_law_source" Mini.Law.fn__law_source a fd ps st := by
      refine' Mini.def_fact KX G (st := Mini.Law.top 20) (ps := ["_law_cell", "_law_k"]) ?a1 ?l1 ?c1 ?k1 Mini.Law.sc__law_source Mini.Law.ast__law_source Mini.Law.ok__law_source rfl ⟨rfl, rfl, rfl, rfl, rfl⟩ (fun _ _ _ _ _ _ us hl => match us, hl with | [_, _], _ => rfl)
      (case a1 => k_is)
      (case l1 => k_is)
      (case c1 => k_is)
      (case k1 => k_is)
    have D__law_draw : ∃ (a : Addr) (fd : FuncData) (ps : List Str) (st : Stmt), Mini.Def1 (L2.KOf KX) mg Mini.Law.xi Mini.Law.tab "_law_draw" Mini.Law.fn__law_draw a fd ps st := by
      refine' Mini.def_fact KX G (st := Mini.Law.top 21) (ps := ["_law_source_here", "_law_count"]) ?a1 ?l1 ?c1 ?k1 Mini.Law.sc__law_draw Mini.Law.ast__law_draw Mini.Law.ok__law_draw rfl ⟨rfl, rfl, rfl, rfl, rfl⟩ (fun _ _ _ _ _ _ us hl => match us, hl with | [_, _], _ => rfl)
      (case a1 => k_is)
      (case l1 => k_is)
      (case c1 => k_is)
      (case k1 => k_is)
    have D__law_row : ∃ (a : Addr) (fd : FuncData) (ps : List Str) (st : Stmt), Mini.Def1 (L2.KOf KX) mg Mini.Law.xi Mini.Law.tab "_law_row" Mini.Law.fn__law_row a fd ps st := by
      refine' Mini.def_fact KX G (st := Mini.Law.top 22) (ps := ["_law_source_here", "_law_most"]) ?a1 ?l1 ?c1 ?k1 Mini.Law.sc__law_row Mini.Law.ast__law_row Mini.Law.ok__law_row rfl ⟨rfl, rfl, rfl, rfl, rfl⟩ (fun _ _ _ _ _ _ us hl => match us, hl with | [_, _], _ => rfl)
      (case a1 => k_is)
      (case l1 => k_is)
      (case c1 => k_is)
      (case k1 => k_is)
    have D__law_right : ∃ (a : Addr) (fd : FuncData) (ps : List Str) (st : Stmt), Mini.Def1 (L2.KOf KX) mg Mini.Law.xi Mini.Law.tab "_law_right" Mini.Law.fn__law_right a fd ps st := by
      refine' Mini.def_fact KX G (st := Mini.Law.top 23) (ps := ["_law_row_here"]) ?a1 ?l1 ?c1 ?k1 Mini.Law.sc__law_right Mini.Law.ast__law_right Mini.Law.ok__law_right rfl ⟨rfl, rfl, rfl, rfl, rfl⟩ (fun _ _ _ _ _ _ us hl => match us, hl with | [_], _ => rfl)
      (case a1 => k_is)
      (case l1 => k_is)
      (case c1 => k_is)
      (case k1 => k_is)
    have D__law_holds : ∃ (a : Addr) (fd : FuncData) (ps : List Str) (st : Stmt), Mini.Def1 (L2.KOf KX) mg Mini.Law.xi Mini.Law.tab "_law_holds" Mini.Law.fn__law_holds a fd ps st := by
      refine' Mini.def_fact KX G (st := Mini.Law.top 24) (ps := ["_law_source_here", "_law_most"]) ?a1 ?l1 ?c1 ?k1 Mini.Law.sc__law_holds Mini.Law.ast__law_holds Mini.Law.ok__law_holds rfl ⟨rfl, rfl, rfl, rfl, rfl⟩ (fun _ _ _ _ _ _ us hl => match us, hl with | [_, _], _ => rfl)
      (case a1 => k_is)
      (case l1 => k_is)
      (case c1 => k_is)
      (case k1 => k_is)
    have D_law : ∃ (a : Addr) (fd : FuncData) (ps : List Str) (st : Stmt), Mini.Def1 (L2.KOf KX) mg Mini.Law.xi Mini.Law.tab "law" Mini.Law.fn_law a fd ps st := by
      refine' Mini.def_fact KX G (st := Mini.Law.top 25) (ps := ["_law_script"]) ?a1 ?l1 ?c1 ?k1 Mini.Law.sc_law Mini.Law.ast_law Mini.Law.ok_law rfl ⟨rfl, rfl, rfl, rfl, rfl⟩ (fun _ _ _ _ _ _ us hl => match us, hl with | [_], _ => rfl)
      (case a1 => k_is)
      (case l1 => k_is)
      (case c1 => k_is)
      (case k1 => k_is)
    have G_LETTERS : Mini.GlFact mg "LETTERS" (.str "abcdefghijklmnopqrstuvwxyz") := by
      refine' Mini.gl_str KX G ?a1
      (case a1 => k_is)
    have G_MOST_NUMBER : Mini.GlFact mg "MOST_NUMBER" (.int 99) := by
      refine' Mini.gl_int KX G ?a1
      (case a1 => k_is)
    have G_MOST_ITEMS : Mini.GlFact mg "MOST_ITEMS" (.int 24) := by
      refine' Mini.gl_int KX G ?a1
      (case a1 => k_is)
    have G_MOST_TAGS : Mini.GlFact mg "MOST_TAGS" (.int 4) := by
      refine' Mini.gl_int KX G ?a1
      (case a1 => k_is)
    have B : ∀ x ∈ Mini.bNames, mg x = none := by
      unfold Mini.bNames
      
      refine' Mini.blt_cons KX G ?b0 (Mini.blt_cons KX G ?b1 (Mini.blt_cons KX G ?b2 (Mini.blt_cons KX G ?b3 (Mini.blt_cons KX G ?b4 (Mini.blt_cons KX G ?b5 (Mini.blt_cons KX G ?b6 (Mini.blt_cons KX G ?b7 (Mini.blt_cons KX G ?b8 (Mini.blt_cons KX G ?b9 (Mini.blt_cons KX G ?b10 (Mini.blt_cons KX G ?b11 (Mini.blt_cons KX G ?b12 (Mini.blt_cons KX G ?b13 (Mini.blt_cons KX G ?b14 (Mini.blt_cons KX G ?b15 (Mini.blt_cons KX G ?b16 (Mini.blt_cons KX G ?b17 (Mini.blt_cons KX G ?b18 (Mini.blt_nil)))))))))))))))))))
      (case b0 => k_is)
      (case b1 => k_is)
      (case b2 => k_is)
      (case b3 => k_is)
      (case b4 => k_is)
      (case b5 => k_is)
      (case b6 => k_is)
      (case b7 => k_is)
      (case b8 => k_is)
      (case b9 => k_is)
      (case b10 => k_is)
      (case b11 => k_is)
      (case b12 => k_is)
      (case b13 => k_is)
      (case b14 => k_is)
      (case b15 => k_is)
      (case b16 => k_is)
      (case b17 => k_is)
      (case b18 => k_is)
    obtain ⟨x_FilterdragError, X_FilterdragError⟩ := X_FilterdragError
    obtain ⟨x_InvalidOrderError, X_InvalidOrderError⟩ := X_InvalidOrderError
    refine ⟨fun n => ([x_FilterdragError, x_InvalidOrderError] : List Addr).getD n 0, default, Mini.Law.tab_nd, B, Mini.all_cons G_LETTERS (Mini.all_cons G_MOST_NUMBER (Mini.all_cons G_MOST_ITEMS (Mini.all_cons G_MOST_TAGS (Mini.all_nil)))), Mini.all_cons (X_FilterdragError.at rfl) (Mini.all_cons (X_InvalidOrderError.at rfl) (Mini.all_nil)), Mini.all_cons D_is_integer (Mini.all_cons D_is_item (Mini.all_cons D_tags_in (Mini.all_cons D_is_order (Mini.all_cons D_check_order (Mini.all_cons D_view_in (Mini.all_cons D_runs_in (Mini.all_cons D_word_in (Mini.all_cons D_sizes_in (Mini.all_cons D_table_of (Mini.all_cons D__law_source (Mini.all_cons D__law_draw (Mini.all_cons D__law_row (Mini.all_cons D__law_right (Mini.all_cons D__law_holds (Mini.all_cons D_law (Mini.all_nil))))))))))))))))⟩

