import PyProof.Rows.All
import Wide.All
import OpenK.AllK
import Wide.FinOn
import KE.KStateDown
import HandS.ForMost
import HandS.IsInst
import HandS.Zip
import HandS.Iter
import HandS.Exc
import HandS.ExcOwn
import HandS.Words
import HandS.WordsExc
import HandS.Defaults
import HandS.DictComp
import HandS.Head0
import HandS.Head1
import HandS.Head2
import HandS.HeadEnd
import HandS.HeadHook1
import HandS.HeadHook2
import HandS.HeadHook4
import KE.KDictKeyed
import KE.SortData
import KE.KDictSum
import KE.KDictCopyH
import KE.DataCmp
import KE.DataMinMax
import HandS.TupAny
import HandS.TryMany
import HandS.ExcField
import HandS.ExcIs
import HandS.ExcInit
import HandS.HeadNt
import HandS.RevTup
import HandS.Style
import PyProof.AutoSeq1
import KE.KDictItemsList
import PyProof.P3Eq
import KE.KDictWalk
import PySem.Challenge.RW_tornsheets_k19_whole_a_ring_is_opened
set_option Elab.async false
set_option linter.all false
set_option maxRecDepth 100000
set_option maxHeartbeats 4000000
/-! The D layer: data as trees, mutable things in a store. -/
namespace DL
open PySem PySem.Spec PyProof.Rows L2

inductive D where
  | non | bl (b : Bool) | int (i : Int) | str (x : Str) | tup (xs : List D) | loc (a : Addr) | ty (n : String)

mutual
def D.beq : D → D → Bool
  | .non, .non => true
  | .bl a, .bl b => decide (a = b)
  | .int a, .int b => decide (a = b)
  | .str a, .str b => decide (a = b)
  | .loc a, .loc b => decide (a = b)
  | .ty a, .ty b => decide (a = b)
  | .tup a, .tup b => D.beqs a b
  | _, _ => false
def D.beqs : List D → List D → Bool
  | [], [] => true
  | a :: as, b :: bs => D.beq a b && D.beqs as bs
  | _, _ => false
end
mutual
theorem D.beq_self : ∀ a : D, D.beq a a = true
  | .non => rfl
  | .bl a => by simp [D.beq]
  | .int a => by simp [D.beq]
  | .str a => by simp [D.beq]
  | .loc a => by simp [D.beq]
  | .ty a => by simp [D.beq]
  | .tup a => by rw [D.beq]; exact D.beqs_self a
theorem D.beqs_self : ∀ a : List D, D.beqs a a = true
  | [] => rfl
  | a :: as => by rw [D.beqs, D.beq_self a, D.beqs_self as]; rfl
end
mutual
theorem D.of_beq : ∀ a b : D, D.beq a b = true → a = b
  | .non, b, h => by cases b <;> simp_all [D.beq]
  | .bl a, b, h => by cases b <;> simp_all [D.beq]
  | .int a, b, h => by cases b <;> simp_all [D.beq]
  | .str a, b, h => by cases b <;> simp_all [D.beq]
  | .loc a, b, h => by cases b <;> simp_all [D.beq]
  | .ty a, b, h => by cases b <;> simp_all [D.beq]
  | .tup a, b, h => by
    cases b with
    | tup b => rw [D.beq] at h; rw [D.of_beqs a b h]
    | _ => simp [D.beq] at h
theorem D.of_beqs : ∀ a b : List D, D.beqs a b = true → a = b
  | [], [], _ => rfl
  | a :: as, b :: bs, h => by
    rw [D.beqs, Bool.and_eq_true] at h
    rw [D.of_beq a b h.1, D.of_beqs as bs h.2]
  | [], _ :: _, h => by simp [D.beqs] at h
  | _ :: _, [], h => by simp [D.beqs] at h
end
instance : DecidableEq D := fun a b => if h : D.beq a b = true then Decidable.isTrue (D.of_beq a b h) else Decidable.isFalse fun e => h (e ▸ D.beq_self a)

/-! ### what stands for a datum -/
mutual
def Rp (H : Hp) : D → V → Prop
  | .non, v => v = .non
  | .bl b, v => v = .bl b
  | .int i, v => v = .int i
  | .str x, v => v = .str x
  | .ty n, v => v = .ty n
  | .loc a, v => v = .ref a
  | .tup ds, v => ∃ a xs, v = .ref a ∧ H a = some (.tup xs) ∧ Rps H ds xs
def Rps (H : Hp) : List D → List V → Prop
  | [], vs => vs = []
  | d :: ds, vs => ∃ v r, vs = v :: r ∧ Rp H d v ∧ Rps H ds r
end
def Tx (H H' : Hp) : Prop := ∀ a xs, H a = some (.tup xs) → H' a = some (.tup xs)
theorem Tx.refl (H : Hp) : Tx H H := fun _ _ h => h
theorem Tx.trans {H H1 H2 : Hp} (a : Tx H H1) (b : Tx H1 H2) : Tx H H2 := fun c o h => b c o (a c o h)
theorem Tx.new {H : Hp} {p : Addr} {o : HO} (h : H p = none) : Tx H (upd H p o) := fun a u e => by
  rw [upd_ne (ne_of_none e h)]
  exact e
theorem Tx.write {H : Hp} {p : Addr} {o u : HO} (h : H p = some u) (hu : ∀ xs, u ≠ .tup xs) : Tx H (upd H p o) := fun a xs e => by
  rw [upd_ne (fun z => by subst z; rw [h] at e; exact hu xs (Option.some.inj e))]
  exact e
mutual
theorem Rp.mono {H H' : Hp} (t : Tx H H') : ∀ (d : D) (v : V), Rp H d v → Rp H' d v
  | .non, _, h => h
  | .bl _, _, h => h
  | .int _, _, h => h
  | .str _, _, h => h
  | .ty _, _, h => h
  | .loc _, _, h => h
  | .tup ds, _, h => by
    obtain ⟨a, xs, e, h1, h2⟩ := h
    exact ⟨a, xs, e, t _ _ h1, Rps.mono t ds xs h2⟩
theorem Rps.mono {H H' : Hp} (t : Tx H H') : ∀ (ds : List D) (vs : List V), Rps H ds vs → Rps H' ds vs
  | [], _, h => h
  | d :: ds, _, h => by
    obtain ⟨v, r, e, h1, h2⟩ := h
    exact ⟨v, r, e, Rp.mono t d v h1, Rps.mono t ds r h2⟩
end
theorem Rps.length {H : Hp} : ∀ {ds : List D} {vs : List V}, Rps H ds vs → vs.length = ds.length
  | [], _, h => by cases h; rfl
  | d :: ds, _, h => by
    obtain ⟨v, r, rfl, _, h2⟩ := h
    simp [Rps.length h2]
theorem Rps.append {H : Hp} : ∀ {ds es : List D} {vs us : List V}, Rps H ds vs → Rps H es us → Rps H (ds ++ es) (vs ++ us)
  | [], _, _, _, h, h' => by cases h; exact h'
  | d :: ds, _, _, _, h, h' => by
    obtain ⟨v, r, rfl, h1, h2⟩ := h
    exact ⟨v, r ++ _, rfl, h1, Rps.append h2 h'⟩
theorem Rps.get {H : Hp} : ∀ {ds : List D} {vs : List V} {i : Nat} {d : D}, Rps H ds vs → ds[i]? = some d → ∃ v, vs[i]? = some v ∧ Rp H d v
  | [], _, _, _, h, e => by simp at e
  | d :: ds, _, 0, _, h, e => by
    obtain ⟨v, r, rfl, h1, h2⟩ := h
    simp at e; subst e; exact ⟨v, rfl, h1⟩
  | d :: ds, _, i + 1, _, h, e => by
    obtain ⟨v, r, rfl, h1, h2⟩ := h
    simpa using Rps.get (i := i) h2 (by simpa using e)
theorem Rps.getV {H : Hp} : ∀ {ds : List D} {vs : List V} {i : Nat} {v : V}, Rps H ds vs → vs[i]? = some v → ∃ d, ds[i]? = some d ∧ Rp H d v
  | [], _, _, _, h, e => by cases h; simp at e
  | d :: ds, _, 0, _, h, e => by
    obtain ⟨v, r, rfl, h1, h2⟩ := h
    simp at e; subst e; exact ⟨d, rfl, h1⟩
  | d :: ds, _, i + 1, _, h, e => by
    obtain ⟨v, r, rfl, h1, h2⟩ := h
    simpa using Rps.getV (i := i) h2 (by simpa using e)
theorem Rps.take {H : Hp} : ∀ {ds : List D} {vs : List V} (n : Nat), Rps H ds vs → Rps H (ds.take n) (vs.take n)
  | _, _, 0, _ => by simp [Rps]
  | [], _, _ + 1, h => by cases h; simp [Rps]
  | d :: ds, _, n + 1, h => by
    obtain ⟨v, r, rfl, h1, h2⟩ := h
    exact ⟨v, r.take n, by simp, h1, Rps.take n h2⟩
theorem Rps.drop {H : Hp} : ∀ {ds : List D} {vs : List V} (n : Nat), Rps H ds vs → Rps H (ds.drop n) (vs.drop n)
  | _, _, 0, h => by simpa using h
  | [], _, _ + 1, h => by cases h; simp [Rps]
  | d :: ds, _, n + 1, h => by
    obtain ⟨v, r, rfl, h1, h2⟩ := h
    simpa using Rps.drop n h2
theorem Rps.ints {H : Hp} : ∀ (ns : List Int), Rps H (ns.map .int) (ns.map .int)
  | [] => rfl
  | n :: ns => ⟨_, _, rfl, rfl, Rps.ints ns⟩

/-! ### keys -/
mutual
def D.nk : D → NestedKey
  | .non => .none
  | .bl b => .num (if b then 1 else 0)
  | .int i => .num i
  | .str x => .text x
  | .ty _ => .none
  | .loc _ => .none
  | .tup ds => .tup (D.nks ds)
def D.nks : List D → List NestedKey
  | [] => []
  | d :: ds => d.nk :: D.nks ds
end
mutual
/-- a key: ints, texts, tuples -/
def D.isK : D → Bool
  | .int _ => true
  | .str _ => true
  | .tup ds => D.isKs ds
  | _ => false
def D.isKs : List D → Bool
  | [] => true
  | d :: ds => d.isK && D.isKs ds
end
mutual
theorem D.nk_inj : ∀ (a b : D), a.isK = true → b.isK = true → a.nk = b.nk → a = b
  | .int a, b, ha, hb, e => by cases b <;> simp_all [D.nk, D.isK]
  | .str a, b, ha, hb, e => by cases b <;> simp_all [D.nk, D.isK]
  | .tup a, b, ha, hb, e => by
    cases b with
    | tup b =>
      rw [D.nk, D.nk] at e
      rw [D.nks_inj a b ha hb (NestedKey.tup.inj e)]
    | _ => simp_all [D.nk, D.isK]
  | .non, _, ha, _, _ => by simp [D.isK] at ha
  | .bl _, _, ha, _, _ => by simp [D.isK] at ha
  | .loc _, _, ha, _, _ => by simp [D.isK] at ha
  | .ty _, _, ha, _, _ => by simp [D.isK] at ha
theorem D.nks_inj : ∀ (a b : List D), D.isKs a = true → D.isKs b = true → D.nks a = D.nks b → a = b
  | [], [], _, _, _ => rfl
  | a :: as, b :: bs, ha, hb, e => by
    rw [D.isKs, Bool.and_eq_true] at ha hb
    rw [D.nks, D.nks] at e
    injection e with e1 e2
    rw [D.nk_inj a b ha.1 hb.1 e1, D.nks_inj as bs ha.2 hb.2 e2]
  | [], _ :: _, _, _, e => by simp [D.nks] at e
  | _ :: _, [], _, _, e => by simp [D.nks] at e
end
mutual
def D.dep : D → Nat
  | .tup ds => D.deps ds + 1
  | _ => 0
def D.deps : List D → Nat
  | [] => 0
  | d :: ds => max d.dep (D.deps ds)
end
mutual
theorem D.nk_dep : ∀ d : D, d.nk.depth = d.dep
  | .non => rfl
  | .bl _ => rfl
  | .int _ => rfl
  | .str _ => rfl
  | .loc _ => rfl
  | .ty _ => rfl
  | .tup ds => by rw [D.nk, D.dep, NestedKey.depth, D.nks_dep ds]
theorem D.nks_dep : ∀ ds : List D, NestedKey.depthAll (D.nks ds) = D.deps ds
  | [] => rfl
  | d :: ds => by rw [D.nks, D.deps, NestedKey.depthAll, D.nk_dep d, D.nks_dep ds]
end
/-! ### as plain data -/
mutual
def D.pd : D → PyData
  | .non => .none
  | .bl b => .bool b
  | .int i => .int i
  | .str x => .str x
  | .ty _ => .none
  | .loc _ => .none
  | .tup ds => .tuple (D.pds ds)
def D.pds : List D → List PyData
  | [] => []
  | d :: ds => d.pd :: D.pds ds
end
mutual
/-- no places, no classes in it -/
def D.pure : D → Bool
  | .loc _ => false
  | .ty _ => false
  | .tup ds => D.pures ds
  | _ => true
def D.pures : List D → Bool
  | [] => true
  | d :: ds => d.pure && D.pures ds
end
theorem D.pds_map : ∀ ds : List D, D.pds ds = ds.map D.pd
  | [] => rfl
  | d :: ds => by rw [D.pds, D.pds_map ds]; rfl
theorem D.pures_iff : ∀ ds : List D, D.pures ds = true ↔ ∀ d ∈ ds, d.pure = true
  | [] => by simp [D.pures]
  | d :: ds => by rw [D.pures, Bool.and_eq_true, D.pures_iff ds]; simp

/-! ### the store -/
inductive MO where
  | lst (ds : List D)
  | dic (n : Nat) (kvs : List (D × D))
  | ins (C : Addr) (fs : List (Str × D))
  | scr (ns : List Int)
  | xd (fs : List (Str × D))
abbrev Store := Addr → Option MO
def put (S : Store) (a : Addr) (o : MO) : Store := fun b => if b = a then some o else S b
theorem put_same {S : Store} {a : Addr} {o : MO} : put S a o a = some o := by unfold put; rw [if_pos rfl]
theorem put_ne {S : Store} {a b : Addr} {o : MO} (h : b ≠ a) : put S a o b = S b := by unfold put; rw [if_neg h]
theorem put_put {S : Store} {a : Addr} {o u : MO} : put (put S a o) a u = put S a u := by
  funext b; unfold put; split <;> rfl
theorem put_self {S : Store} {a : Addr} {o : MO} (h : S a = some o) : put S a o = S := by
  funext b; unfold put; split
  · rename_i e; rw [e, h]
  · rfl
theorem ne_of_new {S : Store} {a b : Addr} {o : MO} (h : S a = some o) (h' : S b = none) : a ≠ b := by
  intro e; subst e; rw [h] at h'; cases h'

/-- a pair and its entry -/
def DPr (H : Hp) (p : D × D) (x : NestedKey × Addr × Value) : Prop := x.1 = p.1.nk ∧ p.1.isK = true ∧ p.1.dep ≤ 8 ∧ (∃ ks, p.1 = .tup ks) ∧ Rp H p.1 (.ref x.2.1) ∧ ∃ v, RelV v x.2.2 ∧ Rp H p.2 v
/-- a dict's object, with its entries -/
structure DicAt (P : Program) (w : World) (H : Hp) (a : Addr) (n : Nat) (kvs : List (D × D)) (o : Obj) (xs : List (NestedKey × Addr × Value)) : Prop where
  at_ : H a = some (.ext fun h => h.get? a = some o)
  exact_ : o.ExactDict
  es : ∃ es, o.data = .dict es n ∧ es.toList = xs.map (entryOfKey (nestedKind P w))
  nd : (xs.map (·.1)).Nodup
  rel : Paired (DPr H) kvs xs
  len : kvs.length ≤ sizeLine
  sys : (a == sysModules) = false

def RelO (P : Program) (w : World) (K : PySem.W.Frag) (H : Hp) (a : Addr) : MO → Prop
  | .lst ds => ∃ xs, H a = some (.lst xs) ∧ Rps H ds xs
  | .dic n kvs => ∃ o xs, DicAt P w H a n kvs o xs
  | .ins C fs => ∃ dx fv, H a = some (.ins C dx fv) ∧ fv.map (·.1) = fs.map (·.1) ∧ Rps H (fs.map (·.2)) (fv.map (·.2))
  | .scr ns => SqL K H a (ns.map .int) ∧ (∀ xs, H a ≠ some (.tup xs)) ∧ ∃ o, H a = some (.frz o (.lst (ns.map .int)))
  | .xd fs => ∃ fv, H a = some (.xd fv) ∧ fv.map (·.1) = fs.map (·.1) ∧ Rps H (fs.map (·.2)) (fv.map (·.2))
def RelS (P : Program) (w : World) (K : PySem.W.Frag) (H : Hp) (S : Store) : Prop := ∀ a o, S a = some o → RelO P w K H a o

section
variable {P : Program} {w : World} {K : PySem.W.Frag} {H H' : Hp} {S : Store} {a : Addr}
theorem Paired.mapW {α β : Type} {F G : α → β → Prop} : ∀ {l₁ : List α} {l₂ : List β}, Paired F l₁ l₂ → (∀ a b, F a b → G a b) → Paired G l₁ l₂
  | _, _, .nil, _ => .nil
  | _, _, .cons r t, f => .cons (f _ _ r) (Paired.mapW t f)
theorem RelO.mono (t : Tx H H') (e : H' a = H a) : ∀ {o : MO}, RelO P w K H a o → RelO P w K H' a o
  | .lst ds, h => by
    obtain ⟨xs, h1, h2⟩ := h
    exact ⟨xs, e.trans h1, h2.mono t⟩
  | .dic n kvs, h => by
    obtain ⟨o, xs, h⟩ := h
    exact ⟨o, xs, ⟨e.trans h.at_, h.exact_, h.es, h.nd, Paired.mapW h.rel fun p x ⟨q1, q2, q3, q4, q5, v, q6, q7⟩ => ⟨q1, q2, q3, q4, q5.mono t, v, q6, q7.mono t⟩, h.len, h.sys⟩⟩
  | .ins C fs, h => by
    obtain ⟨dx, fv, h1, h2, h3⟩ := h
    exact ⟨dx, fv, e.trans h1, h2, h3.mono t⟩
  | .scr ns, h => by
    obtain ⟨h1, h2, o, h3⟩ := h
    refine ⟨.inl (.inr ⟨o, e.trans h3⟩), fun xs q => h2 xs (e.symm.trans q), o, e.trans h3⟩
  | .xd fs, h => by
    obtain ⟨fv, h1, h2, h3⟩ := h
    exact ⟨fv, e.trans h1, h2, h3.mono t⟩
theorem RelO.some {o : MO} (h : RelO P w K H a o) : ∃ u, H a = some u ∧ ∀ xs, u ≠ .tup xs := by
  cases o with
  | lst ds => obtain ⟨xs, h1, _⟩ := h; exact ⟨_, h1, fun _ z => nomatch z⟩
  | dic n kvs => obtain ⟨o, xs, h⟩ := h; exact ⟨_, h.at_, fun _ z => nomatch z⟩
  | ins C fs => obtain ⟨dx, fv, h1, _⟩ := h; exact ⟨_, h1, fun _ z => nomatch z⟩
  | scr ns => obtain ⟨_, _, o, h3⟩ := h; exact ⟨_, h3, fun _ z => nomatch z⟩
  | xd fs => obtain ⟨fv, h1, _⟩ := h; exact ⟨_, h1, fun _ z => nomatch z⟩
theorem RelS.free (r : RelS P w K H S) (h : H a = none) : S a = none := by
  cases e : S a with
  | none => rfl
  | some o =>
    obtain ⟨u, q, _⟩ := (r a o e).some
    rw [h] at q; cases q
/-- a new object that is not told of -/
theorem RelS.grow {o : HO} (r : RelS P w K H S) (h : H a = none) : RelS P w K (upd H a o) S := fun b u e => by
  obtain ⟨q, hq, _⟩ := (r b u e).some
  exact (r b u e).mono (Tx.new h) (upd_ne (ne_of_none hq h))
/-- a new object, told of -/
theorem RelS.new {o : HO} {m : MO} (r : RelS P w K H S) (h : H a = none) (n : RelO P w K (upd H a o) a m) : RelS P w K (upd H a o) (put S a m) := fun b u e => by
  by_cases hb : b = a
  · subst hb; rw [put_same] at e; cases e; exact n
  · rw [put_ne hb] at e
    exact r.grow h b u e
/-- an object that is told of, written -/
theorem RelS.write {o : HO} {m m' : MO} (r : RelS P w K H S) (h : S a = some m) (n : RelO P w K (upd H a o) a m') : RelS P w K (upd H a o) (put S a m') := fun b u e => by
  obtain ⟨q, hq, hn⟩ := (r a m h).some
  by_cases hb : b = a
  · subst hb; rw [put_same] at e; cases e; exact n
  · rw [put_ne hb] at e
    exact (r b u e).mono (Tx.write hq hn) (upd_ne hb)
/-- an object that may change is told of no more -/
theorem RelS.forget (r : RelS P w K H S) {S' : Store} (h : ∀ a o, S' a = some o → S a = some o) : RelS P w K H S' := fun b u e => r b u (h b u e)
end

/-! ### what is not told of stays -/
def Gx (H : Hp) (S : Store) (H' : Hp) (S' : Store) : Prop := ∀ a o, H a = some o → S a = none → H' a = some o ∧ S' a = none
section
variable {P : Program} {w : World} {K : PySem.W.Frag} {H H1 H2 : Hp} {S S1 S2 : Store} {a : Addr}
theorem Gx.refl : Gx H S H S := fun _ _ h h' => ⟨h, h'⟩
theorem Gx.trans (a : Gx H S H1 S1) (b : Gx H1 S1 H2 S2) : Gx H S H2 S2 := fun c o h h' => b c o (a c o h h').1 (a c o h h').2
theorem Gx.tx (r : RelS P w K H S) (g : Gx H S H1 S1) : Tx H H1 := fun c xs h => (g c _ h (by
  cases e : S c with
  | none => rfl
  | some o =>
    obtain ⟨u, q, n⟩ := (r c o e).some
    rw [h] at q; cases q
    exact (n xs rfl).elim)).1
/-- a new object, untold -/
theorem Gx.grow {o : HO} (h : H a = none) : Gx H S (upd H a o) S := fun b u e e' => ⟨by rw [upd_ne (ne_of_none e h)]; exact e, e'⟩
theorem Gx.new {o : HO} {m : MO} (h : H a = none) : Gx H S (upd H a o) (put S a m) := fun b u e e' => ⟨by rw [upd_ne (ne_of_none e h)]; exact e, by rw [put_ne (ne_of_none e h)]; exact e'⟩
theorem Gx.write {o : HO} {m m' : MO} (h : S a = some m) : Gx H S (upd H a o) (put S a m') := fun b u e e' => by
  have nb : b ≠ a := fun z => by rw [z, h] at e'; cases e'
  exact ⟨by rw [upd_ne nb]; exact e, by rw [put_ne nb]; exact e'⟩
end

/-! ### slots -/
abbrev DSt := List (Option D)
def SlR (H : Hp) (σv : L2.St) (σ : DSt) : Prop := σv.length = σ.length ∧ ∀ (i : Nat) (d : D), σ[i]? = some (some d) → ∃ v, σv[i]? = some (some v) ∧ Rp H d v
theorem SlR.mono {H H' : Hp} {σv : L2.St} {σ : DSt} (t : Tx H H') (h : SlR H σv σ) : SlR H' σv σ := ⟨h.1, fun i d e => by
  obtain ⟨v, h1, h2⟩ := h.2 i d e
  exact ⟨v, h1, h2.mono t⟩⟩
theorem SlR.set {H : Hp} {σv : L2.St} {σ : DSt} {i : Nat} {d : D} {v : V} (h : SlR H σv σ) (r : Rp H d v) : SlR H (σv.set i (some v)) (σ.set i (some d)) := by
  refine ⟨by simp [h.1], fun j d' e => ?_⟩
  by_cases hj : i = j
  · subst hj
    by_cases hl : i < σ.length
    · rw [List.getElem?_set_self hl] at e
      cases e
      exact ⟨v, List.getElem?_set_self (by rw [h.1]; exact hl), r⟩
    · rw [List.getElem?_eq_none (by simpa using hl)] at e; cases e
  · rw [List.getElem?_set_ne hj] at e ⊢
    exact h.2 j d' e
end DL

namespace DL
open PySem PySem.Spec PyProof.Rows L2

abbrev DQ := D → Store → Prop
abbrev DTE := DSt → Store → DQ → Prop
abbrev DTT := DSt → Store → (Bool → Store → Prop) → Prop
abbrev DTA := DSt → Store → (List D → Store → Prop) → Prop
structure DEnds where
  nx : DSt → Store → Prop
  rt : DQ
  bk : DSt → Store → Prop := fun _ _ => False
  ct : DSt → Store → Prop := fun _ _ => False
abbrev DTS := DEnds → DSt → Store → Prop

/-- all that is known at a place -/
structure DI (X : Cx) (B : Hp × Store) (pins : List (Addr × Obj)) (σv : L2.St) (H : Hp) (σ : DSt) (S : Store) (s : Shared) : Prop where
  inv : Inv X pins σv H s
  sl : SlR H σv σ
  st : RelS X.prog X.w X.K H S
  bs : Gx B.1 B.2 H S

def DEP (X : Cx) (pins : List (Addr × Obj)) (σv : L2.St) (H : Hp) (S : Store) (Q : DQ) (u : Value) (s' : Shared) : Prop :=
  ∃ v d H' S', Inv X pins σv H' s' ∧ RelS X.prog X.w X.K H' S' ∧ Gx H S H' S' ∧ RelV v u ∧ Rp H' d v ∧ Q d S'
def DTP (X : Cx) (pins : List (Addr × Obj)) (σv : L2.St) (H : Hp) (S : Store) (Q : Bool → Store → Prop) (b : Bool) (s' : Shared) : Prop :=
  ∃ H' S', Inv X pins σv H' s' ∧ RelS X.prog X.w X.K H' S' ∧ Gx H S H' S' ∧ Q b S'
def DAP (X : Cx) (pins : List (Addr × Obj)) (σv : L2.St) (H : Hp) (S : Store) (n : Nat) (Q : List D → Store → Prop) (us : List Value) (s' : Shared) : Prop :=
  ∃ vs ds H' S', ds.length = n ∧ Inv X pins σv H' s' ∧ RelS X.prog X.w X.K H' S' ∧ Gx H S H' S' ∧ Vals vs us ∧ Rps H' ds vs ∧ Q ds S'
/-- a state behind a statement -/
def DNX (X : Cx) (B : Hp × Store) (pins : List (Addr × Obj)) (H : Hp) (S : Store) (q : DSt → Store → Prop) (s' : Shared) : Prop :=
  ∃ σv' H' σ' S', DI X B pins σv' H' σ' S' s' ∧ Gx H S H' S' ∧ q σ' S'
def DSP (X : Cx) (B : Hp × Store) (pins : List (Addr × Obj)) (H : Hp) (S : Store) (D : DEnds) (f : Flow) (s' : Shared) : Prop :=
  match f with
  | .next => DNX X B pins H S D.nx s'
  | .brk => DNX X B pins H S D.bk s'
  | .cont => DNX X B pins H S D.ct s'
  | .ret u => ∃ v d σv' H' S', Inv X pins σv' H' s' ∧ RelS X.prog X.w X.K H' S' ∧ Gx H S H' S' ∧ RelV v u ∧ Rp H' d v ∧ D.rt d S'
structure DE (X : Cx) (B : Hp × Store) (e : Expr) (t : DTE) : Prop where
  run : ∀ (pins : List (Addr × Obj)) (s : Shared) (σv : L2.St) (H : Hp) (σ : DSt) (S : Store) (Q : DQ), DI X B pins σv H σ S s → t σ S Q → wpAny (model X.prog X.w) X.A (eval e X.env) (DEP X pins σv H S Q) X.xe s
structure DT (X : Cx) (B : Hp × Store) (e : Expr) (t : DTT) : Prop where
  run : ∀ (pins : List (Addr × Obj)) (s : Shared) (σv : L2.St) (H : Hp) (σ : DSt) (S : Store) (Q : Bool → Store → Prop), DI X B pins σv H σ S s → t σ S Q → wpAny (model X.prog X.w) X.A (isTrue e X.env (eval e X.env)) (DTP X pins σv H S Q) X.xe s
structure DW (X : Cx) (B : Hp × Store) (e : Expr) (t : DTT) : Prop where
  run : ∀ (whole : Sem Value) (pins : List (Addr × Obj)) (s : Shared) (σv : L2.St) (H : Hp) (σ : DSt) (S : Store) (Q : Bool → Store → Prop), DI X B pins σv H σ S s → t σ S Q → wpAny (model X.prog X.w) X.A (isTrue e X.env whole) (DTP X pins σv H S Q) X.xe s
theorem DW.dt {X : Cx} {B : Hp × Store} {e : Expr} {t : DTT} (h : DW X B e t) : DT X B e t := ⟨h.run _⟩
structure DA (X : Cx) (B : Hp × Store) (es : List Expr) (t : DTA) : Prop where
  run : ∀ (pos : Pos) (pins : List (Addr × Obj)) (s : Shared) (σv : L2.St) (H : Hp) (σ : DSt) (S : Store) (Q : List D → Store → Prop), DI X B pins σv H σ S s → t σ S Q → wpAny (model X.prog X.w) X.A (spliced (backTo pos (starEach es X.env))) (DAP X pins σv H S es.length Q) X.xe s
structure DS (X : Cx) (B : Hp × Store) (st : Stmt) (t : DTS) : Prop where
  run : ∀ (pins : List (Addr × Obj)) (s : Shared) (σv : L2.St) (H : Hp) (σ : DSt) (S : Store) (D : DEnds), DI X B pins σv H σ S s → t D σ S → wpAny (model X.prog X.w) X.A (exec st X.env) (DSP X B pins H S D) X.xe s
structure DSs (X : Cx) (B : Hp × Store) (st : List Stmt) (t : DTS) : Prop where
  run : ∀ (pins : List (Addr × Obj)) (s : Shared) (σv : L2.St) (H : Hp) (σ : DSt) (S : Store) (D : DEnds), DI X B pins σv H σ S s → t D σ S → wpAny (model X.prog X.w) X.A (execs st X.env) (DSP X B pins H S D) X.xe s

section
variable {X : Cx} {B : Hp × Store} {pins : List (Addr × Obj)} {σv : L2.St} {H H' : Hp} {σ : DSt} {S S' : Store} {s s' : Shared}
theorem DI.to (I : DI X B pins σv H σ S s) (J : Inv X pins σv H' s') (r : RelS X.prog X.w X.K H' S') (t : Gx H S H' S') : DI X B pins σv H' σ S' s' := ⟨J, I.sl.mono (t.tx I.st), r, I.bs.trans t⟩
theorem DNX.tx {q : DSt → Store → Prop} (t : Gx H S H' S') (h : DNX X B pins H' S' q s) : DNX X B pins H S q s := by
  obtain ⟨a, b, c, d, e, f, g⟩ := h; exact ⟨a, b, c, d, e, t.trans f, g⟩
theorem DSP.tx {D : DEnds} {f : Flow} (t : Gx H S H' S') (h : DSP X B pins H' S' D f s) : DSP X B pins H S D f s := by
  cases f with
  | next => exact DNX.tx t h
  | brk => exact DNX.tx t h
  | cont => exact DNX.tx t h
  | ret u => obtain ⟨a, b, c, d, e, f, g, h, i⟩ := h; exact ⟨a, b, c, d, e, f, g, t.trans h, i⟩
theorem DEP.tx {Q : DQ} {u : Value} (t : Gx H S H' S') (h : DEP X pins σv H' S' Q u s) : DEP X pins σv H S Q u s := by
  obtain ⟨v, d, H2, S2, h1, h2, h3, h4, h5, h6⟩ := h
  exact ⟨v, d, H2, S2, h1, h2, t.trans h3, h4, h5, h6⟩
theorem DTP.tx {Q : Bool → Store → Prop} {b : Bool} (t : Gx H S H' S') (h : DTP X pins σv H' S' Q b s) : DTP X pins σv H S Q b s := by
  obtain ⟨H2, S2, h1, h2, h3, h6⟩ := h
  exact ⟨H2, S2, h1, h2, t.trans h3, h6⟩
theorem DAP.tx {n : Nat} {Q : List D → Store → Prop} {us : List Value} (t : Gx H S H' S') (h : DAP X pins σv H' S' n Q us s) : DAP X pins σv H S n Q us s := by
  obtain ⟨v, d, H2, S2, hn, h1, h2, h3, h4, h5, h6⟩ := h
  exact ⟨v, d, H2, S2, hn, h1, h2, t.trans h3, h4, h5, h6⟩
end

/-! ### from the layer's judgements -/
section
variable {X : Cx} {B : Hp × Store} {e : Expr}
theorem DE.of {te : TE} {t : DTE} (h : PE X e te)
    (ref : ∀ σv H σ S Q, SlR H σv σ → RelS X.prog X.w X.K H S → t σ S Q → te σv H (fun v H' => ∃ d S', RelS X.prog X.w X.K H' S' ∧ Gx H S H' S' ∧ Rp H' d v ∧ Q d S')) : DE X B e t :=
  ⟨fun pins s σv H σ S Q I q => thn (h.run pins s σv H _ I.inv (ref σv H σ S Q I.sl I.st q)) fun u s' ⟨v, H', J, r, d, S', a, b, c, q⟩ => ⟨v, d, H', S', J, a, b, r, c, q⟩⟩

/-! ### names and constants -/
def dVar (i : Nat) : DTE := fun σ S Q => match σ[i]? with | some (some d) => Q d S | _ => False
@[simp] def dC (d : D) : DTE := fun _ S Q => Q d S
theorem de_var {i : Nat} {x : Str} {pos : Pos} (h : PE X (.Name x pos) (tVar i)) : DE X B (.Name x pos) (dVar i) := by
  refine .of h fun σv H σ S Q sl r q => ?_
  unfold dVar at q
  split at q
  · rename_i d e
    obtain ⟨v, h1, h2⟩ := sl.2 i d e
    exact ⟨v, h1, d, S, r, Gx.refl, h2, q⟩
  · exact q.elim
theorem dv (i : Nat) {x : Str} {pos : Pos} (hN : X.N[i]? = some x := by rfl) (hv : Vis X.env.scope x := by first | exact Or.inl rfl | exact Or.inr (Or.inl rfl) | exact Or.inr (Or.inr rfl)) (hd : (x == ("__debug__" : Str)) = false := by decide)
    (hcd : (x == ("__classdict__" : Str)) = false := by decide) : DE X B (.Name x pos) (dVar i) := de_var (pe_var hN hv hd hcd)
theorem de_int {i j pos} : DE X B (.Constant (.int i) j pos) (dC (.int i)) := .of pe_int fun _ _ _ S _ _ r q => ⟨.int i, S, r, Gx.refl, rfl, q⟩
theorem de_bl {i j pos} : DE X B (.Constant (.bool i) j pos) (dC (.bl i)) := .of pe_bl fun _ _ _ S _ _ r q => ⟨.bl i, S, r, Gx.refl, rfl, q⟩
theorem de_non {j pos} : DE X B (.Constant .none j pos) (dC .non) := .of pe_non fun _ _ _ S _ _ r q => ⟨.non, S, r, Gx.refl, rfl, q⟩
theorem de_str {i j pos} : DE X B (.Constant (.str i) j pos) (dC (.str i)) := .of pe_str fun _ _ _ S _ _ r q => ⟨.str i, S, r, Gx.refl, rfl, q⟩
/-- a module's constant -/
theorem de_glob {x : Str} {d : D} {v : V} {u : Value} {pos : Pos} (hg : Gl X x) (hm : X.mg x = some u) (r : RelV v u) (rd : ∀ H, Rp H d v) (hd : (x == ("__debug__" : Str)) = false := by decide) : DE X B (.Name x pos) (dC d) :=
  .of (pe_glob hg hm r hd) fun _ H _ S _ _ r q => ⟨_, S, r, Gx.refl, rd H, q⟩
theorem de_ty {x : Str} {n : String} {pos : Pos} (hg : Gl X x) (hm : X.mg x = none) (hv : bootBuiltins x = some (.type n)) (hn : x ≠ "__name__" := by decide) (hd : (x == ("__debug__" : Str)) = false := by decide) : DE X B (.Name x pos) (dC (.ty n)) :=
  .of (pe_bltn (v := .ty n) hg hm hv rfl hn hd) fun _ _ _ S _ _ r q => ⟨.ty n, S, r, Gx.refl, rfl, q⟩

/-! ### two expressions in a row -/
theorem dbin {a b : Expr} {ta tb : DTE} (ha : DE X B a ta) (hb : DE X B b tb) {pins : List (Addr × Obj)} {s : Shared} {σv : L2.St} {H : Hp} {σ : DSt} {S : Store} {R : D → D → Store → Prop} (I : DI X B pins σv H σ S s) (h : ta σ S fun x S1 => tb σ S1 fun y S2 => R x y S2)
    {α : Type} {Q : α → Shared → Prop} {f : Value → Value → Sem α}
    (hf : ∀ v u s2 x y dx dy H2 S2, Inv X pins σv H2 s2 → RelS X.prog X.w X.K H2 S2 → Gx H S H2 S2 → RelV x v → RelV y u → Rp H2 dx x → Rp H2 dy y → R dx dy S2 → wpAny (model X.prog X.w) X.A (f v u) Q X.xe s2) :
    wpAny (model X.prog X.w) X.A (eval a X.env) (fun v s₁ => wpAny (model X.prog X.w) X.A (eval b X.env) (fun u s₂ => wpAny (model X.prog X.w) X.A (f v u) Q X.xe s₂) X.xe s₁) X.xe s := by
  refine thn (ha.run pins s σv H σ S _ I h) fun v s1 ⟨x, dx, H1, S1, I1, r1, t1, rx, px, q1⟩ => ?_
  refine thn (hb.run pins s1 σv H1 σ S1 _ (I.to I1 r1 t1) q1) fun u s2 ⟨y, dy, H2, S2, I2, r2, t2, ry, py, q2⟩ => ?_
  exact hf v u s2 x y dx dy H2 S2 I2 r2 (t1.trans t2) rx ry (px.mono (t2.tx r1)) py q2
abbrev DR2 := D → D → Store → DQ → Prop
/-- an operation on two values -/
def DOpR (X : Cx) (f : Value → Value → Sem Value) (r : DR2) : Prop :=
  ∀ (pins : List (Addr × Obj)) (s : Shared) (σv : L2.St) (H : Hp) (S : Store) (x y : V) (dx dy : D) (v u : Value) (Q : DQ), Inv X pins σv H s → RelS X.prog X.w X.K H S → RelV x v → RelV y u → Rp H dx x → Rp H dy y → r dx dy S Q →
    wpAny (model X.prog X.w) X.A (f v u) (DEP X pins σv H S Q) X.xe s
def DUnR (X : Cx) (f : Value → Sem Value) (r : D → Store → DQ → Prop) : Prop :=
  ∀ (pins : List (Addr × Obj)) (s : Shared) (σv : L2.St) (H : Hp) (S : Store) (x : V) (dx : D) (v : Value) (Q : DQ), Inv X pins σv H s → RelS X.prog X.w X.K H S → RelV x v → Rp H dx x → r dx S Q →
    wpAny (model X.prog X.w) X.A (f v) (DEP X pins σv H S Q) X.xe s
def DCallR (X : Cx) (f : Value) (r : List D → Store → DQ → Prop) : Prop :=
  ∀ (pins : List (Addr × Obj)) (s : Shared) (σv : L2.St) (H : Hp) (S : Store) (xs : List V) (ds : List D) (us : List Value) (Q : DQ), Inv X pins σv H s → RelS X.prog X.w X.K H S → Vals xs us → Rps H ds xs → r ds S Q →
    wpAny (model X.prog X.w) X.A (call f us) (DEP X pins σv H S Q) X.xe s
theorem DOpR.of {f : Value → Value → Sem Value} {rv : R2} {r : DR2} (h : OpR X f rv)
    (ref : ∀ H S x y dx dy Q, RelS X.prog X.w X.K H S → Rp H dx x → Rp H dy y → r dx dy S Q → rv x y H (fun v H' => ∃ d S', RelS X.prog X.w X.K H' S' ∧ Gx H S H' S' ∧ Rp H' d v ∧ Q d S')) : DOpR X f r :=
  fun pins s σv H S x y dx dy v u Q I r rx ry px py q => thn (h pins s σv H x y v u _ I rx ry (ref H S x y dx dy Q r px py q)) fun u s' ⟨v, H', J, r, d, S', a, b, c, q⟩ => ⟨v, d, H', S', J, a, b, r, c, q⟩
theorem DUnR.of {f : Value → Sem Value} {rv : V → Hp → VK → Prop} {r : D → Store → DQ → Prop} (h : UnR X f rv)
    (ref : ∀ H S x dx Q, RelS X.prog X.w X.K H S → Rp H dx x → r dx S Q → rv x H (fun v H' => ∃ d S', RelS X.prog X.w X.K H' S' ∧ Gx H S H' S' ∧ Rp H' d v ∧ Q d S')) : DUnR X f r :=
  fun pins s σv H S x dx v Q I r rx px q => thn (h pins s σv H x v _ I rx (ref H S x dx Q r px q)) fun u s' ⟨v, H', J, r, d, S', a, b, c, q⟩ => ⟨v, d, H', S', J, a, b, r, c, q⟩
theorem DCallR.of {f : Value} {rv : List V → Hp → VK → Prop} {r : List D → Store → DQ → Prop} (h : CallR X f rv)
    (ref : ∀ H S xs ds Q, RelS X.prog X.w X.K H S → Rps H ds xs → r ds S Q → rv xs H (fun v H' => ∃ d S', RelS X.prog X.w X.K H' S' ∧ Gx H S H' S' ∧ Rp H' d v ∧ Q d S')) : DCallR X f r :=
  fun pins s σv H S xs ds us Q I r rx px q => thn (h pins s σv H xs us _ I rx (ref H S xs ds Q r px q)) fun u s' ⟨v, H', J, r, d, S', a, b, c, q⟩ => ⟨v, d, H', S', J, a, b, r, c, q⟩
@[simp] def dOp (r : DR2) (ta tb : DTE) : DTE := fun σ S Q => ta σ S fun x S1 => tb σ S1 fun y S2 => r x y S2 Q
@[simp] def dUn (r : D → Store → DQ → Prop) (ta : DTE) : DTE := fun σ S Q => ta σ S fun x S1 => r x S1 Q
variable {a b c : Expr} {ta tb tc : DTE} {pos : Pos}
theorem de_op {op : Operator} {r : DR2} (ho : DOpR X (binaryOp op) r) (ha : DE X B a ta) (hb : DE X B b tb) : DE X B (.BinOp a op b pos) (dOp r ta tb) := by
  refine ⟨fun pins s σv H σ S Q I h => ?_⟩
  exact wpAny_BinOp (dbin ha hb I h fun v u s2 x y dx dy H2 S2 I2 r2 t2 rx ry px py q => thn (ho pins s2 σv H2 S2 x y dx dy v u Q I2 r2 rx ry px py q) fun _ _ h => h.tx t2)
theorem de_un {op : UnaryOp} {r : D → Store → DQ → Prop} (ho : DUnR X (unaryOp op) r) (ha : DE X B a ta) : DE X B (.UnaryOp op a pos) (dUn r ta) := by
  refine ⟨fun pins s σv H σ S Q I h => ?_⟩
  refine UnaryOp_ (thn (ha.run pins s σv H σ S _ I h) fun v s1 ⟨x, dx, H1, S1, I1, r1, t1, rx, px, q1⟩ => ?_)
  exact thn (ho pins s1 σv H1 S1 x dx v Q I1 r1 rx px q1) fun _ _ h => h.tx t1
theorem de_cmp {op : CmpOp} {r : DR2} (ho : DOpR X (compareOp op) r) (ha : DE X B a ta) (hb : DE X B b tb) (hm : behindInMarks op b = false) : DE X B (.Compare a [op] [b] pos) (dOp r ta tb) := by
  refine ⟨fun pins s σv H σ S Q I h => ?_⟩
  refine wpAny_Compare1 ?_ hm
  exact dbin ha hb I h fun v u s2 x y dx dy H2 S2 I2 r2 t2 rx ry px py q => thn (ho pins s2 σv H2 S2 x y dx dy v u Q I2 r2 rx ry px py q) fun _ _ h => h.tx t2

/-! ### tests -/
@[simp] def dBool : D → Store → (Bool → Store → Prop) → Prop
  | .bl b, S, Q => Q b S
  | _, _, _ => False
@[simp] def dB (t : DTE) : DTT := fun σ S Q => t σ S fun x S1 => dBool x S1 Q
theorem of_dBool {d : D} {S : Store} {Q : Bool → Store → Prop} (h : dBool d S Q) : ∃ b, d = .bl b ∧ Q b S := by
  cases d with
  | bl b => exact ⟨b, rfl, h⟩
  | _ => exact h.elim
theorem dt_cmp {op : CmpOp} {r : DR2} (ho : DOpR X (compareOp op) r) (ha : DE X B a ta) (hb : DE X B b tb) (hm : behindInMarks op b = false) : DT X B (.Compare a [op] [b] pos) (dB (dOp r ta tb)) := by
  refine ⟨fun pins s σv H σ S Q I h => ?_⟩
  refine wpAny_isTrue_Compare1 ?_ hm
  refine dbin ha hb I h fun v u s2 x y dx dy H2 S2 I2 r2 t2 rx ry px py q => thn (ho pins s2 σv H2 S2 x y dx dy v u _ I2 r2 rx ry px py q) fun z s3 ⟨w, d, H3, S3, I3, r3, t3, rz, pz, q3⟩ => ?_
  obtain ⟨k, rfl, q4⟩ := of_dBool q3
  cases (show w = .bl k from pz)
  cases (show z = Value.bool k from rz)
  exact wpAny_truthy_bool ⟨H3, S3, I3, r3, t2.trans t3, q4⟩
/-- a bool's expression as a test -/
theorem dt_val {e : Expr} {t : DTE} (h : DE X B e t) (he : ∀ whole, isTrue e X.env whole = (do let v ← whole; standAt e.pos; holding [v] (truthy v)) := by intro _; rfl) : DT X B e (dB t) := by
  refine ⟨fun pins s σv H σ S Q I hw => ?_⟩
  refine isTrue_plain (thn (h.run pins s σv H σ S _ I hw) fun v s1 ⟨x, d, H1, S1, I1, r1, t1, rx, px, q1⟩ => ?_) (he _)
  obtain ⟨k, rfl, q4⟩ := of_dBool q1
  cases (show x = .bl k from px)
  cases (show v = Value.bool k from rx)
  exact wpAny_truthy_bool ⟨H1, S1, I1, r1, t1, q4⟩
/-- truth of a thing -/
@[simp] def dTru : D → Store → (Bool → Store → Prop) → Prop
  | .bl b, S, Q => Q b S
  | .non, S, Q => Q false S
  | .int i, S, Q => Q (i != 0) S
  | .tup ds, S, Q => Q (!ds.isEmpty) S
  | .loc a, S, Q => match S a with
    | some (.lst ds) => Q (!ds.isEmpty) S
    | _ => False
  | _, _, _ => False
@[simp] def dTr (t : DTE) : DTT := fun σ S Q => t σ S fun x S1 => dTru x S1 Q
theorem tru_of {pins : List (Addr × Obj)} {s : Shared} {σv : L2.St} {H : Hp} {S : Store} {Q : Bool → Store → Prop} {v : Value} {x : V} {d : D} (I : Inv X pins σv H s) (r : RelS X.prog X.w X.K H S) (rx : RelV x v) (px : Rp H d x) (q : dTru d S Q) :
    wpAny (model X.prog X.w) X.A (truthy v) (DTP X pins σv H S Q) X.xe s := by
  have fin : ∀ k, TruV X.K x H k → Q k S → wpAny (model X.prog X.w) X.A (truthy v) (DTP X pins σv H S Q) X.xe s := fun k h1 h2 =>
    thn (tru_ok (X := X) pins s σv H x v (fun b H' => b = k ∧ H' = H) I rx ⟨k, h1, rfl, rfl⟩) fun b s' ⟨H', I', e1, e2⟩ => by
      subst e1; subst e2
      exact ⟨_, S, I', r, Gx.refl, h2⟩
  cases d with
  | bl b => cases (show x = .bl b from px); exact fin b (by simp [TruV]) q
  | non => cases (show x = .non from px); exact fin false (by simp [TruV]) q
  | int i => cases (show x = .int i from px); exact fin _ (by simp [TruV]) q
  | tup ds =>
    obtain ⟨p, xs, rfl, h1, h2⟩ := px
    refine fin (!ds.isEmpty) ?_ q
    have e : (!ds.isEmpty) = !xs.isEmpty := by
      have := h2.length
      cases ds <;> cases xs <;> simp_all
    rw [e]
    exact .inr (.inl ⟨xs, .of h1, rfl⟩)
  | loc p =>
    cases (show x = .ref p from px)
    have q : (match S p with | some (.lst ds) => Q (!ds.isEmpty) S | _ => False) := q
    split at q
    · rename_i ds e
      obtain ⟨xs, h1, h2⟩ := r p _ e
      refine fin (!ds.isEmpty) ?_ q
      have e : (!ds.isEmpty) = !xs.isEmpty := by
        have := h2.length
        cases ds <;> cases xs <;> simp_all
      rw [e]
      exact .inl ⟨xs, .of h1, rfl⟩
    · exact q.elim
  | str _ => exact q.elim
  | ty _ => exact q.elim
end
end DL

namespace DL
open PySem PySem.Spec PyProof.Rows L2
section
variable {X : Cx} {B : Hp × Store} {a b c e : Expr} {ta tb tc : DTE} {pos : Pos} {tA tB : DTT} {rest : List Expr}
/-- a thing's truth as a test -/
theorem dt_tru {e : Expr} {t : DTE} (h : DE X B e t) (he : ∀ whole, isTrue e X.env whole = (do let v ← whole; standAt e.pos; holding [v] (truthy v)) := by intro _; rfl) : DT X B e (dTr t) := by
  refine ⟨fun pins s σv H σ S Q I hw => ?_⟩
  refine isTrue_plain (thn (h.run pins s σv H σ S _ I hw) fun v s1 ⟨x, d, H1, S1, I1, r1, t1, rx, px, q1⟩ => ?_) (he _)
  exact thn (tru_of I1 r1 rx px q1) fun _ _ h => h.tx t1
@[simp] def dAnd (t u : DTT) : DTT := fun σ S Q => t σ S fun c S1 => if c = true then u σ S1 Q else Q false S1
@[simp] def dOr (t u : DTT) : DTT := fun σ S Q => t σ S fun c S1 => if c = true then Q true S1 else u σ S1 Q
@[simp] def dNot (t : DTT) : DTT := fun σ S Q => t σ S fun c S1 => Q (!c) S1
theorem dw_and1 (ha : DT X B a tA) : DW X B (.BoolOp .And [a] pos) tA := by
  refine ⟨fun wh pins s σv H σ S Q I h => ?_⟩
  refine isTrue_and (thn (ha.run pins s σv H σ S Q I h) fun c s1 e => ?_)
  cases c with
  | true => exact isTrue_and_nil e
  | false => exact e
theorem dw_or1 (ha : DT X B a tA) : DW X B (.BoolOp .Or [a] pos) tA := by
  refine ⟨fun wh pins s σv H σ S Q I h => ?_⟩
  refine isTrue_or (thn (ha.run pins s σv H σ S Q I h) fun c s1 e => ?_)
  cases c with
  | false => exact isTrue_or_nil e
  | true => exact e
theorem dw_and (ha : DT X B a tA) (hb : DW X B (.BoolOp .And (b :: rest) pos) tB) : DW X B (.BoolOp .And (a :: b :: rest) pos) (dAnd tA tB) := by
  refine ⟨fun wh pins s σv H σ S Q I h => ?_⟩
  refine isTrue_and (thn (ha.run pins s σv H σ S _ I h) fun c s1 ⟨H1, S1, I1, r1, t1, q1⟩ => ?_)
  cases c with
  | true => exact thn (hb.run wh pins s1 σv H1 σ S1 Q (I.to I1 r1 t1) q1) fun _ _ h => h.tx t1
  | false => exact ⟨H1, S1, I1, r1, t1, q1⟩
theorem dw_or (ha : DT X B a tA) (hb : DW X B (.BoolOp .Or (b :: rest) pos) tB) : DW X B (.BoolOp .Or (a :: b :: rest) pos) (dOr tA tB) := by
  refine ⟨fun wh pins s σv H σ S Q I h => ?_⟩
  refine isTrue_or (thn (ha.run pins s σv H σ S _ I h) fun c s1 ⟨H1, S1, I1, r1, t1, q1⟩ => ?_)
  cases c with
  | true => exact ⟨H1, S1, I1, r1, t1, q1⟩
  | false => exact thn (hb.run wh pins s1 σv H1 σ S1 Q (I.to I1 r1 t1) q1) fun _ _ h => h.tx t1
theorem dt_not (ha : DT X B a tA) : DT X B (.UnaryOp .Not a pos) (dNot tA) := by
  refine ⟨fun pins s σv H σ S Q I h => ?_⟩
  exact isTrue_not (ha.run pins s σv H σ S (fun c S1 => Q (!c) S1) I h)
/-- .. as values -/
@[simp] def dAndV (ta tb : DTE) : DTE := fun σ S Q => ta σ S fun x S1 => dBool x S1 fun c S2 => if c = true then tb σ S2 Q else Q (.bl false) S2
@[simp] def dOrV (ta tb : DTE) : DTE := fun σ S Q => ta σ S fun x S1 => dBool x S1 fun c S2 => if c = true then Q (.bl true) S2 else tb σ S2 Q
@[simp] def dNotV (ta : DTE) : DTE := fun σ S Q => ta σ S fun x S1 => dTru x S1 fun c S2 => Q (.bl (!c)) S2
theorem de_one {op} {t : DTE} (h : DE X B a t) : DE X B (.BoolOp op [a] pos) t := ⟨fun pins s σv H σ S Q I hw => BoolOp_one (h.run pins s σv H σ S Q I hw)⟩
theorem de_and (ha : DE X B a ta) (hb : DE X B (.BoolOp .And (b :: rest) pos) tb) : DE X B (.BoolOp .And (a :: b :: rest) pos) (dAndV ta tb) := by
  refine ⟨fun pins s σv H σ S Q I h => ?_⟩
  refine BoolOp_and (thn (ha.run pins s σv H σ S _ I h) fun v s1 ⟨x, d, H1, S1, I1, r1, t1, rx, px, q1⟩ => ?_)
  obtain ⟨k, rfl, q4⟩ := of_dBool q1
  cases (show x = .bl k from px)
  cases (show v = Value.bool k from rx)
  refine wpAny_truthy_bool ?_
  cases k with
  | true => exact thn (hb.run pins s1 σv H1 σ S1 Q (I.to I1 r1 t1) q4) fun _ _ h => h.tx t1
  | false => exact ⟨.bl false, .bl false, H1, S1, I1, r1, t1, rfl, rfl, q4⟩
theorem de_or (ha : DE X B a ta) (hb : DE X B (.BoolOp .Or (b :: rest) pos) tb) : DE X B (.BoolOp .Or (a :: b :: rest) pos) (dOrV ta tb) := by
  refine ⟨fun pins s σv H σ S Q I h => ?_⟩
  refine BoolOp_or (thn (ha.run pins s σv H σ S _ I h) fun v s1 ⟨x, d, H1, S1, I1, r1, t1, rx, px, q1⟩ => ?_)
  obtain ⟨k, rfl, q4⟩ := of_dBool q1
  cases (show x = .bl k from px)
  cases (show v = Value.bool k from rx)
  refine wpAny_truthy_bool ?_
  cases k with
  | false => exact thn (hb.run pins s1 σv H1 σ S1 Q (I.to I1 r1 t1) q4) fun _ _ h => h.tx t1
  | true => exact ⟨.bl true, .bl true, H1, S1, I1, r1, t1, rfl, rfl, q4⟩
theorem de_not (ha : DE X B a ta) : DE X B (.UnaryOp .Not a pos) (dNotV ta) := by
  refine ⟨fun pins s σv H σ S Q I h => ?_⟩
  refine UnaryOp_ (thn (ha.run pins s σv H σ S _ I h) fun v s1 ⟨x, d, H1, S1, I1, r1, t1, rx, px, q1⟩ => ?_)
  refine not_of (thn (tru_of I1 r1 rx px q1) fun k s2 ⟨H2, S2, I2, r2, t2, q2⟩ => ?_)
  exact ⟨.bl (!k), .bl (!k), H2, S2, I2, r2, t1.trans t2, rfl, rfl, q2⟩
@[simp] def dIf (t : DTT) (ta tb : DTE) : DTE := fun σ S Q => t σ S fun c S1 => if c = true then ta σ S1 Q else tb σ S1 Q
theorem de_if (hc : DT X B c tA) (ha : DE X B a ta) (hb : DE X B b tb) : DE X B (.IfExp c a b pos) (dIf tA ta tb) := by
  refine ⟨fun pins s σv H σ S Q I h => ?_⟩
  refine wpAny_IfExp (thn (hc.run pins s σv H σ S _ I h) fun d s1 ⟨H1, S1, I1, r1, t1, q1⟩ => ?_)
  cases d with
  | true => exact thn (ha.run pins s1 σv H1 σ S1 Q (I.to I1 r1 t1) q1) fun _ _ h => h.tx t1
  | false => exact thn (hb.run pins s1 σv H1 σ S1 Q (I.to I1 r1 t1) q1) fun _ _ h => h.tx t1
/-- a op b op' c -/
@[simp] def dChain (r r' : DR2) (ta tb tc : DTE) : DTE := fun σ S Q => ta σ S fun x S1 => tb σ S1 fun y S2 => r x y S2 fun z S3 => dBool z S3 fun k S4 => if k = true then tc σ S4 fun w' S5 => r' y w' S5 Q else Q (.bl false) S4
theorem de_chain {op op' : CmpOp} {r r' : DR2} (ho : DOpR X (compareOp op) r) (ho' : DOpR X (compareOp op') r') (ha : DE X B a ta) (hb : DE X B b tb) (hc : DE X B c tc)
    (hm : lastMarks [op, op'] [b, c] = false := by with_unfolding_all rfl) : DE X B (.Compare a [op, op'] [b, c] pos) (dChain r r' ta tb tc) := by
  refine ⟨fun pins s σv H σ S Q I h => ?_⟩
  refine Compare_chain (thn (ha.run pins s σv H σ S _ I h) fun v s1 ⟨x, dx, H1, S1, I1, r1, t1, rx, px, q1⟩ => chain_link (thn (hb.run pins s1 σv H1 σ S1 _ (I.to I1 r1 t1) q1) fun u s2 ⟨y, dy, H2, S2, I2, r2, t2, ry, py, q2⟩ =>
    thn (ho pins s2 σv H2 S2 x y dx dy v u _ I2 r2 rx ry (px.mono (t2.tx r1)) py q2) fun z s3 ⟨zv, dz, H3, S3, I3, r3, t3, rz, pz, q3⟩ => ?_)) hm
  obtain ⟨k, rfl, q4⟩ := of_dBool q3
  cases (show zv = .bl k from pz)
  cases (show z = Value.bool k from rz)
  refine wpAny_truthy_bool ?_
  cases k with
  | false => exact ite_ff ⟨.bl false, .bl false, H3, S3, I3, r3, (t1.trans t2).trans t3, rfl, rfl, q4⟩
  | true => exact ite_tt (chain_last (thn (hc.run pins s3 σv H3 σ S3 _ (I.to I3 r3 ((t1.trans t2).trans t3)) q4) fun w' s4 ⟨z', dz', H4, S4, I4, r4, t4, rz', pz', q4⟩ =>
    thn (ho' pins s4 σv H4 S4 y z' dy dz' u w' Q I4 r4 ry rz' ((py.mono (t3.tx r2)).mono (t4.tx r3)) pz' q4) fun _ _ h => h.tx (((t1.trans t2).trans t3).trans t4)))
theorem dt_chain {op op' : CmpOp} {r r' : DR2} (ho : DOpR X (compareOp op) r) (ho' : DOpR X (compareOp op') r') (ha : DE X B a ta) (hb : DE X B b tb) (hc : DE X B c tc)
    (hm : lastMarks [op, op'] [b, c] = false := by with_unfolding_all rfl) : DT X B (.Compare a [op, op'] [b, c] pos) (dB (dChain r r' ta tb tc)) := by
  refine ⟨fun pins s σv H σ S Q I h => ?_⟩
  refine isTrue_chain (thn (ha.run pins s σv H σ S _ I h) fun v s1 ⟨x, dx, H1, S1, I1, r1, t1, rx, px, q1⟩ => test_link (thn (hb.run pins s1 σv H1 σ S1 _ (I.to I1 r1 t1) q1) fun u s2 ⟨y, dy, H2, S2, I2, r2, t2, ry, py, q2⟩ =>
    thn (ho pins s2 σv H2 S2 x y dx dy v u _ I2 r2 rx ry (px.mono (t2.tx r1)) py q2) fun z s3 ⟨zv, dz, H3, S3, I3, r3, t3, rz, pz, q3⟩ => ?_)) hm
  obtain ⟨k, rfl, q4⟩ := of_dBool q3
  cases (show zv = .bl k from pz)
  cases (show z = Value.bool k from rz)
  refine wpAny_truthy_bool ?_
  cases k with
  | false => exact ite_ff ⟨H3, S3, I3, r3, (t1.trans t2).trans t3, q4⟩
  | true =>
    refine ite_tt (test_last (thn (hc.run pins s3 σv H3 σ S3 _ (I.to I3 r3 ((t1.trans t2).trans t3)) q4) fun w' s4 ⟨z', dz', H4, S4, I4, r4, t4, rz', pz', q4⟩ =>
      thn (ho' pins s4 σv H4 S4 y z' dy dz' u w' _ I4 r4 ry rz' ((py.mono (t3.tx r2)).mono (t4.tx r3)) pz' q4) fun z2 s5 ⟨zv2, dz2, H5, S5, I5, r5, t5, rz2, pz2, q5⟩ => ?_))
    obtain ⟨k, rfl, q6⟩ := of_dBool q5
    cases (show zv2 = .bl k from pz2)
    cases (show z2 = Value.bool k from rz2)
    exact wpAny_truthy_bool ⟨H5, S5, I5, r5, (((t1.trans t2).trans t3).trans t4).trans t5, q6⟩
end

/-! ### argument lists, displays -/
section
variable {X : Cx} {B : Hp × Store} {e : Expr} {es : List Expr} {te : DTE} {t : DTA} {pos : Pos}
@[simp] def dNil : DTA := fun _ S Q => Q [] S
@[simp] def dCons (ta : DTE) (tr : DTA) : DTA := fun σ S Q => ta σ S fun x S1 => tr σ S1 fun xs S2 => Q (x :: xs) S2
theorem da_nil : DA X B [] dNil := ⟨fun _ pins s σv H σ S Q I h => Calls.spliced_nil ⟨[], [], H, S, rfl, I.inv, I.st, Gx.refl, .nil, rfl, h⟩⟩
theorem da_cons (ha : DE X B e te) (hr : DA X B es t) (hs : starEach (e :: es) X.env = (false, eval e X.env) :: starEach es X.env := by rfl) : DA X B (e :: es) (dCons te t) := by
  refine ⟨fun pos pins s σv H σ S Q I h => ?_⟩
  rw [hs]
  show wpAny _ _ (spliced ((false, eval e X.env) :: backTo pos (starEach es X.env))) _ _ s
  refine Calls.spliced_cons (thn (ha.run pins s σv H σ S _ I h) fun u s1 ⟨x, d, H1, S1, I1, r1, t1, rx, px, q1⟩ => ?_)
  exact thn (hr.run pos pins s1 σv H1 σ S1 _ (I.to I1 r1 t1) q1) fun us s2 ⟨xs, ds, H2, S2, hn2, I2, r2, t2, rxs, pxs, q2⟩ => ⟨x :: xs, d :: ds, H2, S2, by simp [hn2], I2, r2, t1.trans t2, .cons rx rxs, ⟨x, xs, rfl, px.mono (t2.tx r1), pxs⟩, q2⟩
/-- a written tuple: few items -/
@[simp] def dTup (t : DTA) : DTE := fun σ S Q => t σ S fun xs S1 => Q (.tup xs) S1
@[simp] def dLst (t : DTA) : DTE := fun σ S Q => t σ S fun xs S1 => ∀ p, S1 p = none → Q (.loc p) (put S1 p (.lst xs))
theorem de_tup {x1} (h : DA X B es t) (z : es.length ≤ sizeLine := by decide) : DE X B (.Tuple es x1 pos) (dTup t) := by
  refine ⟨fun pins s σv H σ S Q I hq => ?_⟩
  refine wpAny_Tuple_spliced (thn (h.run pos pins s σv H σ S _ I hq) fun us s1 ⟨xs, ds, H1, S1, hn, I1, r1, t1, rx, px, q⟩ => ⟨by rw [← rx.length, px.length, hn]; exact z, ?_⟩)
  have hf : H1 s1.heap.objs.size = none := I1.hok.fresh (Nat.le_refl _)
  refine ⟨.ref s1.heap.objs.size, .tup ds, upd H1 s1.heap.objs.size (.tup xs), S1, I1.laid (t' := s1.toks) (fun b u e => Heap.get?_push_of_some _ e) (Nat.le_refl _) ?_, r1.grow hf, t1.trans (Gx.grow hf), rfl, ⟨_, xs, rfl, upd_same, px.mono (Tx.new hf)⟩, q⟩
  exact ⟨by rw [px.length, hn]; exact z, us, rx, ⟨_, Heap.get?_push_size _ rfl, rfl, _, rfl⟩⟩
theorem de_lst (h : DA X B es t) (z : es.length ≤ sizeLine := by decide) : DE X B (.List es pos) (dLst t) := by
  refine ⟨fun pins s σv H σ S Q I hq => ?_⟩
  refine wpAny_List_spliced (thn (h.run pos pins s σv H σ S _ I hq) fun us s1 ⟨xs, ds, H1, S1, hn, I1, r1, t1, rx, px, q⟩ => ⟨by rw [← rx.length, px.length, hn]; exact z, ?_⟩)
  have hf : H1 s1.heap.objs.size = none := I1.hok.fresh (Nat.le_refl _)
  refine ⟨.ref s1.heap.objs.size, .loc s1.heap.objs.size, upd H1 s1.heap.objs.size (.lst xs), put S1 s1.heap.objs.size (.lst ds), I1.laid (t' := s1.toks) (fun b u e => Heap.get?_push_of_some _ e) (Nat.le_refl _) ?_, r1.new hf ⟨xs, upd_same, px.mono (Tx.new hf)⟩, t1.trans (Gx.new hf), rfl, rfl, q _ (r1.free hf)⟩
  exact ⟨by rw [px.length, hn]; exact z, us, 0, rx, Heap.get?_push_size _ rfl⟩
end

/-! ### statements -/
section
variable {X : Cx} {B : Hp × Store} {st : Stmt} {rest : List Stmt} {t u : DTS} {e : Expr} {te : DTE} {pos : Pos}
@[simp] def dNext : DTS := fun D σ S => D.nx σ S
@[simp] def dSeq (t u : DTS) : DTS := fun D σ S => t { D with nx := u D } σ S
theorem dss_nil : DSs X B [] dNext := ⟨fun _ _ σv H σ S _ I h => wpAny_execs_nil ⟨σv, H, σ, S, I, Gx.refl, h⟩⟩
theorem dss_cons (h1 : DS X B st t) (h2 : DSs X B rest u) : DSs X B (st :: rest) (dSeq t u) := by
  refine ⟨fun pins s σv H σ S D I h => ?_⟩
  refine wpAny_execs_cons (thn (h1.run pins s σv H σ S { D with nx := u D } I h) fun f s1 q => ?_)
  cases f with
  | next =>
    obtain ⟨σv', H', σ', S', I', t', q⟩ := q
    exact thn (h2.run pins s1 σv' H' σ' S' D I' q) fun _ _ h => h.tx t'
  | ret v => exact q
  | brk => exact q
  | cont => exact q
theorem dss_one (h1 : DS X B st t) : DSs X B [st] t := by
  refine ⟨fun pins s σv H σ S D I h => ?_⟩
  refine wpAny_execs_cons (thn (h1.run pins s σv H σ S D I h) fun f s1 q => ?_)
  cases f with
  | next => exact wpAny_execs_nil q
  | ret v => exact q
  | brk => exact q
  | cont => exact q
theorem ds_pass : DS X B (.Pass pos) dNext := ⟨fun _ _ σv H σ S _ I h => wpAny_Pass ⟨σv, H, σ, S, I, Gx.refl, h⟩⟩
@[simp] def dDrop (te : DTE) : DTS := fun D σ S => te σ S fun _ S1 => D.nx σ S1
theorem ds_expr (he : DE X B e te) (hs : swapsWith e none pos.line X.env = pure false := by rfl) : DS X B (.Expr e pos) (dDrop te) := by
  refine ⟨fun pins s σv H σ S D I h => ?_⟩
  exact wpAny_Expr_any (thn (he.run pins s σv H σ S _ I h) fun v s1 ⟨x, d, H1, S1, I1, r1, t1, rx, px, q1⟩ => ⟨σv, H1, σ, S1, I.to I1 r1 t1, t1, q1⟩) I.inv.quiet hs
@[simp] def dRet (te : DTE) : DTS := fun D σ S => te σ S D.rt
theorem ds_ret (he : DE X B e te) : DS X B (.Return (some e) pos) (dRet te) := by
  refine ⟨fun pins s σv H σ S D I h => ?_⟩
  exact wpAny_Return_some (thn (he.run pins s σv H σ S _ I h) fun v s1 ⟨x, d, H1, S1, I1, r1, t1, rx, px, q1⟩ => ⟨x, d, σv, H1, S1, I1, r1, t1, rx, px, q1⟩)
@[simp] def dIfS (c : DTT) (t u : DTS) : DTS := fun D σ S => c σ S fun b S1 => if b = true then t D σ S1 else u D σ S1
theorem ds_if {c : Expr} {a b : List Stmt} {tc : DTT} (hc : DT X B c tc) (ha : DSs X B a t) (hb : DSs X B b u) : DS X B (.If c a b pos) (dIfS tc t u) := by
  refine ⟨fun pins s σv H σ S D I h => ?_⟩
  refine wpAny_If (thn (hc.run pins s σv H σ S _ I h) fun d s1 ⟨H1, S1, I1, r1, t1, q1⟩ => ?_)
  cases d with
  | true => exact thn (ha.run pins s1 σv H1 σ S1 D (I.to I1 r1 t1) q1) fun _ _ h => h.tx t1
  | false => exact thn (hb.run pins s1 σv H1 σ S1 D (I.to I1 r1 t1) q1) fun _ _ h => h.tx t1
def dNever : DTS := fun _ _ _ => False
theorem ds_never : DS X B st dNever := ⟨fun _ _ _ _ _ _ _ _ h => h.elim⟩
theorem dss_never {sts : List Stmt} : DSs X B sts dNever := ⟨fun _ _ _ _ _ _ _ _ h => h.elim⟩
def dNeverE : DTE := fun _ _ _ => False
theorem de_never : DE X B e dNeverE := ⟨fun _ _ _ _ _ _ _ _ h => h.elim⟩
end

/-! ### targets -/
abbrev DTG := D → DSt → Store → (DSt → Store → Prop) → Prop
abbrev DTGs := List D → DSt → Store → (DSt → Store → Prop) → Prop
structure DG (X : Cx) (B : Hp × Store) (target : Expr) (t : DTG) : Prop where
  run : ∀ (pins : List (Addr × Obj)) (s : Shared) (σv : L2.St) (H : Hp) (σ : DSt) (S : Store) (d : D) (v : V) (u : Value) (Q : DSt → Store → Prop), DI X B pins σv H σ S s → RelV v u → Rp H d v → t d σ S Q →
    wpAny (model X.prog X.w) X.A (assign target X.env u) (fun _ s' => DNX X B pins H S Q s') X.xe s
structure DGs (X : Cx) (B : Hp × Store) (ts : List Expr) (t : DTGs) : Prop where
  run : ∀ (pins : List (Addr × Obj)) (s : Shared) (σv : L2.St) (H : Hp) (σ : DSt) (S : Store) (ds : List D) (vs : List V) (us : List Value) (Q : DSt → Store → Prop), DI X B pins σv H σ S s → Vals vs us → Rps H ds vs → t ds σ S Q →
    wpAny (model X.prog X.w) X.A (assignInOrder ((assignEach ts X.env).map (·.2)) us) (fun _ s' => DNX X B pins H S Q s') X.xe s
section
variable {X : Cx} {B : Hp × Store} {pos : Pos}
@[simp] def gN (i : Nat) : DTG := fun d σ S Q => Q (σ.set i (some d)) S
theorem dstore {pins : List (Addr × Obj)} {s : Shared} {σv : L2.St} {H : Hp} {σ : DSt} {S : Store} {d : D} {v : V} {u : Value} {i : Nat} {x : Str} {Q : Unit → Shared → Prop} (I : DI X B pins σv H σ S s) (hN : X.N.Nodup) (hi : X.N[i]? = some x) (hx : Loc X.env.scope x) (r : RelV v u) (p : Rp H d v)
    (h : ∀ s', DI X B pins (σv.set i (some v)) H (σ.set i (some d)) S s' → Q () s') (hf : X.fn x = true ∨ X.env.scope.names.lookup x = some .local := by first | exact .inl rfl | exact .inr rfl | assumption) : wpAny (model X.prog X.w) X.A (storeName X.env x u) Q X.xe s :=
  store_ok I.inv hN hi hx r (fun s' I' => h s' ⟨I', I.sl.set p, I.st, I.bs⟩) hf
theorem dg_name {i : Nat} {x : Str} (hN : X.N.Nodup) (hi : X.N[i]? = some x) (hx : Loc X.env.scope x) (hf : X.fn x = true ∨ X.env.scope.names.lookup x = some .local := by first | exact .inl rfl | exact .inr rfl | assumption) : DG X B (.Name x pos) (gN i) := by
  refine ⟨fun pins s σv H σ S d v u Q I r p h => ?_⟩
  exact wpAny_assign_Name (dstore I hN hi hx r p (fun s' I' => ⟨_, H, _, S, I', Gx.refl, h⟩) hf)
@[simp] def gsNil : DTGs
  | [], σ, S, Q => Q σ S
  | _ :: _, _, _, _ => False
@[simp] def gsCons (t : DTG) (u : DTGs) : DTGs
  | d :: r, σ, S, Q => t d σ S fun σ' S' => u r σ' S' Q
  | [], _, _, _ => False
theorem dgs_nil : DGs X B [] gsNil := by
  refine ⟨fun pins s σv H σ S ds vs us Q I r p h => ?_⟩
  cases ds with
  | nil =>
    cases (show vs = [] from p)
    cases r
    exact assignInOrder_nil ⟨σv, H, σ, S, I, Gx.refl, h⟩
  | cons d r => exact h.elim
theorem dgs_cons {e : Expr} {es : List Expr} {t : DTG} {u : DTGs} (h1 : DG X B e t) (h2 : DGs X B es u)
    (hs : (assignEach (e :: es) X.env).map (·.2) = assign e X.env :: (assignEach es X.env).map (·.2) := by rfl) : DGs X B (e :: es) (gsCons t u) := by
  refine ⟨fun pins s σv H σ S ds vs us Q I r p h => ?_⟩
  cases ds with
  | nil => exact h.elim
  | cons d ds =>
    obtain ⟨v, vr, rfl, p1, p2⟩ := p
    cases r with
    | cons r rr =>
      rw [hs]
      refine assignInOrder_cons (thn (h1.run pins s σv H σ S _ _ _ _ I r p1 h) fun _ s1 ⟨σ1v, H1, σ1, S1, I1, t1, q1⟩ => ?_)
      refine thn (h2.run pins s1 σ1v H1 σ1 S1 _ _ _ Q I1 rr (p2.mono (t1.tx I.st)) q1) fun _ s2 ⟨a, b, c, d, e, f, g⟩ => ⟨a, b, c, d, e, t1.trans f, g⟩
/-- (a, b, ..) = a tuple of that length -/
@[simp] def gT (n : Nat) (t : DTGs) : DTG
  | .tup ds, σ, S, Q => ds.length = n ∧ t ds σ S Q
  | _, _, _, _ => False
theorem dg_tup {es : List Expr} {k : Nat} {t : DTGs} {n : Nat} (hc : X.calm = true) (h : DGs X B es t)
    (hn : (assignEach es X.env).length = n := by rfl) (hst : (assignEach es X.env).findIdx? (·.1) = none := by rfl) : DG X B (.Tuple es k pos) (gT n t) := by
  refine ⟨fun pins s σv H σ S d v u Q I r p hw => ?_⟩
  cases d with
  | tup ds =>
    obtain ⟨hl, hw⟩ := hw
    obtain ⟨a, xs, rfl, h1, h2⟩ := p
    cases r
    obtain ⟨its, rv, ht, hz⟩ := I.inv.tuple (.of h1)
    refine assign_Tuple_tuple (I.inv.ok.hd hc) ht (by simp [hn, ← hl, rv.length, ← h2.length]) hst fun h' hx => ?_
    have I1 : DI X B pins σv H σ S { s with heap := h' } := ⟨I.inv.kept (t' := s.toks) fun b o e => hx b o (Nat.ne_of_lt (Heap.lt_size e)) e, I.sl, I.st, I.bs⟩
    exact h.run pins _ σv H σ S ds xs _ Q I1 (by simpa using rv) h2 hw
  | _ => exact hw.elim
@[simp] def dAsg (te : DTE) (g : DTG) : DTS := fun D σ S => te σ S fun x S1 => g x σ S1 D.nx
theorem ds_asg {tg e : Expr} {te : DTE} {g : DTG} (he : DE X B e te) (hg : DG X B tg g) (hs : swapsWithSole [tg] e pos.line X.env = pure false := by rfl) (hw : swappedStores [tg] e X.env = pure none := by rfl)
    (h1 : (assignEach [tg] X.env).map (·.2) = [assign tg X.env] := by rfl) : DS X B (.Assign [tg] e pos) (dAsg te g) := by
  refine ⟨fun pins s σv H σ S D I h => ?_⟩
  refine wpAny_Assign_stores (thn (he.run pins s σv H σ S _ I h) fun v s1 ⟨x, d, H1, S1, I1, r1, t1, rx, px, q1⟩ => ?_) hs hw
  rw [h1]
  exact thn (hg.run pins s1 σv H1 σ S1 d x v _ (I.to I1 r1 t1) rx px q1) fun _ s2 ⟨a, b, c, d, e, f, g⟩ => ⟨a, b, c, d, e, t1.trans f, g⟩
theorem ds_set {i : Nat} {x : Str} {e : Expr} {te : DTE} {pos' : Pos} (hN : X.N.Nodup) (hi : X.N[i]? = some x) (hx : Loc X.env.scope x) (he : DE X B e te) (hs : swapsWith e (some (.Name x pos')) pos.line X.env = pure false := by rfl) (hf : X.fn x = true ∨ X.env.scope.names.lookup x = some .local := by first | exact .inl rfl | exact .inr rfl | assumption) :
    DS X B (.Assign [.Name x pos'] e pos) (dAsg te (gN i)) := by
  refine ⟨fun pins s σv H σ S D I h => ?_⟩
  refine wpAny_Assign_Name (thn (he.run pins s σv H σ S _ I h) fun v s1 ⟨y, d, H1, S1, I1, r1, t1, ry, py, q1⟩ => ?_) hs
  exact dstore (I.to I1 r1 t1) hN hi hx ry py (fun s2 I2 => ⟨_, H1, _, S1, I2, t1, q1⟩) hf
/-- a, b = x, y with plain local names -/
@[simp] def dPar (i j : Nat) (ta : DTA) : DTS := fun D σ S => ta σ S fun ds S1 => match ds with
  | [v, w] => D.nx ((σ.set i (some v)).set j (some w)) S1
  | _ => False
theorem ds_par {i j : Nat} {x y : Str} {a b : Expr} {ta : DTA} {px py pt : Pos} {kt k2 pt2} (hc : X.calm = true) (hN : X.N.Nodup) (hi : X.N[i]? = some x) (hj : X.N[j]? = some y) (hij : i ≠ j)
    (hx : X.env.scope.names.lookup x = some .local) (hy : X.env.scope.names.lookup y = some .local) (ha : DA X B [a, b] ta)
    (hw : swappedStores [.Tuple [.Name x px, .Name y py] kt pt] (.Tuple [a, b] k2 pt2) X.env = pure (some [x, y]))
    (hs : swapsWithSole [.Tuple [.Name x px, .Name y py] kt pt] (.Tuple [a, b] k2 pt2) pos.line X.env = pure false := by rfl) :
    DS X B (.Assign [.Tuple [.Name x px, .Name y py] kt pt] (.Tuple [a, b] k2 pt2) pos) (dPar i j ta) := by
  refine ⟨fun pins s σv H σ S D I h => ?_⟩
  rw [exec_Assign_arm]
  refine wpAny_bind (wpAny_standAt ?_)
  rw [hs]
  refine wpAny_bind (wpAny_pure ?_)
  rw [if_neg (by decide)]
  refine wpAny_bind (Tuple_ (thn (ha.run _ pins s σv H σ S _ I h) fun us s1 ⟨vs, ds, H1, S1, hn1, I1, r1, t1, rvs, pvs, q1⟩ => ?_))
  dsimp only at q1
  split at q1
  · rename_i d1 d2
    obtain ⟨v, _, rfl, p1, w, _, rfl, p2, e3⟩ := pvs
    cases (show _ = [] from e3)
    obtain ⟨u1, u2, rfl, rv, rw'⟩ : ∃ u1 u2, us = [u1, u2] ∧ RelV v u1 ∧ RelV w u2 := by
      cases rvs with
      | cons p q =>
        cases q with
        | cons p' q' =>
          cases q'
          exact ⟨_, _, rfl, p, p'⟩
    refine wpAny_newObj_type ?_ (by show 2 ≤ sizeLine; decide)
    have I2 : DI X B pins σv H1 σ S1 { s1 with heap := s1.heap.push { cls := .type "tuple", data := .seq [u1, u2].toArray } } := I.to (I1.kept (t' := s1.toks) fun b o e => Heap.get?_push_of_some _ e) r1 t1
    rw [hw]
    refine wpAny_bind (wpAny_pure ?_)
    show wpAny (model X.prog X.w) X.A (do rule "assign.swapped-stores"; let items ← unpackItems (.ref s1.heap.objs.size) 2 none; assignInOrder [fun v => bindName X.env y v, fun v => bindName X.env x v] items.reverse; pure Flow.next) _ _ _
    refine wpAny_bind (wpAny_rule (wpAny_bind (unpackItems_tuple (items := #[u1, u2]) (I.inv.ok.hd hc) (IsTup.new s1.heap _) fun h' hx' => ?_)))
    have I3 : DI X B pins σv H1 σ S1 _ := ⟨I2.inv.kept (h' := h') (t' := s1.toks) fun b o e => hx' b o (Nat.ne_of_lt (Heap.lt_size e)) e, I2.sl, I2.st, I2.bs⟩
    show wpAny _ _ (assignInOrder [fun v => bindName X.env y v, fun v => bindName X.env x v] [u2, u1] >>= fun _ => pure Flow.next) _ _ _
    refine wpAny_bind (assignInOrder_cons (wpAny_bindName (dstore I3 hN hj (.inl hy) rw' p2 (fun s2 I4 => ?_) (.inr hy))))
    refine assignInOrder_cons (wpAny_bindName (dstore I4 hN hi (.inl hx) rv p1 (fun s3 I5 => assignInOrder_nil (wpAny_pure ?_)) (.inr hx)))
    rw [List.set_comm _ _ (Ne.symm hij), List.set_comm _ _ (Ne.symm hij)] at I5
    exact ⟨_, H1, _, S1, I5, t1, q1⟩
  · exact q1.elim
/-- name op= e -/
def dAug (i : Nat) (te : DTE) (r : DR2) : DTS := fun D σ S => match σ[i]? with
  | some (some x) => te σ S fun y S1 => r x y S1 fun z S2 => D.nx (σ.set i (some z)) S2
  | _ => False
theorem ds_aug {i : Nat} {x : Str} {e : Expr} {te : DTE} {op : Operator} {r : DR2} {pos' : Pos} (hN : X.N.Nodup) (hi : X.N[i]? = some x) (hx : Loc X.env.scope x) (he : DE X B e te) (ho : DOpR X (inplaceOp op) r) (hf : X.fn x = true ∨ X.env.scope.names.lookup x = some .local := by first | exact .inl rfl | exact .inr rfl | assumption) :
    DS X B (.AugAssign (.Name x pos') op e pos) (dAug i te r) := by
  refine ⟨fun pins s σv H σ S D I h => ?_⟩
  unfold dAug at h
  split at h
  · rename_i d ed
    obtain ⟨v, e1, pv⟩ := I.sl.2 i d ed
    obtain ⟨m, hn, hl⟩ := I.inv.loc
    have vis : Vis X.env.scope x := by rcases hx with k | k; exact .inl k; exact .inr (.inl k)
    obtain ⟨u, ru, l⟩ := hl i x v hi e1 vis
    refine wpAny_AugAssign_Name ?_
    have go : wpAny (model X.prog X.w) X.A (eval e X.env) (fun w s₂ => wpAny (model X.prog X.w) X.A (inplaceOp op u w) (fun r s₃ => wpAny (model X.prog X.w) X.A (storeName X.env x r) (fun _ => DSP X B pins H S D .next) X.xe s₃) X.xe s₂) X.xe s := by
      refine thn (he.run pins s σv H σ S _ I h) fun w s1 ⟨y, dy, H1, S1, I1, r1, t1, ry, py, q1⟩ => ?_
      refine thn (ho pins s1 σv H1 S1 v y d dy u w _ I1 r1 ru ry (pv.mono (t1.tx I.st)) py q1) fun z s2 ⟨zv, dz, H2, S2, I2, r2, t2, rz, pz, q2⟩ => ?_
      exact dstore (I.to I2 r2 (t1.trans t2)) hN hi hx rz pz (fun s3 I3 => ⟨_, H2, _, S2, I3, t1.trans t2, q2⟩) hf
    rcases l with ⟨hk, hm⟩ | ⟨hk, c, hc, hcell⟩
    · exact wpAny_loadName_local I.inv.ok.kind hk hn hm go
    · rcases hk with hk | hk
      · exact wpAny_loadName_cell I.inv.ok.kind hk hc hcell go
      · rcases hx with k | k
        · have : X.env.scope.names.lookup x = some .free := hk
          rw [k] at this; cases this
        · have : X.env.scope.names.lookup x = some .free := hk
          rw [k] at this; cases this
  · exact h.elim
end

/-! ### while -/
section
variable {X : Cx} {B : Hp × Store} {pos : Pos}
def whileN (c : DTT) (tb : DTS) (D : DEnds) : Nat → DSt → Store → Prop
  | 0, _, _ => False
  | n + 1, σ, S => c σ S fun b S1 => if b = true then tb { D with nx := whileN c tb D n, ct := whileN c tb D n, bk := D.nx } σ S1 else D.nx σ S1
def dWhile (c : DTT) (tb : DTS) : DTS := fun D σ S => ∃ n, whileN c tb D n σ S
theorem ds_while {c : Expr} {body : List Stmt} {tc : DTT} {tb : DTS} (hp : PassesOwn (model X.prog X.w) X.A X.env X.xe) (hc : DT X B c tc) (hb : DSs X B body tb) : DS X B (.While c body [] pos) (dWhile tc tb) := by
  refine ⟨fun pins s σv H σ S D I h => ?_⟩
  obtain ⟨n0, w0⟩ := h
  refine wpAny_While (codeAny_whileLoop (fun n s' => ∃ σv' H' σ' S', DI X B pins σv' H' σ' S' s' ∧ Gx H S H' S' ∧ whileN tc tb D n σ' S') ?_ n0 ⟨σv, H, σ, S, I, Gx.refl, w0⟩)
  rintro n s1 ⟨σv1, H1, σ1, S1, I1, t1, w1⟩
  cases n with
  | zero => exact w1.elim
  | succ n =>
    refine wpAny_passesOwn hp (thn (hc.run pins s1 σv1 H1 σ1 S1 _ I1 w1) fun b s2 ⟨H2, S2, I2, r2, t2, q2⟩ => ?_)
    cases b with
    | true =>
      rw [if_pos rfl] at q2
      rw [if_pos rfl]
      refine wpAny_passesOwn hp (thn (hb.run pins s2 σv1 H2 σ1 S2 _ (I1.to I2 r2 t2) q2) fun f s3 q3 => ?_)
      cases f with
      | next =>
        obtain ⟨σv3, H3, σ3, S3, I3, t3, n3⟩ := q3
        exact ⟨n, Nat.lt_succ_self n, σv3, H3, σ3, S3, I3, (t1.trans t2).trans t3, n3⟩
      | cont =>
        obtain ⟨σv3, H3, σ3, S3, I3, t3, n3⟩ := q3
        exact ⟨n, Nat.lt_succ_self n, σv3, H3, σ3, S3, I3, (t1.trans t2).trans t3, n3⟩
      | brk =>
        obtain ⟨σv3, H3, σ3, S3, I3, t3, n3⟩ := q3
        exact ⟨σv3, H3, σ3, S3, I3, (t1.trans t2).trans t3, n3⟩
      | ret v =>
        obtain ⟨v, d, σv3, H3, S3, I3, r3, t3, n3⟩ := q3
        exact ⟨v, d, σv3, H3, S3, I3, r3, (t1.trans t2).trans t3, n3⟩
    | false =>
      rw [if_neg Bool.false_ne_true] at q2
      rw [if_neg Bool.false_ne_true]
      exact wpAny_execs_nil ⟨σv1, H2, σ1, S2, I1.to I2 r2 t2, t1.trans t2, q2⟩
end
end DL

namespace DL
open PySem PySem.Spec PyProof.Rows L2

/-- an exception's class goes by its name -/
abbrev DXK := Str → Option Addr → Store → Prop
abbrev DWX := Str → Option Addr → DSt → Store → Prop
def cv (K : PySem.W.Frag) (n : Str) : Value := .ref (He.ga K n)
abbrev DSp := List D → Store → DQ → DXK → Prop
def liftSp (P : Program) (w : World) (K : PySem.W.Frag) (sp : DSp) : Sp := fun vs H Q E => ∃ (args : List D) (S : Store) (Qd : DQ) (Ed : DXK), Rps H args vs ∧ RelS P w K H S ∧ sp args S Qd Ed ∧
  (∀ d S' v H', Qd d S' → Rp H' d v → RelS P w K H' S' → Gx H S H' S' → Q v H') ∧ (∀ n od S' H', Ed n od S' → RelS P w K H' S' → Gx H S H' S' → E (cv K n) od H')
def liftW (P : Program) (w : World) (K : PySem.W.Frag) (B : Hp × Store) (W : DWX) : WX := fun cls od σv H => ∃ n σ S, cls = cv K n ∧ SlR H σv σ ∧ RelS P w K H S ∧ Gx B.1 B.2 H S ∧ W n od σ S
def DTakes (X : Cx) (B : Hp × Store) (W : DWX) : Prop := Takes X (liftW X.prog X.w X.K B W)
abbrev W0 : DWX := fun _ _ _ _ => False
theorem dtk0 {X : Cx} {B : Hp × Store} : DTakes X B W0 := Takes.imp (takes0 (X := X)) fun _ _ _ _ ⟨_, _, _, _, _, _, _, h⟩ => h
abbrev DFn (P : Program) (w : World) (K : PySem.W.Frag) (mg : Str → Option Value) (base : Heap) (k : Nat) (f : Addr) (fd : FuncData) (ps : List Str) (sp : DSp) : Prop := FnOk P w K mg base (L2.CX P w) k f fd ps (liftSp P w K sp)
theorem takes_imp {X : Cx} {W W' : WX} (t : Takes X W) (h : ∀ c d σ H, Tx X.H_0 H → W' c d σ H → W c d σ H) : Takes X W' := fun u s' ⟨a, B, sI, pins, σ, H, cls, d, e, I, nb, up, sky, na, os, ag, w⟩ =>
  t u s' ⟨a, B, sI, pins, σ, H, cls, d, e, I, nb, up, sky, na, os, ag, h _ _ _ _ I.base.tups w⟩

section
variable {X : Cx} {B : Hp × Store} {k : Nat} {f : Addr} {fd : FuncData} {ps : List Str} {sp : DSp} {W : DWX} {x : Str} {p pos : Pos} {e : Expr} {es : List Expr} {t : DTA}
@[simp] def dCall (sp : DSp) (W : DWX) (t : DTA) : DTE := fun σ S Q => t σ S fun ds S1 => sp ds S1 Q (fun cls od S' => W cls od σ S')
theorem run_dfn {pins : List (Addr × Obj)} {s : Shared} {σv : L2.St} {H : Hp} {σ : DSt} {S : Store} {Q : DQ} {us : List Value} {vs : List V} {ds : List D} (F : DFn X.prog X.w X.K X.mg X.base k f fd ps sp) (hr : Room k X.A) (hb : Binds X.K fd ps []) (tk : DTakes X B W)
    (I : DI X B pins σv H σ S s) (r : Vals vs us) (p : Rps H ds vs) (h : sp ds S Q (fun cls od S' => W cls od σ S')) : wpAny (model X.prog X.w) X.A (call (.ref f) us) (DEP X pins σv H S Q) X.xe s := by
  have h' : liftSp X.prog X.w X.K sp vs H (fun v H' => ∃ d S', RelS X.prog X.w X.K H' S' ∧ Gx H S H' S' ∧ Rp H' d v ∧ Q d S') (fun cls od H' => liftW X.prog X.w X.K B W cls od σv H') :=
    ⟨ds, S, _, _, p, I.st, h, fun d S' v H' q a b c => ⟨d, S', b, c, a, q⟩, fun n od S' H' q b c => ⟨n, σ, S', rfl, I.sl.mono (c.tx I.st), b, I.bs.trans c, q⟩⟩
  exact thn (run_fnS (CX := L2.CX X.prog X.w) (E := fun σv cls od H' => liftW X.prog X.w X.K B W cls od σv H') F hr hb (passAt tk σv) I.inv r h') fun u s' ⟨v, H', J, ru, d, S', a, b, c, q⟩ => ⟨v, d, H', S', J, a, b, ru, c, q⟩
theorem de_call (F : DFn X.prog X.w X.K X.mg X.base k f fd ps sp) (hr : Room k X.A) (hg : Gl X x) (hm : X.mg x = some (.ref f)) (hk : PySem.W.keepIn X.K (.ref f) = true) (hb : Binds X.K fd ps []) (tk : DTakes X B W)
    (ha : DA X B (e :: es) t) (hdb : (x == ("__debug__" : Str)) = false := by decide) (he : starEach (e :: es) X.env = (false, eval e X.env) :: starEach es X.env := by rfl) (hpl : (backTo pos (starEach es X.env)).any (·.1) = false := by rfl) :
    DE X B (.Call (.Name x p) (e :: es) [] pos) (dCall sp W t) := by
  refine ⟨fun pins s σv H σ S Q I h => ?_⟩
  refine wpAny_Call_Name_kw (ld_glob I.inv hg hm ?_ hdb)
  refine PySem.W.callWith_K (h₀ := X.base) I.inv.ok.mod.kin hk (thn (ha.run pos pins s σv H σ S _ I h) fun us s1 ⟨vs, ds, H1, S1, hn1, I1, r1, t1, rv, pv, q⟩ => ⟨I1.kIn, ?_⟩) he hpl
  exact thn (run_dfn F hr hb tk (I.to I1 r1 t1) rv pv q) fun _ _ h => h.tx t1
/-- a built-in function -/
@[simp] def dCB (r : List D → Store → DQ → Prop) (t : DTA) : DTE := fun σ S Q => t σ S fun ds S1 => r ds S1 Q
theorem de_callB {id : String} {r : List D → Store → DQ → Prop} (hc : DCallR X (.builtin id) r) (hg : Gl X x) (hm : X.mg x = none) (hv : bootBuiltins x = some (.builtin id)) (ha : DA X B (e :: es) t) (hn : x ≠ "__name__" := by decide) (hdb : (x == ("__debug__" : Str)) = false := by decide)
    (he : starEach (e :: es) X.env = (false, eval e X.env) :: starEach es X.env := by rfl) (hpl : (backTo pos (starEach es X.env)).any (·.1) = false := by rfl) : DE X B (.Call (.Name x p) (e :: es) [] pos) (dCB r t) := by
  refine ⟨fun pins s σv H σ S Q I h => ?_⟩
  refine wpAny_Call_Name_kw (ld_blt I.inv hg hm hv ?_ hn hdb)
  exact PyProof.Rows.callWith_builtin1 (thn (ha.run pos pins s σv H σ S _ I h) fun us s1 ⟨vs, ds, H1, S1, hn1, I1, r1, t1, rv, pv, q⟩ => thn (hc pins s1 σv H1 S1 vs ds us Q I1 r1 rv pv q) fun _ _ h => h.tx t1) he hpl
theorem de_callTy {T : String} {r : List D → Store → DQ → Prop} (hc : DCallR X (.type T) r) (hg : Gl X x) (hm : X.mg x = none) (hv : bootBuiltins x = some (.type T)) (ha : DA X B (e :: es) t) (hn : x ≠ "__name__" := by decide) (hdb : (x == ("__debug__" : Str)) = false := by decide)
    (he : starEach (e :: es) X.env = (false, eval e X.env) :: starEach es X.env := by rfl) (hpl : (backTo pos (starEach es X.env)).any (·.1) = false := by rfl) : DE X B (.Call (.Name x p) (e :: es) [] pos) (dCB r t) := by
  refine ⟨fun pins s σv H σ S Q I h => ?_⟩
  refine wpAny_Call_Name_kw (ld_blt I.inv hg hm hv ?_ hn hdb)
  exact PyProof.Rows.callWith_type1 (thn (ha.run pos pins s σv H σ S _ I h) fun us s1 ⟨vs, ds, H1, S1, hn1, I1, r1, t1, rv, pv, q⟩ => thn (hc pins s1 σv H1 S1 vs ds us Q I1 r1 rv pv q) fun _ _ h => h.tx t1) he hpl
end

/-! ### a def's body keeps its promise -/
@[simp] def dstart (N : List Str) (args : List D) : DSt := args.map some ++ List.replicate (N.length - args.length) none
theorem slr_start {H : Hp} {N : List Str} {args : List D} {vs : List V} (h : Rps H args vs) : SlR H (L2.start N vs) (dstart N args) := by
  have hl := h.length
  refine ⟨by simp [L2.start, dstart, hl], fun i d e => ?_⟩
  unfold dstart at e
  by_cases hi : i < args.length
  · rw [List.getElem?_append_left (by simpa using hi)] at e
    rw [List.getElem?_map] at e
    cases q : args[i]? with
    | none => rw [q] at e; cases e
    | some d' =>
      rw [q] at e
      have e : d' = d := by simpa using e
      subst e
      obtain ⟨v, h1, h2⟩ := h.get q
      refine ⟨v, ?_, h2⟩
      unfold L2.start
      rw [List.getElem?_append_left (by simp [hl, hi]), List.getElem?_map, h1]
      rfl
  · rw [List.getElem?_append_right (by simpa using hi)] at e
    rw [List.getElem?_replicate] at e
    split at e <;> cases e
theorem okD {P : Program} {w : World} {K : PySem.W.Frag} {mg : Str → Option Value} {base : Heap} {x qual : Str} {st : Stmt} {f : Addr} {fd : FuncData} {N ps : List Str} {k : Nat} {sp : DSp} (F : Fun K x qual st f fd) (Sc : FnScope N ps (defScope st)) (len : ∀ args S Q E, sp args S Q E → args.length = ps.length)
    (hbody : ∀ (cdv : Value) (A : Around) (outer : List Env) (s : Shared) (H : Hp) (E : XK), Room k (A.deeper (envOfC qual (defScope st) s.heap.objs.size f cdv)) → ∀ (args : List D) (S : Store) (Q : DQ) (Ed : DXK), sp args S Q Ed →
      DTakes (cxOf (L2.CX P w) P w K mg base N qual (defScope st) f cdv A outer s H E) (H, S) (fun cls od _ S' => Ed cls od S') →
      ∃ t, DSs (cxOf (L2.CX P w) P w K mg base N qual (defScope st) f cdv A outer s H E) (H, S) (defBody st) t ∧ t { nx := fun _ S' => Q .non S', rt := Q } (dstart N args) S) : DFn P w K mg base (k + 1) f fd ps sp := by
  refine F.okX Sc (fun vs H Q E ⟨args, S, Qd, Ed, h1, h2, h3, h4, h5⟩ => by rw [h1.length]; exact len _ _ _ _ h3) (fun cdv A outer s H vs Q E hr h => ?_)
  obtain ⟨args, S, Qd, Ed, h1, h2, h3, h4, h5⟩ := h
  have tk : DTakes (cxOf (L2.CX P w) P w K mg base N qual (defScope st) f cdv A outer s H E) (H, S) (fun cls od _ S' => Ed cls od S') :=
    takes_imp (takes_of (X := cxOf (L2.CX P w) P w K mg base N qual (defScope st) f cdv A outer s H E) rfl rfl rfl rfl) fun cls od σv H' _ ⟨n, σ, S', e, _, b, g, q⟩ => by subst e; exact h5 n od S' H' q b g
  obtain ⟨t, ht, hq⟩ := hbody cdv A outer s H E hr args S Qd Ed h3 tk
  refine ⟨fun D σv H1 => ∃ (D' : DEnds) (σ : DSt) (S1 : Store), SlR H1 σv σ ∧ RelS P w K H1 S1 ∧ Gx H S H1 S1 ∧ t D' σ S1 ∧ (∀ σv' H' σ' S', SlR H' σv' σ' → RelS P w K H' S' → Gx H1 S1 H' S' → D'.nx σ' S' → D.nx σv' H') ∧
    (∀ d v H' S', Rp H' d v → RelS P w K H' S' → Gx H1 S1 H' S' → D'.rt d S' → D.rt v H') ∧ (∀ σ' S', ¬ D'.bk σ' S') ∧ (∀ σ' S', ¬ D'.ct σ' S'), ⟨fun pins s1 σv H1 D I ⟨D', σ, S1, a, b, g, c, d1, d2, d3, d4⟩ => ?_⟩, ?_⟩
  · refine thn (ht.run pins s1 σv H1 σ S1 D' ⟨I, a, b, g⟩ c) fun fl s' q => ?_
    cases fl with
    | next =>
      obtain ⟨σv', H', σ', S', I', t', q⟩ := q
      exact ⟨σv', H', I'.inv, d1 _ _ _ _ I'.sl I'.st t' q⟩
    | ret u =>
      obtain ⟨v, d, σv', H', S', I', r', t', rv, pv, q⟩ := q
      exact ⟨v, σv', H', I', rv, d2 _ _ _ _ pv r' t' q⟩
    | brk => obtain ⟨σv', H', σ', S', I', t', q⟩ := q; exact (d3 _ _ q).elim
    | cont => obtain ⟨σv', H', σ', S', I', t', q⟩ := q; exact (d4 _ _ q).elim
  · exact ⟨_, _, S, slr_start h1, h2, Gx.refl, hq, fun σv' H' σ' S' _ r t q => h4 .non S' .non H' q rfl r t, fun d v H' S' p r t q => h4 d S' v H' q p r t, fun _ _ h => h, fun _ _ h => h⟩
end DL

namespace DL
open PySem PySem.Spec PyProof.Rows L2

/-! ### what is walked -/
def JOk (P : Program) (w : World) (K : PySem.W.Frag) (J : It) (H0 : Hp) (ds : List D) (G : Store → Prop) : Prop := ∀ (i : Nat) (H : Hp) (S : Store), Tx H0 H → RelS P w K H S → G S →
  (i = ds.length → J.stop i H) ∧ ∀ d, ds[i]? = some d → J.go i H ∧ ∀ x H', J.yld i H x H' → Rp H' d x ∧ RelS P w K H' S ∧ Gx H S H' S
abbrev DTI := DSt → Store → (List D → (Store → Prop) → Store → Prop) → Prop
def DPIE (X : Cx) (pins : List (Addr × Obj)) (σv : L2.St) (tg : Expr) (H : Hp) (S : Store) (R : List D → (Store → Prop) → Store → Prop) (itv : Value) (s2 : Shared) : Prop :=
  PIE X pins σv tg (fun J H' => ∃ ds G S', ds.length ≤ sizeLine ∧ RelS X.prog X.w X.K H' S' ∧ Gx H S H' S' ∧ JOk X.prog X.w X.K J H' ds G ∧ R ds G S') itv s2
structure DIt (X : Cx) (B : Hp × Store) (tg iter : Expr) (t : DTI) : Prop where
  run : ∀ (pins : List (Addr × Obj)) (s : Shared) (σv : L2.St) (H : Hp) (σ : DSt) (S : Store) (R : List D → (Store → Prop) → Store → Prop), DI X B pins σv H σ S s → t σ S R →
    wpAny (model X.prog X.w) X.A (eval iter X.env) (fun v s1 => wpAny (model X.prog X.w) X.A (pyIter v) (DPIE X pins σv tg H S R) X.xe s1) X.xe s
section
variable {X : Cx} {B : Hp × Store} {tg iter e : Expr}
theorem DIt.of {wi : TI} {t : DTI} (h : PI X tg iter wi)
    (ref : ∀ σv H σ S R, SlR H σv σ → RelS X.prog X.w X.K H S → t σ S R → wi σv H (fun J H' => ∃ ds G S', ds.length ≤ sizeLine ∧ RelS X.prog X.w X.K H' S' ∧ Gx H S H' S' ∧ JOk X.prog X.w X.K J H' ds G ∧ R ds G S')) : DIt X B tg iter t :=
  ⟨fun pins s σv H σ S R I q => h.run pins s σv H _ I.inv (ref σv H σ S R I.sl I.st q)⟩

/-! ### the dict, its keys in order -/
/-- the dict at d holds entries, its count of changes is n -/
def DRaw (P : Program) (w : World) (H : Hp) (d : Addr) (n : Nat) (xs : List (NestedKey × Addr × Value)) : Prop := ∃ o es, H d = some (.ext fun h => h.get? d = some o) ∧ o.data = .dict es n ∧ es.toList = xs.map (entryOfKey (nestedKind P w))
def Itx (P : Program) (w : World) (d : Addr) (n m : Nat) : It :=
  ⟨fun i H => ∃ xs, DRaw P w H d n xs ∧ xs.length = m ∧ i < m, fun i H x H' => H' = H ∧ ∀ xs, DRaw P w H d n xs → ∃ y, xs[i]? = some y ∧ x = .ref y.2.1, fun i H => ∃ xs, DRaw P w H d n xs ∧ xs.length = m ∧ m ≤ i⟩
theorem draw_inj {pins : List (Addr × Obj)} {σ : L2.St} {H : Hp} {s : Shared} {d : Addr} {n n' : Nat} {xs ys : List (NestedKey × Addr × Value)} (I : Inv X pins σ H s) (a : DRaw X.prog X.w H d n xs) (b : DRaw X.prog X.w H d n' ys) : xs.map (entryOfKey (nestedKind X.prog X.w)) = ys.map (entryOfKey (nestedKind X.prog X.w)) := by
  obtain ⟨o, es, h1, h2, h3⟩ := a
  obtain ⟨o', es', h1', h2', h3'⟩ := b
  have e1 : s.heap.get? d = some o := (I.hok d _ h1).1
  have e2 : s.heap.get? d = some o' := (I.hok d _ h1').1
  rw [e1] at e2; cases e2
  rw [h2] at h2'
  injection h2' with e _
  rw [← h3, ← h3', e]
theorem turn_itx {P : Program} {w : World} {K : PySem.W.Frag} {d it : Addr} {n m : Nat} :
    Turn P w K tg (Itx P w d n m) [it] it (fun i h => h.IsKeyIter it d i m n) where
  mem := by simp
  obj := fun i h st b hb => by
    have e : b = it := by simpa using hb
    subst e
    obtain ⟨oi, e, c, dd⟩ := st
    exact ⟨oi, e, fun v z => by rw [dd] at z; cases z⟩
  keep := fun i h h' st k => st.at fun oi e => k it (by simp) oi e
  item := by
    intro X hP hw hK hc i pins s σ H E I hf st hg
    subst hP hw hK
    obtain ⟨xs, ⟨o, es, hd, hod, hes⟩, hm, hi⟩ := hg
    subst hm
    obtain ⟨f0, f1, f2, f3, f4, f5⟩ := hf it (by simp)
    have hgd : s.heap.get? d = some o := (I.hok d _ hd).1
    have hsz : es.size = xs.length := by rw [← Array.length_toList, hes, List.length_map]
    have hen : es[i]? = some (entryOfKey (nestedKind X.prog X.w) xs[i]) := by
      rw [← Array.getElem?_toList, hes, List.getElem?_map, List.getElem?_eq_getElem hi]; rfl
    refine next_key_item st hgd hod hsz hen fun h' st' sb => ?_
    have I1 : Inv X pins σ H { s with heap := h' } := I.turned (t' := s.toks) (fun b ob hb e => (sb.2 b hb).trans e) f0 f1 f3 f4 f5
    obtain ⟨oi, e, c, dd⟩ := id st'
    exact ⟨_, rfl, go_of (s := { s with heap := h' }) e c dd (by decide) ⟨.ref xs[i].2.1, H, I1, rfl, ⟨rfl, fun ys hy => by
      have q := draw_inj I ⟨o, es, hd, hod, hes⟩ hy
      have q2 : (ys.map (entryOfKey (nestedKind X.prog X.w)))[i]? = some (entryOfKey (nestedKind X.prog X.w) xs[i]) := by rw [← q, List.getElem?_map, List.getElem?_eq_getElem hi]; rfl
      rw [List.getElem?_map] at q2
      cases e : ys[i]? with
      | none => rw [e] at q2; cases q2
      | some y =>
        rw [e] at q2
        have q3 : entryOfKey (nestedKind X.prog X.w) y = entryOfKey (nestedKind X.prog X.w) xs[i] := Option.some.inj q2
        have q4 : Value.ref y.2.1 = Value.ref xs[i].2.1 := congrArg (fun (z : DictEntry) => z.key) q3
        injection q4 with q5
        exact ⟨y, rfl, by rw [q5]⟩⟩, st', fun b hb => (hf b hb).1⟩⟩
  done := by
    intro X hP hw hK hc i pins s σ H E I hf st hg
    subst hP hw hK
    obtain ⟨xs, ⟨o, es, hd, hod, hes⟩, hm, hi⟩ := hg
    subst hm
    obtain ⟨f0, f1, f2, f3, f4, f5⟩ := hf it (by simp)
    have hgd : s.heap.get? d = some o := (I.hok d _ hd).1
    have hsz : es.size = xs.length := by rw [← Array.length_toList, hes, List.length_map]
    exact next_key_end (I.ok.hd hc) st hgd hod hsz hi fun h' eb => ⟨rfl, I.turned (t' := s.toks) (fun b ob hb e => eb b ob hb e) f0 f1 f3 f4 f5⟩
  self := fun A i s Q E st h => by
    refine wpAny_pyIter_slot st.typeIs F.slot_dict_keyiterator_iter (wpAny_call_entry F.slot_dict_keyiterator_iter st.typeIs F.entry_dict_keyiterator_iter ?_ (F.args_dict_keyiterator_iter_1 _))
    show wpAny _ _ (ret (.ref it)) _ _ s
    exact wpAny_pure ⟨_, rfl, "dict_keyiterator", _, st.typeIs, F.slot_dict_keyiterator_next.lookup, h⟩
theorem paired_len {α β : Type} {G : α → β → Prop} : ∀ {l₁ : List α} {l₂ : List β}, Paired G l₁ l₂ → l₁.length = l₂.length
  | _, _, .nil => rfl
  | _, _, .cons _ t => by simp [paired_len t]
theorem paired_getR {α β : Type} {G : α → β → Prop} : ∀ {l₁ : List α} {l₂ : List β}, Paired G l₁ l₂ → ∀ {i : Nat} {b : β}, l₂[i]? = some b → ∃ a, l₁[i]? = some a ∧ G a b
  | _, _, .nil, i, b, e => by simp at e
  | _, _, .cons r t, 0, b, e => by simp at e; subst e; exact ⟨_, rfl, r⟩
  | _, _, .cons r t, i + 1, b, e => by simpa using paired_getR t (i := i) (by simpa using e)

/-- over a thing: a tuple, a list, a dict's keys -/
@[simp] def dIter (t : DTE) : DTI := fun σ S R => t σ S fun x S1 => match x with
  | .tup ds => R ds (fun _ => True) S1
  | .loc a => match S1 a with
    | some (.lst ds) => R ds (fun S => S a = some (.lst ds)) S1
    | some (.dic n kvs) => R (kvs.map (·.1)) (fun S => S a = some (.dic n kvs)) S1
    | _ => False
  | _ => False
theorem pie_one {pins : List (Addr × Obj)} {σv : L2.St} {H : Hp} {s : Shared} {R : It → Hp → Prop} {J : It} {tn : Nat → Heap → Prop} {tk : Nat} (I : Inv X pins σv H s) (o : Obj)
    (T : Turn X.prog X.w X.K tg J [s.heap.objs.size] s.heap.objs.size tn) (st : tn 0 (s.heap.push o)) (q : R J H) : PIE X pins σv tg R (.ref s.heap.objs.size) { s with heap := s.heap.push o, toks := tk } := pi_one I o T st q
theorem RelS.inj_lst {P : Program} {w : World} {K : PySem.W.Frag} {H : Hp} {S : Store} {a : Addr} {ds : List D} (r : RelS P w K H S) (e : S a = some (.lst ds)) : ∃ xs, H a = some (.lst xs) ∧ Rps H ds xs := r a _ e
theorem jok_tup {P : Program} {w : World} {K : PySem.W.Frag} {H0 : Hp} {a : Addr} {xs : List V} {ds : List D} (h1 : H0 a = some (.tup xs)) (h2 : Rps H0 ds xs) : JOk P w K (Itt K a) H0 ds (fun _ => True) := fun i H S t r _ => by
  have e1 : SqT K H a xs := .of (t _ _ h1)
  have p := h2.mono t
  refine ⟨fun e => ⟨xs, e1, by rw [p.length, e]; exact Nat.le_refl _⟩, fun d hd => ?_⟩
  obtain ⟨v, hv, pv⟩ := p.get hd
  exact ⟨⟨xs, v, e1, hv⟩, fun x H' ⟨e, y⟩ => by
    subst e
    have := y xs e1
    rw [hv] at this; cases this
    exact ⟨pv, r, Gx.refl⟩⟩
theorem jok_lst {P : Program} {w : World} {K : PySem.W.Frag} {H0 : Hp} {a : Addr} {ds : List D} : JOk P w K (Itl K a) H0 ds (fun S => S a = some (.lst ds)) := fun i H S t r g => by
  obtain ⟨xs, h1, p⟩ := r a _ g
  have e1 : SqL K H a xs := .of h1
  refine ⟨fun e => ⟨xs, e1, by rw [p.length, e]; exact Nat.le_refl _⟩, fun d hd => ?_⟩
  obtain ⟨v, hv, pv⟩ := p.get hd
  exact ⟨⟨xs, v, e1, hv⟩, fun x H' ⟨e, y⟩ => by
    subst e
    have := y xs e1
    rw [hv] at this; cases this
    exact ⟨pv, r, Gx.refl⟩⟩
theorem paired_inj {α β : Type} {F G : α → β → Prop} (h : ∀ a b b', F a b → G a b' → b = b') : ∀ {l : List α} {m m' : List β}, Paired F l m → Paired G l m' → m = m'
  | _, _, _, .nil, .nil => rfl
  | _, _, _, .cons r t, .cons r' t' => by rw [h _ _ _ r r', paired_inj h t t']
theorem dic_raw {P : Program} {w : World} {H : Hp} {a : Addr} {n : Nat} {kvs : List (D × D)} {o : Obj} {xs : List (NestedKey × Addr × Value)} (h : DicAt P w H a n kvs o xs) : DRaw P w H a n xs := by
  obtain ⟨es, e1, e2⟩ := h.es
  exact ⟨o, es, h.at_, e1, e2⟩
theorem jok_dic {P : Program} {w : World} {K : PySem.W.Frag} {H0 : Hp} {a : Addr} {n : Nat} {kvs : List (D × D)} : JOk P w K (Itx P w a n kvs.length) H0 (kvs.map (·.1)) (fun S => S a = some (.dic n kvs)) := fun i H S t r g => by
  obtain ⟨o, xs, h⟩ := r a _ g
  have hr := dic_raw h
  have hl := paired_len h.rel
  refine ⟨fun e => ⟨xs, hr, hl.symm, by rw [e]; simp⟩, fun d hd => ?_⟩
  rw [List.getElem?_map] at hd
  cases e : kvs[i]? with
  | none => rw [e] at hd; cases hd
  | some p =>
    rw [e] at hd
    have hd : p.1 = d := by simpa using hd
    obtain ⟨x, hx, q1, q2, q3, q4, q5, q6⟩ := paired_get h.rel e
    have hi : i < kvs.length := (List.getElem?_eq_some_iff.mp e).1
    refine ⟨⟨xs, hr, hl.symm, hi⟩, fun v H' ⟨e1, y⟩ => ?_⟩
    subst e1
    obtain ⟨z, hz, ez⟩ := y xs hr
    rw [hx] at hz; cases hz
    rw [ez, ← hd]
    exact ⟨q5, r, Gx.refl⟩
theorem di_val {t : DTE} (h : DE X B e t) : DIt X B tg e (dIter t) := by
  refine ⟨fun pins s σv H σ S R I q => ?_⟩
  refine thn (h.run pins s σv H σ S _ I q) fun v s1 ⟨x, d, H1, S1, I1, r1, t1, rx, px, q1⟩ => ?_
  cases d with
  | tup ds =>
    obtain ⟨a, xs, rfl, h1, h2⟩ := px
    cases rx
    obtain ⟨its, rv, p, hz⟩ := I1.tuple (.of h1)
    exact wpAny_pyIter_tuple (show s1.heap.IsTuple a its.toArray from p) (pi_one (tk := s1.toks) I1 _ (turn_tuple a _) ⟨_, Heap.get?_push_size _ rfl, rfl, rfl⟩ ⟨ds, _, S1, by rw [← h2.length]; exact hz, r1, t1, jok_tup h1 h2, q1⟩)
  | loc a =>
    cases (show x = .ref a from px)
    cases rx
    have q2 : (match S1 a with | some (.lst ds) => R ds (fun S => S a = some (.lst ds)) S1 | some (.dic n kvs) => R (kvs.map (·.1)) (fun S => S a = some (.dic n kvs)) S1 | _ => False) := q1
    split at q2
    · rename_i ds es
      obtain ⟨xs, h1, h2⟩ := r1 a _ es
      obtain ⟨its, rv, p, hz⟩ := I1.list (.of h1)
      exact wpAny_pyIter_list p.isList (pi_one (tk := s1.toks) I1 _ (turn_list a _) ⟨_, Heap.get?_push_size _ rfl, rfl, rfl⟩ ⟨ds, _, S1, by rw [← h2.length]; exact hz, r1, t1, jok_lst, q2⟩)
    · rename_i n kvs es
      obtain ⟨o, xs, hD⟩ := r1 a _ es
      have hgd : s1.heap.get? a = some o := (I1.hok a _ hD.at_).1
      obtain ⟨en, hd1, hd2⟩ := hD.es
      have hsz : en.size = kvs.length := by rw [← Array.length_toList, hd2, List.length_map, paired_len hD.rel]
      refine iter_keys hD.sys hgd hD.exact_ hd1 (pi_one (tk := s1.toks) I1 _ (turn_itx (n := n) (m := kvs.length)) ⟨_, Heap.get?_push_size _ rfl, rfl, ?_⟩ ⟨_, _, S1, by rw [List.length_map]; exact hD.len, r1, t1, jok_dic, q2⟩)
      rw [hsz] <;> rfl
    · exact q2.elim
  | _ => exact q1.elim
/-- range(n), range(a, b) -/
def dRng1 (t : DTA) : DTI := fun σ S R => t σ S fun ds S1 => match ds with
  | [.int n] => (-1000 ≤ n ∧ n ≤ 1000) ∧ R ((List.range n.toNat).map fun (i : Nat) => .int (i : Int)) (fun _ => True) S1
  | _ => False
def dRng2 (t : DTA) : DTI := fun σ S R => t σ S fun ds S1 => match ds with
  | [.int a, .int b] => (-1000 ≤ a ∧ a ≤ 1000 ∧ -1000 ≤ b ∧ b ≤ 1000) ∧ R ((List.range (b - a).toNat).map fun (i : Nat) => .int (a + (i : Int))) (fun _ => True) S1
  | _ => False
theorem jok_range {P : Program} {w : World} {K : PySem.W.Frag} {H0 : Hp} {lo : Int} {n : Nat} : JOk P w K (Itr lo n) H0 ((List.range n).map fun (i : Nat) => .int (lo + (i : Int))) (fun _ => True) := fun i H S t r g => by
  refine ⟨fun e => by simp at e; exact Nat.le_of_eq e.symm, fun d hd => ?_⟩
  have hi : i < n := by
    have := (List.getElem?_eq_some_iff.mp hd).1
    simpa using this
  rw [List.getElem?_map, List.getElem?_range hi] at hd
  have hd : D.int (lo + (i : Int)) = d := by simpa using hd
  subst hd
  exact ⟨hi, fun x H' ⟨e, y⟩ => by subst e; exact ⟨y, r, Gx.refl⟩⟩
end
/-- one iterator over what arguments gave -/
theorem di_range1 {X : Cx} {B : Hp × Store} {tg a : Expr} {t : DTA} {p pos : Pos} (hg : Gl X "range") (hm : X.mg "range" = none) (ha : DA X B [a] t) (hs : starEach [a] X.env = [(false, eval a X.env)] := by rfl) : DIt X B tg (.Call (.Name "range" p) [a] [] pos) (dRng1 t) := by
  refine ⟨fun pins s σv H σ S R I h => ?_⟩
  refine Call_ (ld_blt I.inv hg hm boot_range (PyProof.Rows.callWith_type1 (thn (ha.run pos pins s σv H σ S _ I h) fun us s1 ⟨vs, ds, H1, S1, hn1, I1, r1, t1, rv, pv, q⟩ => ?_) hs rfl))
  dsimp only at q
  split at q
  · rename_i n
    obtain ⟨⟨q1, q2⟩, q⟩ := q
    obtain ⟨v, r, rfl, p1, p2⟩ := pv
    cases (show r = [] from p2)
    cases (show v = .int n from p1)
    cases rv with
    | cons rr rt =>
      cases rt
      obtain ⟨t, rfl⟩ := rr
      refine call_range_1 (range_it I1 (by omega) (by omega) (by omega) (by omega) ⟨_, _, S1, by rw [List.length_map, List.length_range]; exact Nat.le_trans (by omega : _ ≤ 2000) (by decide), r1, t1, jok_range (lo := 0), ?_⟩)
      simpa using q
  · exact q.elim
theorem di_range2 {X : Cx} {B : Hp × Store} {tg a b : Expr} {t : DTA} {p pos : Pos} (hg : Gl X "range") (hm : X.mg "range" = none) (ha : DA X B [a, b] t) (hs : starEach [a, b] X.env = [(false, eval a X.env), (false, eval b X.env)] := by rfl) (hs2 : starEach [b] X.env = [(false, eval b X.env)] := by rfl) :
    DIt X B tg (.Call (.Name "range" p) [a, b] [] pos) (dRng2 t) := by
  refine ⟨fun pins s σv H σ S R I h => ?_⟩
  refine Call_ (ld_blt I.inv hg hm boot_range (PyProof.Rows.callWith_type1 (thn (ha.run pos pins s σv H σ S _ I h) fun us s1 ⟨vs, ds, H1, S1, hn1, I1, r1, t1, rv, pv, q⟩ => ?_) (by rw [hs, hs2]) (by rw [hs2]; rfl)))
  dsimp only at q
  split at q
  · rename_i n m
    obtain ⟨⟨q1, q2, q3, q4⟩, q⟩ := q
    obtain ⟨v, r, rfl, p1, v', r', rfl, p1', p2⟩ := pv
    cases (show r' = [] from p2)
    cases (show v = .int n from p1)
    cases (show v' = .int m from p1')
    cases rv with
    | cons rr rt =>
      cases rt with
      | cons rr' rt =>
        cases rt
        obtain ⟨t, rfl⟩ := rr
        obtain ⟨t', rfl⟩ := rr'
        exact call_range_2 (range_it I1 (by omega) (by omega) (by omega) (by omega) ⟨_, _, S1, by rw [List.length_map, List.length_range]; exact Nat.le_trans (by omega : _ ≤ 2000) (by decide), r1, t1, jok_range (lo := n), q⟩)
  · exact q.elim

/-! ### for -/
section
variable {X : Cx} {B : Hp × Store} {tg iter : Expr} {pos : Pos}
def forL (g : DTG) (tb : DTS) (E : DEnds) (G : Store → Prop) : List D → DSt → Store → Prop
  | [], σ, S => G S ∧ E.nx σ S
  | x :: r, σ, S => G S ∧ g x σ S fun σ' S' => tb { E with nx := forL g tb E G r, ct := forL g tb E G r, bk := E.nx } σ' S'
def dFor (ti : DTI) (g : DTG) (tb : DTS) : DTS := fun E σ S => ti σ S fun ds G S1 => forL g tb E G ds σ S1
theorem ds_for {body : List Stmt} {ti : DTI} {g : DTG} {tb : DTS} (hp : PassesOwn (model X.prog X.w) X.A X.env X.xe) (hc : X.calm = true) (hi : DIt X B tg iter ti) (hg : DG X B tg g) (hb : DSs X B body tb)
    (hs : ∀ x, foldedSetIterable iter X.env x = pure x := by intro _; rfl) : DS X B (.For tg iter body [] pos) (dFor ti g tb) := by
  refine ⟨fun pins s σv H σ S E I h => ?_⟩
  refine wpAny_For (thn (hi.run pins s σv H σ S _ I h) fun v s1 h1 => thn h1 fun itv s2 h2 => ?_) hs
  obtain ⟨it, fp, tn, J, H2, e, I2, T, st2, f2, ds, G, S2, hz2, r2, g2, jok, q⟩ := h2
  subst e
  have stat : ∀ {H' : Hp}, (∀ b ∈ fp, H' b = none) → ∀ b ∈ fp, FpOk X pins H' b := fun hn b hb => ⟨hn b hb, (f2 b hb).2⟩
  refine codeAny_forLoop_any (fun n s' => ∃ (i : Nat) (σv' : L2.St) (H' : Hp) (σ' : DSt) (S' : Store), n = ds.length - i ∧ i ≤ ds.length ∧ DI X B pins σv' H' σ' S' s' ∧ Gx H2 S2 H' S' ∧ tn i s'.heap ∧ (∀ b ∈ fp, H' b = none) ∧ forL g tb E G (ds.drop i) σ' S') ?_ ds.length
    ⟨0, σv, H2, σ, S2, by simp, Nat.zero_le _, I.to I2 r2 g2, Gx.refl, st2, fun b hb => (f2 b hb).1, q⟩
  rintro n s3 ⟨i, σv3, H3, σ3, S3, rfl, hi3, I3, g3, st3, fr3, w3⟩
  by_cases hlt : i < ds.length
  · have hd : ds[i]? = some ds[i] := List.getElem?_eq_getElem hlt
    rw [List.drop_eq_getElem_cons hlt] at w3
    obtain ⟨hG, w3⟩ := w3
    obtain ⟨go, step⟩ := (jok i H3 S3 (g3.tx r2) I3.st hG).2 _ hd
    refine wpAny_passesOwn hp (thn (T.item X rfl rfl rfl hc i pins s3 σv3 H3 X.xe I3.inv (stat fr3) st3 go) fun r s4 ⟨u, hr, h4⟩ => ?_)
    subst hr
    refine wpAny_passesOwn hp (thn h4 fun _ s5 ⟨x, H5, I5, r5, y5, st5, fr5⟩ => ?_)
    obtain ⟨px, r5', g5⟩ := step x H5 y5
    have I5' : DI X B (pins ++ pinsAt fp s5.heap) σv3 H5 σ3 S3 s5 := ⟨I5.pinned (stat fr5) (T.obj _ _ st5), I3.sl.mono (g5.tx I3.st), r5', I3.bs.trans g5⟩
    refine wpAny_passesOwn hp (thn (hg.run _ s5 σv3 H5 σ3 S3 _ x u _ I5' r5 px w3) fun _ s6 ⟨σv6, H6, σ6, S6, I6, g6, q6⟩ => ?_)
    refine wpAny_passesOwn hp (thn (hb.run _ s6 σv6 H6 σ6 S6 _ I6 q6) fun f s7 q7 => ?_)
    have gAll : ∀ {H7 : Hp} {S7 : Store}, Gx H6 S6 H7 S7 → Gx H2 S2 H7 S7 := fun g7 => ((g3.trans g5).trans g6).trans g7
    have again : ∀ {σv7 : L2.St} {H7 : Hp} {σ7 : DSt} {S7 : Store}, DI X B (pins ++ pinsAt fp s5.heap) σv7 H7 σ7 S7 s7 → Gx H6 S6 H7 S7 → forL g tb E G (ds.drop (i + 1)) σ7 S7 →
        ∃ m, m < ds.length - i ∧ ∃ (i : Nat) (σv' : L2.St) (H' : Hp) (σ' : DSt) (S' : Store), m = ds.length - i ∧ i ≤ ds.length ∧ DI X B pins σv' H' σ' S' s7 ∧ Gx H2 S2 H' S' ∧ tn i s7.heap ∧ (∀ b ∈ fp, H' b = none) ∧ forL g tb E G (ds.drop i) σ' S' := fun {σv7 H7 σ7 S7} I7 g7 n7 => by
      refine ⟨ds.length - (i + 1), by omega, i + 1, σv7, H7, σ7, S7, rfl, hlt, ⟨I7.inv.unpinned, I7.sl, I7.st, I7.bs⟩, gAll g7, T.keep _ _ _ st5 fun b hb o e => (I7.inv.pin (b, o) (List.mem_append_right _ (List.mem_append_right _ (mem_pinsAt hb e)))).1, fun b hb => ?_, n7⟩
      obtain ⟨o, e, d⟩ := T.obj _ _ st5 b hb
      exact (I7.inv.pin (b, o) (List.mem_append_right _ (List.mem_append_right _ (mem_pinsAt hb e)))).2.1
    cases f with
    | next => obtain ⟨σv7, H7, σ7, S7, I7, g7, n7⟩ := q7; exact again I7 g7 n7
    | cont => obtain ⟨σv7, H7, σ7, S7, I7, g7, n7⟩ := q7; exact again I7 g7 n7
    | brk => obtain ⟨σv7, H7, σ7, S7, I7, g7, n7⟩ := q7; exact ⟨σv7, H7, σ7, S7, ⟨I7.inv.unpinned, I7.sl, I7.st, I7.bs⟩, g2.trans (gAll g7), n7⟩
    | ret v => obtain ⟨x7, d7, σv7, H7, S7, I7, r7, g7, q7⟩ := q7; exact ⟨x7, d7, σv7, H7, S7, I7.unpinned, r7, g2.trans (gAll g7), q7⟩
  · have e : i = ds.length := by omega
    subst e
    rw [List.drop_length] at w3
    obtain ⟨hG, w3⟩ := w3
    have stop := (jok _ H3 S3 (g3.tx r2) I3.st hG).1 rfl
    refine wpAny_passesOwn hp (thn (T.done X rfl rfl rfl hc _ pins s3 σv3 H3 X.xe I3.inv (stat fr3) st3 stop) fun r s4 ⟨hr, I4⟩ => ?_)
    subst hr
    exact wpAny_execs_nil ⟨σv3, H3, σ3, S3, ⟨I4, I3.sl, I3.st, I3.bs⟩, g2.trans g3, w3⟩
end
end DL

namespace DL
open PySem PySem.Spec PyProof.Rows L2

/-! ### back to the layer below -/
def sE (P : Program) (w : World) (K : PySem.W.Frag) (B : Hp × Store) (t : DTE) : TE := fun σv H Q => ∃ σ S Qd, SlR H σv σ ∧ RelS P w K H S ∧ Gx B.1 B.2 H S ∧ t σ S Qd ∧ ∀ d S' v H', Qd d S' → Rp H' d v → RelS P w K H' S' → Gx H S H' S' → Q v H'
def sT (P : Program) (w : World) (K : PySem.W.Frag) (B : Hp × Store) (t : DTT) : TT := fun σv H Q => ∃ σ S Qd, SlR H σv σ ∧ RelS P w K H S ∧ Gx B.1 B.2 H S ∧ t σ S Qd ∧ ∀ b S' H', Qd b S' → RelS P w K H' S' → Gx H S H' S' → Q b H'
def sI (P : Program) (w : World) (K : PySem.W.Frag) (B : Hp × Store) (t : DTI) : TI := fun σv H R => ∃ σ S Rd, SlR H σv σ ∧ RelS P w K H S ∧ Gx B.1 B.2 H S ∧ t σ S Rd ∧ ∀ ds G S' J H', ds.length ≤ sizeLine → Rd ds G S' → RelS P w K H' S' → Gx H S H' S' → JOk P w K J H' ds G → R J H'
section
variable {X : Cx} {B : Hp × Store} {e tg iter : Expr}
theorem DE.pe {t : DTE} (h : DE X B e t) : PE X e (sE X.prog X.w X.K B t) := ⟨fun pins s σv H Q I ⟨σ, S, Qd, sl, rs, bs, q, k⟩ =>
  thn (h.run pins s σv H σ S Qd ⟨I, sl, rs, bs⟩ q) fun u s' ⟨v, d, H', S', J, r, g, ru, p, q⟩ => ⟨v, H', J, ru, k d S' v H' q p r g⟩⟩
theorem DT.pt {t : DTT} (h : DT X B e t) : PT X e (sT X.prog X.w X.K B t) := ⟨fun pins s σv H Q I ⟨σ, S, Qd, sl, rs, bs, q, k⟩ =>
  thn (h.run pins s σv H σ S Qd ⟨I, sl, rs, bs⟩ q) fun b s' ⟨H', S', J, r, g, q⟩ => ⟨H', J, k b S' H' q r g⟩⟩
theorem DIt.pi {t : DTI} (h : DIt X B tg iter t) : PI X tg iter (sI X.prog X.w X.K B t) := ⟨fun pins s σv H R I ⟨σ, S, Rd, sl, rs, bs, q, k⟩ =>
  thn (h.run pins s σv H σ S Rd ⟨I, sl, rs, bs⟩ q) fun v s1 h1 => thn h1 fun itv s2 ⟨it, fp, tn, J, H2, e, I2, T, st2, f2, ds, G, S2, hz2, r2, g2, jok, q⟩ => ⟨it, fp, tn, J, H2, e, I2, T, st2, f2, k ds G S2 J H2 hz2 q r2 g2 jok⟩⟩
/-- the tests of a comprehension -/
structure DTs (X : Cx) (B : Hp × Store) (ifs : List Expr) (t : DTT) : Prop where
  ex : PTs X ifs (sT X.prog X.w X.K B t)
@[simp] def dYes : DTT := fun _ S Q => Q true S
theorem dts_nil : DTs X B [] dYes := ⟨⟨fun pins s σv H Q I ⟨σ, S, Qd, sl, rs, bs, q, k⟩ => wpAny_tests_nil ⟨H, I, k true S H q rs Gx.refl⟩⟩⟩
theorem dts_one {c : Expr} {t : DTT} (h : DT X B c t) : DTs X B [c] t := ⟨pts_one h.pt⟩
end

/-! ### targets of a comprehension -/
@[simp] def dwipe (σ : DSt) : List Nat → DSt
  | [] => σ
  | v :: vs => (dwipe σ vs).set v none
theorem slr_wipe {H : Hp} {σv : L2.St} {σ : DSt} (h : SlR H σv σ) : ∀ vs : List Nat, SlR H (wipe σv vs) (dwipe σ vs)
  | [] => h
  | v :: vs => by
    have ih := slr_wipe h vs
    refine ⟨by simp [wipe, dwipe, ih.1], fun i d e => ?_⟩
    unfold dwipe at e
    unfold wipe
    by_cases hi : v = i
    · subst hi
      by_cases hl : v < (dwipe σ vs).length
      · rw [List.getElem?_set_self hl] at e; cases e
      · rw [List.getElem?_eq_none (by simpa using hl)] at e; cases e
    · rw [List.getElem?_set_ne hi] at e ⊢
      exact ih.2 i d e
theorem wipe_set {σ : L2.St} {x : Option V} : ∀ {vs : List Nat} {i : Nat}, i ∈ vs → wipe (σ.set i x) vs = wipe σ vs
  | v :: vs, i, h => by
    unfold wipe
    by_cases hv : i ∈ vs
    · rw [wipe_set hv]
    · rcases List.mem_cons.mp h with rfl | h
      · have : ∀ (us : List Nat), i ∉ us → (wipe (σ.set i x) us).set i none = (wipe σ us).set i none := fun us => by
          induction us with
          | nil => intro _; simp [wipe]
          | cons u us ih =>
            intro hu
            rw [List.mem_cons, not_or] at hu
            show ((wipe (σ.set i x) us).set u none).set i none = ((wipe σ us).set u none).set i none
            rw [List.set_comm _ _ (Ne.symm hu.1), ih hu.2, List.set_comm _ _ hu.1]
        exact this vs hv
      · exact (hv h).elim
def GRel (vs : List Nat) (g : TG) (gd : DTG) : Prop := ∀ (H : Hp) (S : Store) (σv : L2.St) (σ : DSt) (x : V) (d : D) (Qd : DSt → Store → Prop) (Q : L2.St → Hp → Prop), SlR H σv σ → Rp H d x → gd d σ S Qd →
  (∀ σ2v σ2, SlR H σ2v σ2 → wipe σ2v vs = wipe σv vs → Qd σ2 S → Q σ2v H) → g x σv H Q
def GsRel (vs : List Nat) (g : TGs) (gd : DTGs) : Prop := ∀ (H : Hp) (S : Store) (σv : L2.St) (σ : DSt) (xs : List V) (ds : List D) (Qd : DSt → Store → Prop) (Q : L2.St → Hp → Prop), SlR H σv σ → Rps H ds xs → gd ds σ S Qd →
  (∀ σ2v σ2, SlR H σ2v σ2 → wipe σ2v vs = wipe σv vs → Qd σ2 S → Q σ2v H) → g xs σv H Q
theorem gr_name {vs : List Nat} {i : Nat} (h : i ∈ vs) : GRel vs (gName i) (gN i) := fun H S σv σ x d Qd Q sl p q k => k _ _ (sl.set p) (wipe_set h) q
theorem gr_nil {vs : List Nat} : GsRel vs gNil gsNil := fun H S σv σ xs ds Qd Q sl p q k => by
  cases ds with
  | nil => exact ⟨p, k _ _ sl rfl q⟩
  | cons _ _ => exact q.elim
theorem gr_cons {vs : List Nat} {g : TG} {gd : DTG} {gs : TGs} {gds : DTGs} (h1 : GRel vs g gd) (h2 : GsRel vs gs gds) : GsRel vs (gCons g gs) (gsCons gd gds) := fun H S σv σ xs ds Qd Q sl p q k => by
  cases ds with
  | nil => exact q.elim
  | cons d ds =>
    obtain ⟨v, r, rfl, p1, p2⟩ := p
    exact ⟨v, r, rfl, h1 H S σv σ v d _ _ sl p1 q fun σ2v σ2 sl2 w2 q2 => h2 H S σ2v σ2 r ds _ _ sl2 p2 q2 fun σ3v σ3 sl3 w3 q3 => k _ _ sl3 (w3.trans w2) q3⟩
theorem gr_tup {K : PySem.W.Frag} {vs : List Nat} {n : Nat} {g : TGs} {gd : DTGs} (h : GsRel vs g gd) : GRel vs (gTup K n g) (gT n gd) := fun H S σv σ x d Qd Q sl p q k => by
  cases d with
  | tup ds =>
    obtain ⟨hl, q⟩ := q
    obtain ⟨a, xs, rfl, h1, h2⟩ := p
    exact ⟨a, xs, rfl, .of h1, by rw [h2.length]; exact hl, h H S σv σ xs ds Qd Q sl h2 q k⟩
  | _ => exact q.elim

/-! ### hidden objects -/
section
variable {P : Program} {w : World} {K : PySem.W.Frag} {H H1 : Hp} {S S1 : Store} {a : Addr} {o u : HO}
theorem Gx.hid (g : Gx H S H1 S1) (h : H a = none) : Gx H S (upd H1 a o) S1 := fun b x e e' => by
  obtain ⟨q1, q2⟩ := g b x e e'
  exact ⟨by rw [upd_ne (ne_of_none e h)]; exact q1, q2⟩
theorem Gx.tell {m : MO} (g : Gx H S H1 S1) (h : H a = none) : Gx H S H1 (put S1 a m) := fun b x e e' => by
  obtain ⟨q1, q2⟩ := g b x e e'
  exact ⟨q1, by rw [put_ne (ne_of_none e h)]; exact q2⟩
theorem RelS.hid (r : RelS P w K H S) (h : S a = none) (hu : H a = some u) (hn : ∀ xs, u ≠ .tup xs) : RelS P w K (upd H a o) S := fun b m e =>
  (r b m e).mono (Tx.write hu hn) (upd_ne fun z => by rw [z, h] at e; cases e)
theorem RelS.tell {m : MO} (r : RelS P w K H S) (n : RelO P w K H a m) : RelS P w K H (put S a m) := fun b u e => by
  by_cases hb : b = a
  · subst hb; rw [put_same] at e; cases e; exact n
  · rw [put_ne hb] at e
    exact r b u e
end

/-! ### list comprehensions -/
def lcL (g : DTG) (tt : DTT) (te : DTE) (vs : List Nat) (σ : DSt) (G : Store → Prop) (Q : List D → Store → Prop) : List D → List D → Store → Prop
  | [], acc, S => G S ∧ Q acc S
  | x :: r, acc, S => G S ∧ g x (dwipe σ vs) S fun σ2 S2 => tt σ2 S2 fun b S3 => if b = true then te σ2 S3 fun y S4 => lcL g tt te vs σ G Q r (acc ++ [y]) S4 else lcL g tt te vs σ G Q r acc S3
def dLc (ti : DTI) (g : DTG) (tt : DTT) (te : DTE) (vs : List Nat) : DTE := fun σ S Q => ti σ S fun ds G S1 => lcL g tt te vs σ G (fun acc S2 => ∀ p, S2 p = none → Q (.loc p) (put S2 p (.lst acc))) ds [] S1
section
variable {X : Cx} {B : Hp × Store} {elt tg iter : Expr} {ifs : List Expr} {scope : Scope} {own : List (Str × Nat)} {pos : Pos} {ti : DTI} {g : TG} {gd : DTG} {tt : DTT} {te : DTE}
theorem lc_ref {P : Program} {w : World} {K : PySem.W.Frag} {vs : List Nat} (gr : GRel vs g gd) {σv : L2.St} {H : Hp} {σ : DSt} {S : Store} {Q : DQ} {Q' : VK} (sl : SlR H σv σ) (rs : RelS P w K H S) (bs : Gx B.1 B.2 H S) (h : dLc ti gd tt te vs σ S Q)
    (k : ∀ d S' v H', Q d S' → Rp H' d v → RelS P w K H' S' → Gx H S H' S' → Q' v H') : tLc (sI P w K B ti) g (sT P w K B tt) (sE P w K B te) vs σv H Q' := by
  refine ⟨σ, S, _, sl, rs, bs, h, fun ds G S1 J H1 hzd q r1 g1 jok => ?_⟩
  intro p hp
  refine ⟨fun i m Hc => m = ds.length - i ∧ i ≤ ds.length ∧ ∃ (Sc : Store) (acc : List D) (accv : List V), RelS P w K Hc Sc ∧ Gx H1 S1 Hc Sc ∧ Sc p = none ∧ Hc p = some (.lst accv) ∧ Rps Hc acc accv ∧ acc.length ≤ i ∧
    lcL gd tt te vs σ G (fun acc S2 => ∀ p, S2 p = none → Q (.loc p) (put S2 p (.lst acc))) (ds.drop i) acc Sc, ⟨ds.length, by simp, Nat.zero_le _, S1, [], [], r1.grow hp, Gx.grow hp, r1.free hp, upd_same, rfl, Nat.le_refl _, q⟩, ?_⟩
  rintro i m Hc ⟨rfl, hi, Sc, acc, accv, rc, gc, sp, hpc, pa, hl, w3⟩
  by_cases hlt : i < ds.length
  · have hd : ds[i]? = some ds[i] := List.getElem?_eq_getElem hlt
    rw [List.drop_eq_getElem_cons hlt] at w3
    obtain ⟨hG, w3⟩ := w3
    obtain ⟨go, step⟩ := (jok i Hc Sc (gc.tx r1) rc hG).2 _ hd
    refine .inr ⟨go, fun Hn => ∃ (Sc : Store) (acc : List D) (accv : List V), RelS P w K Hn Sc ∧ Gx H1 S1 Hn Sc ∧ Sc p = none ∧ Hn p = some (.lst accv) ∧ Rps Hn acc accv ∧ acc.length ≤ i + 1 ∧
      lcL gd tt te vs σ G (fun acc S2 => ∀ p, S2 p = none → Q (.loc p) (put S2 p (.lst acc))) (ds.drop (i + 1)) acc Sc, fun Hn n => ⟨ds.length - (i + 1), by omega, rfl, hlt, n⟩, fun x H5 y5 => ?_⟩
    obtain ⟨px, r5, g5⟩ := step x H5 y5
    have tx5 : Tx H H5 := ((g1.trans gc).trans g5).tx rs
    refine gr H5 Sc (wipe σv vs) (dwipe σ vs) x _ _ _ (slr_wipe (sl.mono tx5) vs) px w3 fun σ2v σ2 sl2 w2 q2 => ?_
    have ww : ∀ us : List Nat, wipe (wipe σv us) us = wipe σv us := fun us => by
      have : ∀ us' : List Nat, ∀ σv : L2.St, (∀ i ∈ us', ∀ v, σv[i]? = some (some v) → False) → wipe σv us' = σv := fun us' => by
        induction us' with
        | nil => intro _ _; rfl
        | cons u us' ih =>
          intro σv hz
          show (wipe σv us').set u none = σv
          rw [ih σv fun i hi => hz i (List.mem_cons_of_mem _ hi)]
          refine List.ext_getElem? fun j => ?_
          by_cases hj : u = j
          · subst hj
            by_cases hl : u < σv.length
            · rw [List.getElem?_set_self hl]
              cases e : σv[u]? with
              | none => rw [List.getElem?_eq_none_iff] at e; omega
              | some o =>
                cases o with
                | none => rfl
                | some v => exact (hz u List.mem_cons_self v e).elim
            · rw [List.getElem?_eq_none (by simpa using hl), List.getElem?_eq_none (by simpa using hl)]
          · rw [List.getElem?_set_ne hj]
      exact this us _ fun i hi v e => (wipe_some e).2 hi
    refine ⟨w2.trans (ww vs), ?_⟩
    refine ⟨σ2, Sc, _, sl2, r5, bs.trans ((g1.trans gc).trans g5), q2, fun b S6 H6 q6 r6 g6 => ?_⟩
    have hp5 := (gc.trans g5)
    have a5 := g5 p _ hpc sp
    have a6 := g6 p _ a5.1 a5.2
    have t6 : Tx Hc H6 := (g5.trans g6).tx rc
    cases b with
    | false =>
      rw [if_neg Bool.false_ne_true] at q6
      refine iteF ?_
      exact ⟨S6, acc, accv, r6, (gc.trans g5).trans g6, a6.2, a6.1, pa.mono t6, Nat.le_succ_of_le hl, q6⟩
    | true =>
      rw [if_pos rfl] at q6
      refine iteT ?_
      refine ⟨σ2, S6, _, sl2.mono (g6.tx r5), r6, bs.trans (((g1.trans gc).trans g5).trans g6), q6, fun y S7 yv H7 q7 p7 r7 g7 => ?_⟩
      have a7 := g7 p _ a6.1 a6.2
      have t7 : Tx Hc H7 := ((g5.trans g6).trans g7).tx rc
      have t8 : Tx H7 (upd H7 p (.lst (accv ++ [yv]))) := Tx.write a7.1 fun _ z => nomatch z
      refine ⟨accv, a7.1, by rw [pa.length]; omega, S7, acc ++ [y], accv ++ [yv], r7.hid a7.2 a7.1 (fun _ z => nomatch z), (((gc.trans g5).trans g6).trans g7).hid hp, a7.2, upd_same, ?_, by simp; exact hl, q7⟩
      have p7' : Rps H7 [y] [yv] := ⟨yv, [], rfl, p7, rfl⟩
      exact ((pa.mono t7).append p7').mono t8
  · have e : i = ds.length := by omega
    subst e
    rw [List.drop_length] at w3
    obtain ⟨hG, w3⟩ := w3
    refine .inl ⟨(jok _ Hc Sc (gc.tx r1) rc hG).1 rfl, ?_⟩
    exact k (.loc p) _ (.ref p) Hc (w3 p sp) rfl (rc.tell ⟨accv, hpc, pa⟩) (g1.trans (gc.tell hp))
theorem de_lc (hc : X.calm = true) (hN : X.N.Nodup) (hi : DIt X B tg iter ti) (ok : BlkOk X.N X.env.scope scope own) (gr : GRel (own.map (·.2)) g gd)
    (hg : ∀ (s : Shared) (H : Hp) (C : Addr) (cl : List (Str × Addr)) (fp : List Addr), PG (X.blk s H scope (compEnvC scope cl C X.env) fp) tg g) (ht : ∀ (s : Shared) (H : Hp) (C : Addr) (cl : List (Str × Addr)) (fp : List Addr), DTs (X.blk s H scope (compEnvC scope cl C X.env) fp) B ifs tt)
    (he : ∀ (s : Shared) (H : Hp) (C : Addr) (cl : List (Str × Addr)) (fp : List Addr), DE (X.blk s H scope (compEnvC scope cl C X.env) fp) B elt te) (hs : ∀ x, foldedSetIterable iter X.env x = pure x := by intro _; rfl) :
    DE X B (.ListComp elt [⟨tg, iter, ifs, 0⟩] scope pos) (dLc ti gd tt te (own.map (·.2))) := by
  refine ⟨fun pins s σv H σ S Q I h => ?_⟩
  refine thn ((pe_lc (te := sE X.prog X.w X.K B te) (tt := sT X.prog X.w X.K B tt) hc hN hi.pi ok hg (fun s H C cl fp => (ht s H C cl fp).ex) (fun s H C cl fp => (he s H C cl fp).pe) hs).run pins s σv H (fun v H' => ∃ d S', RelS X.prog X.w X.K H' S' ∧ Gx H S H' S' ∧ Rp H' d v ∧ Q d S') I.inv ?_) fun u s' ⟨v, H', J, r, d, S', a, b, c, q⟩ => ⟨v, d, H', S', J, a, b, r, c, q⟩
  exact lc_ref gr I.sl I.st I.bs h fun d S' v H' q p r g => ⟨d, S', r, g, p, q⟩
/-- name = [..] on one line, the name a local -/
theorem ds_setLc {i : Nat} {y : Str} {py spos : Pos} (hc : X.calm = true) (hN : X.N.Nodup) (hy : X.N[i]? = some y) (hyl : X.env.scope.names.lookup y = some .local)
    (hsw : swapsWith (.ListComp elt [⟨tg, iter, ifs, 0⟩] scope pos) (some (.Name y py)) spos.line X.env = pure true) (hi : DIt X B tg iter ti) (ok : BlkOk X.N X.env.scope scope own) (gr : GRel (own.map (·.2)) g gd)
    (hg : ∀ (s : Shared) (H : Hp) (C : Addr) (cl : List (Str × Addr)) (fp : List Addr), PG (X.blk s H scope (compEnvC scope cl C X.env) fp) tg g) (ht : ∀ (s : Shared) (H : Hp) (C : Addr) (cl : List (Str × Addr)) (fp : List Addr), DTs (X.blk s H scope (compEnvC scope cl C X.env) fp) B ifs tt)
    (he : ∀ (s : Shared) (H : Hp) (C : Addr) (cl : List (Str × Addr)) (fp : List Addr), DE (X.blk s H scope (compEnvC scope cl C X.env) fp) B elt te) (hs : ∀ x, foldedSetIterable iter X.env x = pure x := by intro _; rfl) :
    DS X B (.Assign [.Name y py] (.ListComp elt [⟨tg, iter, ifs, 0⟩] scope pos) spos) (dAsg (dLc ti gd tt te (own.map (·.2))) (gN i)) := by
  refine ⟨fun pins s σv H σ S E I h => ?_⟩
  refine thn ((ps_setLc (te := sE X.prog X.w X.K B te) (tt := sT X.prog X.w X.K B tt) hc hN hy hyl hsw hi.pi ok hg (fun s H C cl fp => (ht s H C cl fp).ex) (fun s H C cl fp => (he s H C cl fp).pe) hs).run pins s σv H { nx := fun σv' H' => ∃ σ' S', SlR H' σv' σ' ∧ RelS X.prog X.w X.K H' S' ∧ Gx H S H' S' ∧ E.nx σ' S', rt := fun _ _ => False } I.inv ?_) fun f s' q => ?_
  · refine lc_ref gr I.sl I.st I.bs h fun d S' v H' q p r g => ?_
    exact ⟨σ.set i (some d), S', (I.sl.mono (g.tx I.st)).set p, r, g, q⟩
  · cases f with
    | next =>
      obtain ⟨σv', H', J, σ', S', sl, r, g, q⟩ := q
      exact ⟨σv', H', σ', S', ⟨J, sl, r, I.bs.trans g⟩, g, q⟩
    | brk => obtain ⟨_, _, _, z⟩ := q; exact z.elim
    | cont => obtain ⟨_, _, _, z⟩ := q; exact z.elim
    | ret u => obtain ⟨_, _, _, _, _, z⟩ := q; exact z.elim
end
end DL

namespace DL
open PySem PySem.Spec PyProof.Rows L2

/-! ### dicts as lists of pairs -/
def dget (kvs : List (D × D)) (k : D) : Option D := (kvs.find? fun p => decide (p.1 = k)).map (·.2)
def dput (kvs : List (D × D)) (k v : D) : List (D × D) := if (dget kvs k).isSome then kvs.map (fun p => if p.1 = k then (p.1, v) else p) else kvs ++ [(k, v)]
def ddel (kvs : List (D × D)) (k : D) : List (D × D) := kvs.filter fun p => decide (p.1 ≠ k)
def DKey (k : D) : Prop := k.isK = true ∧ k.dep ≤ 8 ∧ ∃ ks, k = .tup ks

section
variable {X : Cx} {pins : List (Addr × Obj)} {σv : L2.St} {H : Hp} {s : Shared}
mutual
theorem nested_of (I : Inv X pins σv H s) : ∀ (d : D) (v : V) (u : Value), d.isK = true → Rp H d v → RelV v u → NestedIs s.heap d.nk u
  | .int i, v, u, _, p, r => by
    cases (show v = .int i from p)
    obtain ⟨t, rfl⟩ := r
    exact .int i t
  | .str x, v, u, _, p, r => by
    cases (show v = .str x from p)
    obtain ⟨t, rfl⟩ := r
    exact .text x t
  | .tup ds, v, u, hk, p, r => by
    obtain ⟨a, xs, rfl, h1, h2⟩ := p
    cases r
    obtain ⟨its, rv, ⟨o, e1, e2, n, e3⟩, hz⟩ := I.tuple (.of h1)
    exact .tup e1 e2 e3 (nested_all I ds xs its hk h2 rv)
  | .non, _, _, hk, _, _ => by simp [D.isK] at hk
  | .bl _, _, _, hk, _, _ => by simp [D.isK] at hk
  | .loc _, _, _, hk, _, _ => by simp [D.isK] at hk
  | .ty _, _, _, hk, _, _ => by simp [D.isK] at hk
theorem nested_all (I : Inv X pins σv H s) : ∀ (ds : List D) (vs : List V) (us : List Value), D.isKs ds = true → Rps H ds vs → Vals vs us → NestedAll s.heap (D.nks ds) us
  | [], vs, us, _, p, r => by
    cases (show vs = [] from p)
    cases r
    exact .nil
  | d :: ds, vs, us, hk, p, r => by
    obtain ⟨v, vr, rfl, p1, p2⟩ := p
    rw [D.isKs, Bool.and_eq_true] at hk
    cases r with
    | cons r1 r2 => exact .cons (nested_of I d v _ hk.1 p1 r1) (nested_all I ds vr _ hk.2 p2 r2)
end
theorem key_is (I : Inv X pins σv H s) {k : D} {a : Addr} (hk : DKey k) (p : Rp H k (.ref a)) : (nestedKind X.prog X.w).is s.heap k.nk a :=
  ⟨nested_of I k _ _ hk.1 p rfl, by rw [D.nk_dep]; exact hk.2.1⟩
theorem dic_of (I : Inv X pins σv H s) {a : Addr} {n : Nat} {kvs : List (D × D)} {o : Obj} {xs : List (NestedKey × Addr × Value)} (h : DicAt X.prog X.w H a n kvs o xs) : s.heap.DictOfH (nestedKind X.prog X.w) a xs := by
  obtain ⟨es, e1, e2⟩ := h.es
  refine ⟨o, es, n, (I.hok a _ h.at_).1, h.exact_, e1, e2, fun x hx => ?_, h.nd⟩
  obtain ⟨i, hi⟩ := List.mem_iff_getElem?.mp hx
  obtain ⟨p, _, q1, q2, q3, q4, q5, _⟩ := paired_getR h.rel hi
  rw [q1]
  exact key_is I ⟨q2, q3, q4⟩ q5
theorem key_ref {k : D} {v : V} (hk : DKey k) (p : Rp H k v) : ∃ a, v = .ref a := by
  obtain ⟨_, _, ks, rfl⟩ := hk
  obtain ⟨a, _, rfl, _⟩ := p
  exact ⟨a, rfl⟩
end
theorem atKey_rel {H : Hp} {k : D} (hk : DKey k) : ∀ {kvs : List (D × D)} {xs : List (NestedKey × Addr × Value)},
    Paired (DPr H) kvs xs →
    (match dget kvs k with
      | none => atKey xs k.nk = none
      | some d => ∃ a u, atKey xs k.nk = some (a, u) ∧ ∃ v, RelV v u ∧ Rp H d v)
  | _, _, .nil => rfl
  | p :: kvs, x :: xs, .cons ⟨q1, q2, q3, q4, q5, v, q6, q7⟩ t => by
    have ih := atKey_rel hk t
    by_cases e : p.1 = k
    · have e1 : dget (p :: kvs) k = some p.2 := by simp [dget, List.find?_cons, e]
      have e2 : atKey (x :: xs) k.nk = some x.2 := by simp [atKey, List.find?_cons, q1, e]
      rw [e1]
      exact ⟨x.2.1, x.2.2, e2, v, q6, q7⟩
    · have e1 : dget (p :: kvs) k = dget kvs k := by simp [dget, List.find?_cons, e]
      have ne : x.1 ≠ k.nk := fun z => e (D.nk_inj _ _ q2 hk.1 (q1.symm.trans z))
      have e2 : atKey (x :: xs) k.nk = atKey xs k.nk := by simp [atKey, List.find?_cons, ne]
      rw [e1, e2]
      exact ih
theorem atKey_isSome {H : Hp} {k : D} (hk : DKey k) {kvs : List (D × D)} {xs : List (NestedKey × Addr × Value)}
    (h : Paired (DPr H) kvs xs) : (atKey xs k.nk).isSome = (dget kvs k).isSome := by
  have q := atKey_rel hk h
  split at q
  · rename_i e; rw [e, q]; rfl
  · rename_i d e
    obtain ⟨a, u, e2, _⟩ := q
    rw [e, e2]; rfl
theorem paired_map {α β : Type} {F G : α → β → Prop} {f : α → α} {g : β → β} (h : ∀ a b, F a b → G (f a) (g b)) : ∀ {l : List α} {m : List β}, Paired F l m → Paired G (l.map f) (m.map g)
  | _, _, .nil => .nil
  | _, _, .cons r t => .cons (h _ _ r) (paired_map h t)
theorem paired_append {α β : Type} {F : α → β → Prop} : ∀ {l l' : List α} {m m' : List β}, Paired F l m → Paired F l' m' → Paired F (l ++ l') (m ++ m')
  | _, _, _, _, .nil, h => h
  | _, _, _, _, .cons r t, h => .cons r (paired_append t h)
theorem paired_filter {α β : Type} {F : α → β → Prop} {f : α → Bool} {g : β → Bool} (h : ∀ a b, F a b → f a = g b) : ∀ {l : List α} {m : List β}, Paired F l m → Paired F (l.filter f) (m.filter g)
  | _, _, .nil => .nil
  | a :: l, b :: m, .cons r t => by
    have e := h _ _ r
    cases q : f a with
    | true => rw [List.filter_cons_of_pos q, List.filter_cons_of_pos (by rw [← e]; exact q)]; exact .cons r (paired_filter h t)
    | false => rw [List.filter_cons_of_neg (by simp [q]), List.filter_cons_of_neg (by rw [← e]; simp [q])]; exact paired_filter h t
/-- a dict's object after a change -/
theorem dic_new {P : Program} {w : World} {K : PySem.W.Frag} {H : Hp} {a : Addr} {h' : Heap} {kvs : List (D × D)} {xs : List (NestedKey × Addr × Value)} (hm : h'.DictOfH (nestedKind P w) a xs) (hl : kvs.length ≤ sizeLine) (sys : (a == sysModules) = false)
    (rel : Paired (DPr H) kvs xs) (hu : ∀ xs, H a ≠ some (.tup xs)) :
    ∃ (o : Obj) (n : Nat), h'.get? a = some o ∧ (∀ H0, ObjOk P w H0 h' a (.ext fun h => h.get? a = some o)) ∧ RelO P w K (upd H a (.ext fun h => h.get? a = some o)) a (.dic n kvs) := by
  obtain ⟨o, es, ep, e1, e2, e3, e4, _, e6⟩ := hm
  have t : ∀ u, Tx H (upd H a u) := fun u b xs e => by
    rw [upd_ne fun z => by rw [z] at e; exact hu xs e]; exact e
  exact ⟨o, ep, e1, fun H0 => ⟨e1, ⟨o, e1⟩, fun h1 h2 q k => k o q⟩, o, xs, ⟨upd_same, e2, ⟨es, e3, e4⟩, e6, Paired.mapW rel fun p x ⟨q1, q2, q3, q4, q5, v, q6, q7⟩ => ⟨q1, q2, q3, q4, q5.mono (t _), v, q6, q7.mono (t _)⟩, hl, sys⟩⟩
theorem dput_len (kvs : List (D × D)) (k v : D) : (dput kvs k v).length ≤ kvs.length + 1 := by
  unfold dput; split <;> simp
section
variable {P : Program} {w : World} {H : Hp}
theorem rel_put {k d : D} {a : Addr} {v : V} {u : Value} (hk : DKey k) (pk : Rp H k (.ref a)) (pv : Rp H d v) (rv : RelV v u) {kvs : List (D × D)} {xs : List (NestedKey × Addr × Value)}
    (h : Paired (DPr H) kvs xs) :
    Paired (DPr H) (dput kvs k d) (storedH xs k.nk a u) := by
  unfold dput storedH
  rw [atKey_isSome hk h]
  split
  · refine paired_map (fun p x q => ?_) h
    obtain ⟨q1, q2, q3, q4, q5, v', q6, q7⟩ := q
    unfold putAt
    by_cases e : p.1 = k
    · rw [if_pos e, if_pos (by rw [q1, e])]
      exact ⟨q1, q2, q3, q4, q5, v, rv, pv⟩
    · rw [if_neg e, if_neg (fun z => e (D.nk_inj _ _ q2 hk.1 (q1.symm.trans z)))]
      exact ⟨q1, q2, q3, q4, q5, v', q6, q7⟩
  · exact paired_append h (.cons ⟨rfl, hk.1, hk.2.1, hk.2.2, pk, v, rv, pv⟩ .nil)
theorem rel_del {k : D} (hk : DKey k) {kvs : List (D × D)} {xs : List (NestedKey × Addr × Value)}
    (h : Paired (DPr H) kvs xs) :
    Paired (DPr H) (ddel kvs k) (withoutH xs k.nk) := by
  refine paired_filter (fun p x q => ?_) h
  obtain ⟨q1, q2, q3, q4, q5, v', q6, q7⟩ := q
  by_cases e : p.1 = k
  · rw [decide_eq_false (by simp [e]), decide_eq_false (by simp [q1, e])]
  · rw [decide_eq_true e, decide_eq_true (show x.1 ≠ k.nk from fun z => e (D.nk_inj _ _ q2 hk.1 (q1.symm.trans z)))]
end
section
variable {X : Cx} {pins : List (Addr × Obj)} {σv : L2.St} {H : Hp} {s : Shared} {E : Value → Shared → Prop}
theorem nroom {X : Cx} (hu : X.A.units + 64 < cLine) : (nestedKind X.prog X.w).room X.A.in1 := by
  show X.A.units + 1 + 8 < cLine
  omega
theorem nroom0 {X : Cx} (hu : X.A.units + 64 < cLine) : (nestedKind X.prog X.w).room X.A := by
  show X.A.units + 8 < cLine
  omega
/-- behind a change of the dict at a -/
theorem dic_write {a : Addr} {n : Nat} {kvs kvs' : List (D × D)} {o : Obj} {xs xs' : List (NestedKey × Addr × Value)} {h' : Heap} {tk : Nat} (I : Inv X pins σv H s) (hD : DicAt X.prog X.w H a n kvs o xs) (hm : h'.DictOfH (nestedKind X.prog X.w) a xs') (sb : Heap.SameBut a s.heap h') (hl : kvs'.length ≤ sizeLine)
    (rel : Paired (DPr H) kvs' xs') :
    ∃ (u : HO) (n' : Nat), Inv X pins σv (upd H a u) { s with heap := h', toks := tk } ∧ RelO X.prog X.w X.K (upd H a u) a (.dic n' kvs') := by
  obtain ⟨o', n', e1, e2, e3⟩ := dic_new (K := X.K) (H := H) hm hl hD.sys rel fun xs z => by rw [hD.at_] at z; cases z
  exact ⟨_, n', I.write (x := a) (e := a) (by rw [hD.at_]; exact True.intro) (.inl rfl) (fun b u hb e => (sb.2 b hb).trans e) ⟨o', e1⟩ (e2 _), e3⟩
end
end DL

namespace DL
open PySem PySem.Spec PyProof.Rows L2

/-! ### plain data -/
/-- numbers, texts, None, tuples of such to the depth n -/
def D.pl : Nat → D → Bool
  | _, .non => true
  | _, .int _ => true
  | _, .str x => PyData.strOk x
  | n + 1, .tup ds => ds.all (D.pl n)
  | _, _ => false
def D.isBl : D → Bool
  | .bl _ => true
  | _ => false
theorem pl_pure : ∀ (n : Nat) (d : D), d.pl n = true → d.pure = true
  | _, .non, _ => rfl
  | _, .int _, _ => rfl
  | _, .str _, _ => rfl
  | 0, .tup _, h => by simp [D.pl] at h
  | n + 1, .tup ds, h => by
    rw [D.pl, List.all_eq_true] at h
    rw [D.pure, D.pures_iff]
    exact fun d hd => pl_pure n d (h d hd)
  | _, .bl _, h => by simp [D.pl] at h
  | _, .loc _, h => by simp [D.pl] at h
  | _, .ty _, h => by simp [D.pl] at h
theorem depthAll_le {n : Nat} : ∀ {ds : List D}, (∀ d ∈ ds, d.pd.depth ≤ n) → PyData.depthAll (D.pds ds) ≤ n
  | [], _ => Nat.zero_le _
  | d :: ds, h => by
    rw [D.pds, PyData.depthAll]
    have h1 := h d List.mem_cons_self
    have h2 := depthAll_le (n := n) (ds := ds) fun x hx => h x (List.mem_cons_of_mem _ hx)
    omega
theorem pl_depth : ∀ (n : Nat) (d : D), d.pl n = true → d.pd.depth ≤ n
  | _, .non, _ => by simp [D.pd, PyData.depth]
  | _, .int _, _ => by simp [D.pd, PyData.depth]
  | _, .str _, _ => by simp [D.pd, PyData.depth]
  | 0, .tup _, h => by simp [D.pl] at h
  | n + 1, .tup ds, h => by
    rw [D.pl, List.all_eq_true] at h
    rw [D.pd, PyData.depth]
    have := depthAll_le (n := n) (ds := ds) fun d hd => pl_depth n d (h d hd)
    omega
  | _, .bl _, h => by simp [D.pl] at h
  | _, .loc _, h => by simp [D.pl] at h
  | _, .ty _, h => by simp [D.pl] at h
theorem canLayAll_of : ∀ {ds : List D}, (∀ d ∈ ds, d.pd.canLay0 = true) → PyData.canLayAll0 (D.pds ds) = true
  | [], _ => rfl
  | d :: ds, h => by
    rw [D.pds, PyData.canLayAll0, Bool.and_eq_true]
    exact ⟨h d List.mem_cons_self, canLayAll_of fun x hx => h x (List.mem_cons_of_mem _ hx)⟩
theorem pl_lay : ∀ (n : Nat) (d : D), d.pl n = true → d.pd.canLay0 = true
  | _, .non, _ => rfl
  | _, .int _, _ => rfl
  | _, .str x, h => by rw [D.pd, PyData.canLay0]; simpa [D.pl] using h
  | 0, .tup _, h => by simp [D.pl] at h
  | n + 1, .tup ds, h => by
    rw [D.pl, List.all_eq_true] at h
    rw [D.pd, PyData.canLay0]
    exact canLayAll_of fun d hd => pl_lay n d (h d hd)
  | _, .bl _, h => by simp [D.pl] at h
  | _, .loc _, h => by simp [D.pl] at h
  | _, .ty _, h => by simp [D.pl] at h
/-- == of plain data -/
theorem str_beq (x y : Str) : (x == y) = decide (x = y) := by
  by_cases e : x = y
  · subst e; simp
  · rw [decide_eq_false e]
    exact beq_eq_false_iff_ne.mpr e
theorem eqvAll_eq {m n : Nat} (ih : ∀ (a b : D), a.pl m = true → b.pl n = true → PyData.eqv a.pd b.pd = decide (a = b)) : ∀ (xs ys : List D), xs.all (D.pl m) = true → ys.all (D.pl n) = true → PyData.eqvAll (D.pds xs) (D.pds ys) = decide (xs = ys)
  | [], [], _, _ => by simp [D.pds, PyData.eqvAll]
  | [], _ :: _, _, _ => by simp [D.pds, PyData.eqvAll]
  | _ :: _, [], _, _ => by simp [D.pds, PyData.eqvAll]
  | x :: xs, y :: ys, hx, hy => by
    rw [List.all_cons, Bool.and_eq_true] at hx hy
    rw [D.pds, D.pds, PyData.eqvAll, ih x y hx.1 hy.1, eqvAll_eq ih xs ys hx.2 hy.2]
    by_cases e1 : x = y <;> by_cases e2 : xs = ys <;> simp [e1, e2]
theorem eqv_pl : ∀ (m n : Nat) (a b : D), a.pl m = true → b.pl n = true → PyData.eqv a.pd b.pd = decide (a = b)
  | _, _, .non, b, _, hb => by cases b <;> simp_all [D.pd, PyData.eqv, D.pl]
  | _, _, .int i, b, _, hb => by
    cases b with
    | int j =>
      rw [D.pd, D.pd, PyData.eqv]
      by_cases e : i = j <;> simp [e]
    | _ => simp_all [D.pd, PyData.eqv, D.pl]
  | _, _, .str x, b, _, hb => by
    cases b with
    | str y => rw [D.pd, D.pd, PyData.eqv, str_beq]; by_cases e : x = y <;> simp [e]
    | _ => simp_all [D.pd, PyData.eqv, D.pl]
  | 0, _, .tup _, _, h, _ => by simp [D.pl] at h
  | m + 1, n, .tup xs, b, ha, hb => by
    cases b with
    | tup ys =>
      cases n with
      | zero => simp [D.pl] at hb
      | succ n =>
        rw [D.pl] at ha hb
        rw [D.pd, D.pd, PyData.eqv, eqvAll_eq (fun a b => eqv_pl m n a b) xs ys ha hb]
        by_cases e : xs = ys <;> simp [e]
    | _ => simp_all [D.pd, PyData.eqv, D.pl]
  | _, _, .bl _, _, h, _ => by simp [D.pl] at h
  | _, _, .loc _, _, h, _ => by simp [D.pl] at h
  | _, _, .ty _, _, h, _ => by simp [D.pl] at h

theorem eqvAll_bl : ∀ xs ys : List D, xs.all D.isBl = true → ys.all D.isBl = true → PyData.eqvAll (D.pds xs) (D.pds ys) = decide (xs = ys)
  | [], [], _, _ => by simp [D.pds, PyData.eqvAll]
  | [], _ :: _, _, _ => by simp [D.pds, PyData.eqvAll]
  | _ :: _, [], _, _ => by simp [D.pds, PyData.eqvAll]
  | x :: xs, y :: ys, hx, hy => by
    rw [List.all_cons, Bool.and_eq_true] at hx hy
    rw [D.pds, D.pds, PyData.eqvAll, eqvAll_bl xs ys hx.2 hy.2]
    obtain ⟨p, rfl⟩ : ∃ p, x = .bl p := by have := hx.1; cases x <;> simp_all [D.isBl]
    obtain ⟨q, rfl⟩ : ∃ q, y = .bl q := by have := hy.1; cases y <;> simp_all [D.isBl]
    have e : PyData.eqv (D.bl p).pd (D.bl q).pd = decide (p = q) := by cases p <;> cases q <;> rfl
    rw [e]
    by_cases e1 : p = q <;> by_cases e2 : xs = ys <;> simp [e1, e2]

/-! ### what a value reads as -/
section
variable {X : Cx} {pins : List (Addr × Obj)} {σv : L2.St} {H : Hp} {s : Shared}
mutual
theorem reads_of (I : Inv X pins σv H s) : ∀ (d : D) (v : V) (u : Value), d.pure = true → Rp H d v → RelV v u → ∃ as, Reads s.heap u d.pd as
  | .non, v, u, _, p, r => by cases (show v = .non from p); cases r; exact ⟨_, .none⟩
  | .bl b, v, u, _, p, r => by cases (show v = .bl b from p); cases r; exact ⟨_, .bool b⟩
  | .int i, v, u, _, p, r => by
    cases (show v = .int i from p)
    obtain ⟨t, rfl⟩ := r
    exact ⟨_, .int i t⟩
  | .str x, v, u, _, p, r => by
    cases (show v = .str x from p)
    obtain ⟨t, rfl⟩ := r
    exact ⟨_, .str x t⟩
  | .tup ds, v, u, hk, p, r => by
    obtain ⟨a, xs, rfl, h1, h2⟩ := p
    cases r
    obtain ⟨its, rv, ⟨o, e1, e2, n, e3⟩, hz⟩ := I.tuple (.of h1)
    obtain ⟨as, h⟩ := reads_all I ds xs its hk h2 rv
    exact ⟨as, .tuple e1 e2 e3 h⟩
  | .loc _, _, _, hk, _, _ => by simp [D.pure] at hk
  | .ty _, _, _, hk, _, _ => by simp [D.pure] at hk
theorem reads_all (I : Inv X pins σv H s) : ∀ (ds : List D) (vs : List V) (us : List Value), D.pures ds = true → Rps H ds vs → Vals vs us → ∃ as, ReadsAll s.heap us (D.pds ds) as
  | [], vs, us, _, p, r => by
    cases (show vs = [] from p)
    cases r
    exact ⟨_, .nil⟩
  | d :: ds, vs, us, hk, p, r => by
    obtain ⟨v, vr, rfl, p1, p2⟩ := p
    rw [D.pures, Bool.and_eq_true] at hk
    cases r with
    | cons r1 r2 =>
      obtain ⟨as, h1⟩ := reads_of I d v _ hk.1 p1 r1
      obtain ⟨bs, h2⟩ := reads_all I ds vr _ hk.2 p2 r2
      exact ⟨_, .cons h1 h2⟩
end
theorem reads_lst (I : Inv X pins σv H s) {a : Addr} {ds : List D} {xs : List V} (h1 : H a = some (.lst xs)) (h2 : Rps H ds xs) (hp : D.pures ds = true) : ∃ as, Reads s.heap (.ref a) (.list (D.pds ds)) as := by
  obtain ⟨its, rv, ⟨o, n, e1, e2, e3, e4⟩, hz⟩ := I.list (.of h1)
  obtain ⟨as, h⟩ := reads_all I ds xs its hp h2 rv
  exact ⟨_, .list e1 e2 e4 h⟩
end

/-! ### == and != -/
@[simp] def eqOk : D → D → Store → Bool
  | .bl _, .bl _, _ => true
  | .int _, .int _, _ => true
  | .str _, .str _, _ => true
  | .loc a, .loc b, S => match S a, S b with
    | some (.lst xs), some (.lst ys) => (xs.all (D.pl 8) && ys.all (D.pl 8)) || (xs.all D.isBl && ys.all D.isBl)
    | _, _ => false
  | .loc a, y, S => match S a with
    | some (.lst xs) => xs.all (D.pl 8) && y.pl 8
    | _ => false
  | x, .loc b, S => match S b with
    | some (.lst ys) => x.pl 8 && ys.all (D.pl 8)
    | _ => false
  | x, y, _ => x.pl 8 && y.pl 8
@[simp] def eqV : D → D → Store → Bool
  | .loc a, .loc b, S => match S a, S b with
    | some (.lst xs), some (.lst ys) => decide (xs = ys)
    | _, _ => false
  | x, y, _ => decide (x = y)
@[simp] def rEqD : DR2 := fun x y S Q => eqOk x y S = true ∧ Q (.bl (eqV x y S)) S
@[simp] def rNeD : DR2 := fun x y S Q => eqOk x y S = true ∧ Q (.bl (!eqV x y S)) S
/-- both sides as data, and what == gives -/
theorem eq_two {X : Cx} {pins : List (Addr × Obj)} {σv : L2.St} {H : Hp} {s : Shared} {S : Store} {x y : D} {vx vy : V} {u w : Value} (I : Inv X pins σv H s) (r : RelS X.prog X.w X.K H S) (ru : RelV vx u) (rw' : RelV vy w) (px : Rp H x vx) (py : Rp H y vy) (h : eqOk x y S = true) :
    (∃ a b as bs, Reads s.heap u a as ∧ Reads s.heap w b bs ∧ SeqAt.shaped a = true ∧ SeqAt.shaped b = true ∧ PyData.eqv a b = eqV x y S) ∨ (∃ i j, x = .str i ∧ y = .str j) := by
  have sh : ∀ d : D, d.pl 8 = true → SeqAt.shaped d.pd = true := fun d hd => by
    unfold SeqAt.shaped
    rw [pl_lay 8 d hd, Bool.true_and, decide_eq_true_eq]
    exact Nat.le_trans (pl_depth 8 d hd) (by decide)
  have shL : ∀ ds : List D, ds.all (D.pl 8) = true → SeqAt.shaped (.list (D.pds ds)) = true := fun ds hd => by
    rw [List.all_eq_true] at hd
    unfold SeqAt.shaped
    rw [PyData.canLay0, canLayAll_of fun d h => pl_lay 8 d (hd d h), Bool.true_and, decide_eq_true_eq, PyData.depth]
    have := depthAll_le (n := 8) (ds := ds) fun d h => pl_depth 8 d (hd d h)
    omega
  have pures_pl : ∀ ds : List D, ds.all (D.pl 8) = true → D.pures ds = true := fun ds hd => by
    rw [List.all_eq_true] at hd
    rw [D.pures_iff]
    exact fun d h => pl_pure 8 d (hd d h)
  have plain : ∀ x y : D, (∀ a, x ≠ .loc a) → (∀ b, y ≠ .loc b) → x.pl 8 = true → y.pl 8 = true → Rp H x vx → Rp H y vy → (∃ a b as bs, Reads s.heap u a as ∧ Reads s.heap w b bs ∧ SeqAt.shaped a = true ∧ SeqAt.shaped b = true ∧ PyData.eqv a b = decide (x = y)) := fun x y _ _ h1 h2 px py => by
    obtain ⟨as, ra⟩ := reads_of I x vx u (pl_pure 8 x h1) px ru
    obtain ⟨bs, rb⟩ := reads_of I y vy w (pl_pure 8 y h2) py rw'
    exact ⟨_, _, as, bs, ra, rb, sh x h1, sh y h2, eqv_pl 8 8 x y h1 h2⟩
  have two : ∀ (p q : D), eqOk p q S = (p.pl 8 && q.pl 8) → eqV p q S = decide (p = q) → (∀ a, p ≠ .loc a) → (∀ b, q ≠ .loc b) → eqOk p q S = true → Rp H p vx → Rp H q vy → (∃ a b as bs, Reads s.heap u a as ∧ Reads s.heap w b bs ∧ SeqAt.shaped a = true ∧ SeqAt.shaped b = true ∧ PyData.eqv a b = eqV p q S) := fun p q e1 e2 n1 n2 h px py => by
    rw [e1, Bool.and_eq_true] at h
    rw [e2]
    exact plain p q n1 n2 h.1 h.2 px py
  cases x with
  | str i =>
    cases y with
    | str j => exact .inr ⟨i, j, rfl, rfl⟩
    | loc b =>
      have h : (match S b with | some (.lst ys) => (D.str i).pl 8 && ys.all (D.pl 8) | _ => false) = true := h
      split at h
      · rename_i ys eb
        rw [Bool.and_eq_true] at h
        obtain ⟨xs, h1, h2⟩ := r b _ eb
        cases (show vy = .ref b from py)
        cases (show w = .ref b from rw')
        obtain ⟨as, ra⟩ := reads_of I (.str i) vx u rfl px ru
        obtain ⟨bs, rb⟩ := reads_lst I h1 h2 (pures_pl _ h.2)
        exact .inl ⟨_, _, as, bs, ra, rb, sh _ h.1, shL _ h.2, by simp [D.pd, PyData.eqv, eqV]⟩
      · cases h
    | _ => exact .inl (two _ _ rfl rfl (fun _ z => nomatch z) (fun _ z => nomatch z) h px py)
  | loc a =>
    cases (show vx = .ref a from px)
    cases (show u = .ref a from ru)
    cases y with
    | loc b =>
      cases (show vy = .ref b from py)
      cases (show w = .ref b from rw')
      have h : (match S a, S b with | some (.lst xs), some (.lst ys) => (xs.all (D.pl 8) && ys.all (D.pl 8)) || (xs.all D.isBl && ys.all D.isBl) | _, _ => false) = true := h
      split at h
      · rename_i xs ys ea eb
        have ev : eqV (.loc a) (.loc b) S = decide (xs = ys) := by
          show (match S a, S b with | some (.lst xs), some (.lst ys) => decide (xs = ys) | _, _ => false) = _
          rw [ea, eb]
        obtain ⟨xv, h1, h2⟩ := r a _ ea
        obtain ⟨yv, h3, h4⟩ := r b _ eb
        rw [Bool.or_eq_true, Bool.and_eq_true, Bool.and_eq_true] at h
        rcases h with ⟨hx, hy⟩ | ⟨hx, hy⟩
        · obtain ⟨as, ra⟩ := reads_lst I h1 h2 (pures_pl _ hx)
          obtain ⟨bs, rb⟩ := reads_lst I h3 h4 (pures_pl _ hy)
          exact .inl ⟨_, _, as, bs, ra, rb, shL _ hx, shL _ hy, by rw [PyData.eqv, eqvAll_eq (fun a b => eqv_pl 8 8 a b) xs ys hx hy, ev]⟩
        · have pb : ∀ ds : List D, ds.all D.isBl = true → D.pures ds = true ∧ SeqAt.shaped (.list (D.pds ds)) = true := fun ds hd => by
            rw [List.all_eq_true] at hd
            have hb : ∀ d ∈ ds, ∃ b, d = .bl b := fun d h => by
              have := hd d h
              cases d <;> simp_all [D.isBl]
            refine ⟨by rw [D.pures_iff]; exact fun d h => by obtain ⟨b, rfl⟩ := hb d h; rfl, ?_⟩
            unfold SeqAt.shaped
            rw [PyData.canLay0, canLayAll_of fun d h => by obtain ⟨b, rfl⟩ := hb d h; rfl, Bool.true_and, decide_eq_true_eq, PyData.depth]
            have := depthAll_le (n := 0) (ds := ds) fun d h => by obtain ⟨b, rfl⟩ := hb d h; simp [D.pd, PyData.depth]
            omega
          obtain ⟨as, ra⟩ := reads_lst I h1 h2 (pb _ hx).1
          obtain ⟨bs, rb⟩ := reads_lst I h3 h4 (pb _ hy).1
          exact .inl ⟨_, _, as, bs, ra, rb, (pb _ hx).2, (pb _ hy).2, by rw [PyData.eqv, eqvAll_bl xs ys hx hy, ev]⟩
      · cases h
    | _ =>
      all_goals
        have h : (match S a with | some (.lst xs) => xs.all (D.pl 8) && _ | _ => false) = true := h
        split at h
        · rename_i ys eb
          rw [Bool.and_eq_true] at h
          obtain ⟨xs, h1, h2⟩ := r a _ eb
          obtain ⟨as, ra⟩ := reads_lst I h1 h2 (pures_pl _ h.1)
          obtain ⟨bs, rb⟩ := reads_of I _ vy w (pl_pure 8 _ h.2) py rw'
          exact .inl ⟨_, _, as, bs, ra, rb, shL _ h.1, sh _ h.2, by simp [D.pd, PyData.eqv, eqV]⟩
        · cases h
  | bl i =>
    cases y with
    | bl j =>
      obtain ⟨as, ra⟩ := reads_of I (.bl i) vx u rfl px ru
      obtain ⟨bs, rb⟩ := reads_of I (.bl j) vy w rfl py rw'
      exact .inl ⟨_, _, as, bs, ra, rb, rfl, rfl, by simp [D.pd, PyData.eqv, eqV]; by_cases e : i = j <;> simp [e]⟩
    | loc b =>
      have h : (match S b with | some (.lst ys) => (D.bl i).pl 8 && ys.all (D.pl 8) | _ => false) = true := h
      split at h
      · simp [D.pl] at h
      · cases h
    | _ => simp [eqOk, D.pl] at h
  | int i =>
    cases y with
    | int j =>
      obtain ⟨as, ra⟩ := reads_of I (.int i) vx u rfl px ru
      obtain ⟨bs, rb⟩ := reads_of I (.int j) vy w rfl py rw'
      exact .inl ⟨_, _, as, bs, ra, rb, rfl, rfl, by simp [D.pd, PyData.eqv, eqV]; by_cases e : i = j <;> simp [e]⟩
    | loc b =>
      have h : (match S b with | some (.lst ys) => (D.int i).pl 8 && ys.all (D.pl 8) | _ => false) = true := h
      split at h
      · rename_i ys eb
        rw [Bool.and_eq_true] at h
        obtain ⟨xs, h1, h2⟩ := r b _ eb
        cases (show vy = .ref b from py)
        cases (show w = .ref b from rw')
        obtain ⟨as, ra⟩ := reads_of I (.int i) vx u rfl px ru
        obtain ⟨bs, rb⟩ := reads_lst I h1 h2 (pures_pl _ h.2)
        exact .inl ⟨_, _, as, bs, ra, rb, sh _ h.1, shL _ h.2, by simp [D.pd, PyData.eqv, eqV]⟩
      · cases h
    | _ => exact .inl (two _ _ rfl rfl (fun _ z => nomatch z) (fun _ z => nomatch z) h px py)
  | non =>
    cases y with
    | loc b =>
      have h : (match S b with | some (.lst ys) => (D.non).pl 8 && ys.all (D.pl 8) | _ => false) = true := h
      split at h
      · rename_i ys eb
        rw [Bool.and_eq_true] at h
        obtain ⟨xs, h1, h2⟩ := r b _ eb
        cases (show vy = .ref b from py)
        cases (show w = .ref b from rw')
        obtain ⟨as, ra⟩ := reads_of I .non vx u rfl px ru
        obtain ⟨bs, rb⟩ := reads_lst I h1 h2 (pures_pl _ h.2)
        exact .inl ⟨_, _, as, bs, ra, rb, sh _ h.1, shL _ h.2, by simp [D.pd, PyData.eqv, eqV]⟩
      · cases h
    | _ => exact .inl (two _ _ rfl rfl (fun _ z => nomatch z) (fun _ z => nomatch z) h px py)
  | tup ds =>
    cases y with
    | loc b =>
      have h : (match S b with | some (.lst ys) => (D.tup ds).pl 8 && ys.all (D.pl 8) | _ => false) = true := h
      split at h
      · rename_i ys eb
        rw [Bool.and_eq_true] at h
        obtain ⟨xs, h1, h2⟩ := r b _ eb
        cases (show vy = .ref b from py)
        cases (show w = .ref b from rw')
        obtain ⟨as, ra⟩ := reads_of I (.tup ds) vx u (pl_pure 8 _ h.1) px ru
        obtain ⟨bs, rb⟩ := reads_lst I h1 h2 (pures_pl _ h.2)
        exact .inl ⟨_, _, as, bs, ra, rb, sh _ h.1, shL _ h.2, by simp [D.pd, PyData.eqv, eqV]⟩
      · cases h
    | _ => exact .inl (two _ _ rfl rfl (fun _ z => nomatch z) (fun _ z => nomatch z) h px py)
  | ty n =>
    cases y with
    | loc b =>
      have h : (match S b with | some (.lst ys) => (D.ty n).pl 8 && ys.all (D.pl 8) | _ => false) = true := h
      split at h
      · simp [D.pl] at h
      · cases h
    | _ => simp [eqOk, D.pl] at h
theorem op_eqD {X : Cx} (hu : X.A.units + 64 < cLine) : DOpR X (compareOp .Eq) rEqD := by
  intro pins s σv H S x y dx dy v u Q I r rx ry px py ⟨h, q⟩
  rcases eq_two I r rx ry px py h with ⟨a, b, as, bs, ra, rb, ha, hb, e⟩ | ⟨i, j, rfl, rfl⟩
  · exact eq_dataH ra rb ha hb hu (by rw [e]; exact ⟨.bl _, .bl _, H, S, I, r, Gx.refl, rfl, rfl, q⟩)
  · cases (show x = .str i from px)
    cases (show y = .str j from py)
    exact thn (op_eq (X := X) pins s σv H _ _ _ _ (fun v H' => v = .bl (decide (V.str i = V.str j)) ∧ H' = H) I rx ry ⟨rfl, rfl, rfl⟩) fun z s' ⟨vz, H', J, rz, e1, e2⟩ => by
      subst e2; subst e1
      exact ⟨_, .bl _, _, S, J, r, Gx.refl, rz, rfl, by simpa [eqV] using q⟩
theorem op_neD {X : Cx} (hu : X.A.units + 64 < cLine) : DOpR X (compareOp .NotEq) rNeD := by
  intro pins s σv H S x y dx dy v u Q I r rx ry px py ⟨h, q⟩
  rcases eq_two I r rx ry px py h with ⟨a, b, as, bs, ra, rb, ha, hb, e⟩ | ⟨i, j, rfl, rfl⟩
  · exact ne_dataH ra rb ha hb hu (by rw [e]; exact ⟨.bl _, .bl _, H, S, I, r, Gx.refl, rfl, rfl, q⟩)
  · cases (show x = .str i from px)
    cases (show y = .str j from py)
    exact thn (op_ne (X := X) pins s σv H _ _ _ _ (fun v H' => v = .bl (!decide (V.str i = V.str j)) ∧ H' = H) I rx ry ⟨rfl, rfl, rfl⟩) fun z s' ⟨vz, H', J, rz, e1, e2⟩ => by
      subst e2; subst e1
      exact ⟨_, .bl _, _, S, J, r, Gx.refl, rz, rfl, by simpa [eqV] using q⟩
end DL

namespace DL
open PySem PySem.Spec PyProof.Rows L2

/-! ### in -/
def D.isTup : D → Bool
  | .tup _ => true
  | _ => false
@[simp] def inOk : D → D → Store → Bool
  | x, .tup ds, _ => x.pl 8 && ds.all (D.pl 8)
  | x, .loc a, S => match S a with
    | some (.lst ds) => x.pl 8 && ds.all (D.pl 8)
    | some (.dic _ _) => x.isK && decide (x.dep ≤ 8) && x.isTup
    | _ => false
  | _, _, _ => false
@[simp] def inV : D → D → Store → Bool
  | x, .tup ds, _ => decide (x ∈ ds)
  | x, .loc a, S => match S a with
    | some (.lst ds) => decide (x ∈ ds)
    | some (.dic _ kvs) => (dget kvs x).isSome
    | _ => false
  | _, _, _ => false
@[simp] def rInD : DR2 := fun x y S Q => inOk x y S = true ∧ Q (.bl (inV x y S)) S
@[simp] def rNinD : DR2 := fun x y S Q => inOk x y S = true ∧ Q (.bl (!inV x y S)) S
theorem any_eqv {n : Nat} {d : D} (hd : d.pl n = true) : ∀ {ds : List D}, ds.all (D.pl n) = true → ((D.pds ds).any fun y => PyData.eqv y d.pd) = decide (d ∈ ds)
  | [], _ => by simp [D.pds]
  | x :: ds, h => by
    rw [List.all_cons, Bool.and_eq_true] at h
    rw [D.pds, List.any_cons, any_eqv hd h.2, eqv_pl n n x d h.1 hd]
    by_cases e1 : x = d <;> by_cases e2 : d ∈ ds <;> simp [e1, e2, eq_comm]
    intro z; exact e1 z.symm
theorem isKey_of {x : D} (h : (x.isK && decide (x.dep ≤ 8) && x.isTup) = true) : DKey x := by
  rw [Bool.and_eq_true, Bool.and_eq_true, decide_eq_true_eq] at h
  refine ⟨h.1.1, h.1.2, ?_⟩
  cases x with
  | tup ks => exact ⟨ks, rfl⟩
  | _ => exact absurd h.2 (by simp [D.isTup])
section
variable {X : Cx} {pins : List (Addr × Obj)} {σv : L2.St} {H : Hp} {s : Shared}
theorem pures_of {n : Nat} {ds : List D} (hd : ds.all (D.pl n) = true) : D.pures ds = true := by
  rw [List.all_eq_true] at hd
  rw [D.pures_iff]
  exact fun d h => pl_pure n d (hd d h)
theorem lays_of {n : Nat} {ds : List D} (hd : ds.all (D.pl n) = true) : PyData.canLayAll0 (D.pds ds) = true := by
  rw [List.all_eq_true] at hd
  exact canLayAll_of fun d h => pl_lay n d (hd d h)
theorem room_in (hu : X.A.units + 64 < cLine) {x : D} {n : Nat} (hx : x.pl 8 = true) : X.A.units + 1 + min n x.pd.depth < cLine := by
  have := pl_depth 8 x hx
  have h2 : min n x.pd.depth ≤ x.pd.depth := Nat.min_le_right _ _
  omega
end
theorem op_inD {X : Cx} (hu : X.A.units + 64 < cLine) : DOpR X (compareOp .In) rInD := by
  intro pins s σv H S vx vy x y v u Q I r rx ry px py ⟨h, q⟩
  have fin : DEP X pins σv H S Q (.bool (inV x y S)) s := ⟨.bl _, .bl _, H, S, I, r, Gx.refl, rfl, rfl, q⟩
  cases y with
  | tup ds =>
    have h : (x.pl 8 && ds.all (D.pl 8)) = true := h
    rw [Bool.and_eq_true] at h
    obtain ⟨as, ra⟩ := reads_of I x vx v (pl_pure 8 _ h.1) px rx
    have hp : (D.tup ds).pure = true := pures_of h.2
    obtain ⟨bs, rb⟩ := reads_of I (.tup ds) vy u hp py ry
    exact SeqAt.in_tuple_reads rb ra (lays_of h.2) (pl_lay 8 _ h.1) (room_in hu h.1) (by rw [any_eqv h.1 h.2]; exact fin)
  | loc a =>
    cases (show vy = .ref a from py)
    cases (show u = .ref a from ry)
    have hh : (match S a with
      | some (.lst ds) => x.pl 8 && ds.all (D.pl 8)
      | some (.dic _ _) => x.isK && decide (x.dep ≤ 8) && x.isTup
      | _ => false) = true := h
    split at hh
    · rename_i ds ea
      rw [Bool.and_eq_true] at hh
      obtain ⟨xs, h1, h2⟩ := r a _ ea
      obtain ⟨as, ra⟩ := reads_of I x vx v (pl_pure 8 _ hh.1) px rx
      obtain ⟨bs, rb⟩ := reads_lst I h1 h2 (pures_of hh.2)
      refine SeqAt.in_list_reads rb ra (lays_of hh.2) (pl_lay 8 _ hh.1) (room_in hu hh.1) ?_
      rw [any_eqv hh.1 hh.2]
      have e : inV x (.loc a) S = decide (x ∈ ds) := by
        show (match S a with | some (.lst ds) => decide (x ∈ ds) | some (.dic _ kvs) => (dget kvs x).isSome | _ => false) = _
        rw [ea]
      rw [← e]
      exact fin
    · rename_i n kvs ea
      have hk := isKey_of hh
      obtain ⟨o, xs, hD⟩ := r a _ ea
      obtain ⟨b, rfl⟩ := key_ref hk px
      cases (show v = .ref b from rx)
      refine wpAny_in_heap (nroom hu) (key_is I hk px) hD.sys (dic_of I hD) ?_
      rw [atKey_isSome hk hD.rel]
      have e : inV x (.loc a) S = (dget kvs x).isSome := by
        show (match S a with | some (.lst ds) => decide (x ∈ ds) | some (.dic _ kvs) => (dget kvs x).isSome | _ => false) = _
        rw [ea]
      rw [e] at q
      exact ⟨.bl _, .bl _, H, S, I.tok _, r, Gx.refl, rfl, rfl, q⟩
    · cases hh
  | _ => exact absurd (show false = true by simpa [inOk] using h) Bool.false_ne_true
theorem op_ninD {X : Cx} (hu : X.A.units + 64 < cLine) : DOpR X (compareOp .NotIn) rNinD := by
  intro pins s σv H S vx vy x y v u Q I r rx ry px py ⟨h, q⟩
  have fin : DEP X pins σv H S Q (.bool (!inV x y S)) s := ⟨.bl _, .bl _, H, S, I, r, Gx.refl, rfl, rfl, q⟩
  cases y with
  | tup ds =>
    have h : (x.pl 8 && ds.all (D.pl 8)) = true := h
    rw [Bool.and_eq_true] at h
    obtain ⟨as, ra⟩ := reads_of I x vx v (pl_pure 8 _ h.1) px rx
    have hp : (D.tup ds).pure = true := pures_of h.2
    obtain ⟨bs, rb⟩ := reads_of I (.tup ds) vy u hp py ry
    exact SeqAt.notIn_tuple_reads rb ra (lays_of h.2) (pl_lay 8 _ h.1) (room_in hu h.1) (by rw [any_eqv h.1 h.2]; exact fin)
  | loc a =>
    cases (show vy = .ref a from py)
    cases (show u = .ref a from ry)
    have hh : (match S a with
      | some (.lst ds) => x.pl 8 && ds.all (D.pl 8)
      | some (.dic _ _) => x.isK && decide (x.dep ≤ 8) && x.isTup
      | _ => false) = true := h
    split at hh
    · rename_i ds ea
      rw [Bool.and_eq_true] at hh
      obtain ⟨xs, h1, h2⟩ := r a _ ea
      obtain ⟨as, ra⟩ := reads_of I x vx v (pl_pure 8 _ hh.1) px rx
      obtain ⟨bs, rb⟩ := reads_lst I h1 h2 (pures_of hh.2)
      refine SeqAt.notIn_list_reads rb ra (lays_of hh.2) (pl_lay 8 _ hh.1) (room_in hu hh.1) ?_
      rw [any_eqv hh.1 hh.2]
      have e : inV x (.loc a) S = decide (x ∈ ds) := by
        show (match S a with | some (.lst ds) => decide (x ∈ ds) | some (.dic _ kvs) => (dget kvs x).isSome | _ => false) = _
        rw [ea]
      rw [← e]
      exact fin
    · rename_i n kvs ea
      have hk := isKey_of hh
      obtain ⟨o, xs, hD⟩ := r a _ ea
      obtain ⟨b, rfl⟩ := key_ref hk px
      cases (show v = .ref b from rx)
      have e : inV x (.loc a) S = (dget kvs x).isSome := by
        show (match S a with | some (.lst ds) => decide (x ∈ ds) | some (.dic _ kvs) => (dget kvs x).isSome | _ => false) = _
        rw [ea]
      rw [e] at q
      show wpAny (model X.prog X.w) X.A (do return Value.bool (!(← contains (.ref a) (.ref b)))) (DEP X pins σv H S Q) X.xe s
      refine wpAny_bind (wpAny_contains_heap (nroom hu) (key_is I hk px) hD.sys (dic_of I hD) (wpAny_pure ?_))
      rw [atKey_isSome hk hD.rel]
      exact ⟨.bl _, .bl _, H, S, I.tok _, r, Gx.refl, rfl, rfl, q⟩
    · cases hh
  | _ => exact absurd (show false = true by simpa [inOk] using h) Bool.false_ne_true

/-! ### order -/
@[simp] def isN : D → Bool
  | .non => true
  | _ => false
def D.lt (a b : D) : Bool := PySem.W.dataLt a.pd b.pd
def ordOk (x y : D) : Bool := x.pl 8 && y.pl 8 && PySem.W.alike x.pd y.pd && !isN x
def rLtD : DR2 := fun x y S Q => ordOk x y = true ∧ Q (.bl (D.lt x y)) S
def rGtD : DR2 := fun x y S Q => ordOk x y = true ∧ Q (.bl (D.lt y x)) S
def rLeD : DR2 := fun x y S Q => ordOk x y = true ∧ Q (.bl (!D.lt y x)) S
def rGeD : DR2 := fun x y S Q => ordOk x y = true ∧ Q (.bl (!D.lt x y)) S
theorem ord_two {X : Cx} {pins : List (Addr × Obj)} {σv : L2.St} {H : Hp} {s : Shared} {x y : D} {vx vy : V} {u w : Value} (hu : X.A.units + 64 < cLine) (I : Inv X pins σv H s) (ru : RelV vx u) (rw' : RelV vy w) (px : Rp H x vx) (py : Rp H y vy) (h : ordOk x y = true) :
    ∃ as bs, Reads s.heap u x.pd as ∧ Reads s.heap w y.pd bs ∧ PySem.W.alike x.pd y.pd = true ∧ x.pd ≠ .none ∧ X.A.units + min x.pd.depth y.pd.depth < cLine := by
  unfold ordOk at h
  rw [Bool.and_eq_true, Bool.and_eq_true, Bool.and_eq_true] at h
  obtain ⟨⟨⟨h1, h2⟩, h3⟩, h4⟩ := h
  obtain ⟨as, ra⟩ := reads_of I x vx u (pl_pure 8 _ h1) px ru
  obtain ⟨bs, rb⟩ := reads_of I y vy w (pl_pure 8 _ h2) py rw'
  refine ⟨as, bs, ra, rb, h3, ?_, ?_⟩
  · cases x <;> simp_all [D.pd, D.pl, isN]
  · have := pl_depth 8 x h1
    have h5 : min x.pd.depth y.pd.depth ≤ x.pd.depth := Nat.min_le_left _ _
    omega
theorem op_ltD {X : Cx} (hu : X.A.units + 64 < cLine) : DOpR X (compareOp .Lt) rLtD := by
  intro pins s σv H S vx vy x y v u Q I r rx ry px py ⟨h, q⟩
  obtain ⟨as, bs, ra, rb, h1, h2, h3⟩ := ord_two hu I rx ry px py h
  exact PySem.W.lt_data ra rb h1 h2 h3 ⟨.bl _, .bl _, H, S, I, r, Gx.refl, rfl, rfl, q⟩
theorem op_gtD {X : Cx} (hu : X.A.units + 64 < cLine) : DOpR X (compareOp .Gt) rGtD := by
  intro pins s σv H S vx vy x y v u Q I r rx ry px py ⟨h, q⟩
  obtain ⟨as, bs, ra, rb, h1, h2, h3⟩ := ord_two hu I rx ry px py h
  exact PySem.W.gt_data ra rb h1 h2 h3 ⟨.bl _, .bl _, H, S, I, r, Gx.refl, rfl, rfl, q⟩
theorem op_leD {X : Cx} (hu : X.A.units + 64 < cLine) : DOpR X (compareOp .LtE) rLeD := by
  intro pins s σv H S vx vy x y v u Q I r rx ry px py ⟨h, q⟩
  obtain ⟨as, bs, ra, rb, h1, h2, h3⟩ := ord_two hu I rx ry px py h
  exact PySem.W.le_data ra rb h1 h2 h3 ⟨.bl _, .bl _, H, S, I, r, Gx.refl, rfl, rfl, q⟩
theorem op_geD {X : Cx} (hu : X.A.units + 64 < cLine) : DOpR X (compareOp .GtE) rGeD := by
  intro pins s σv H S vx vy x y v u Q I r rx ry px py ⟨h, q⟩
  obtain ⟨as, bs, ra, rb, h1, h2, h3⟩ := ord_two hu I rx ry px py h
  exact PySem.W.ge_data ra rb h1 h2 h3 ⟨.bl _, .bl _, H, S, I, r, Gx.refl, rfl, rfl, q⟩
/-- ints alone -/
@[simp] def rI2 (g : Int → Int → D) : DR2
  | .int i, .int j, S, Q => Q (g i j) S
  | _, _, _, _ => False
theorem of_rI2 {g : Int → Int → D} {x y : D} {S : Store} {Q : DQ} (h : rI2 g x y S Q) : ∃ i j, x = .int i ∧ y = .int j ∧ Q (g i j) S := by
  cases x with
  | int i =>
    cases y with
    | int j => exact ⟨i, j, rfl, rfl, h⟩
    | _ => exact h.elim
  | _ => exact h.elim
section
variable {X : Cx}
theorem dopI {f : Value → Value → Sem Value} {gv : Int → Int → V} {g : Int → Int → D} (h : OpR X f (rI0 gv)) (hg : ∀ H i j, Rp H (g i j) (gv i j)) : DOpR X f (rI2 g) :=
  .of h fun H S x y dx dy Q r px py q => by
    obtain ⟨i, j, rfl, rfl, q⟩ := of_rI2 q
    exact ⟨i, j, px, py, _, S, r, Gx.refl, hg H i j, q⟩
theorem op_addI : DOpR X (binaryOp .Add) (rI2 fun i j => .int (i + j)) := dopI op_add fun _ _ _ => rfl
theorem op_subI : DOpR X (binaryOp .Sub) (rI2 fun i j => .int (i - j)) := dopI op_sub fun _ _ _ => rfl
theorem op_ltI : DOpR X (compareOp .Lt) (rI2 fun i j => .bl (decide (i < j))) := dopI op_lt fun _ _ _ => rfl
theorem op_leI : DOpR X (compareOp .LtE) (rI2 fun i j => .bl (decide (i ≤ j))) := dopI op_le fun _ _ _ => rfl
theorem op_gtI : DOpR X (compareOp .Gt) (rI2 fun i j => .bl (decide (j < i))) := dopI op_gt fun _ _ _ => rfl
theorem op_geI : DOpR X (compareOp .GtE) (rI2 fun i j => .bl (decide (j ≤ i))) := dopI op_ge fun _ _ _ => rfl
theorem iop_addI : DOpR X (inplaceOp .Add) (rI2 fun i j => .int (i + j)) := dopI iop_add fun _ _ _ => rfl
@[simp] def rMulI : DR2
  | .int i, .int j, S, Q => CMul i j ∧ Q (.int (i * j)) S
  | _, _, _, _ => False
@[simp] def rModI : DR2
  | .int i, .int j, S, Q => 0 < j ∧ Q (.int (i % j)) S
  | _, _, _, _ => False
@[simp] def rDivI : DR2
  | .int i, .int j, S, Q => CDiv i j ∧ Q (.int (i / j)) S
  | _, _, _, _ => False
@[simp] def rPowI : DR2
  | .int i, .int j, S, Q => CPow i j ∧ Q (.int (i ^ j.toNat)) S
  | _, _, _, _ => False
theorem dopC {f : Value → Value → Sem Value} {C : Int → Int → Prop} {g : Int → Int → Int} {r : DR2} (h : OpR X f (rI C fun i j => .int (g i j))) (hr : ∀ x y S Q, r x y S Q → ∃ i j, x = .int i ∧ y = .int j ∧ C i j ∧ Q (.int (g i j)) S) : DOpR X f r :=
  .of h fun H S x y dx dy Q rs px py q => by
    obtain ⟨i, j, rfl, rfl, hc, q⟩ := hr _ _ _ _ q
    exact ⟨i, j, px, py, hc, .int (g i j), S, rs, Gx.refl, rfl, q⟩
theorem op_mulI : DOpR X (binaryOp .Mult) rMulI := dopC op_mul fun x y S Q h => by
  cases x <;> cases y <;> first | exact ⟨_, _, rfl, rfl, h.1, h.2⟩ | exact h.elim
theorem op_modI : DOpR X (binaryOp .Mod) rModI := dopC op_mod fun x y S Q h => by
  cases x <;> cases y <;> first | exact ⟨_, _, rfl, rfl, h.1, h.2⟩ | exact h.elim
theorem op_divI : DOpR X (binaryOp .FloorDiv) rDivI := dopC op_fdiv fun x y S Q h => by
  cases x <;> cases y <;> first | exact ⟨_, _, rfl, rfl, h.1, h.2⟩ | exact h.elim
theorem op_powI : DOpR X (binaryOp .Pow) rPowI := dopC op_pow fun x y S Q h => by
  cases x <;> cases y <;> first | exact ⟨_, _, rfl, rfl, h.1, h.2⟩ | exact h.elim
@[simp] def rNegI : D → Store → DQ → Prop
  | .int i, S, Q => Q (.int (-i)) S
  | _, _, _ => False
theorem un_negI : DUnR X (unaryOp .USub) rNegI := .of un_neg fun H S x dx Q rs px q => by
  cases dx with
  | int i => exact ⟨i, px, .int (-i), S, rs, Gx.refl, rfl, q⟩
  | _ => exact q.elim
/-- is None -/
@[simp] def rIsN : DR2 := fun x y S Q => match y with
  | .non => Q (.bl (isN x)) S
  | _ => False
@[simp] def rNotN : DR2 := fun x y S Q => match y with
  | .non => Q (.bl (!isN x)) S
  | _ => False
theorem isN_dec {H : Hp} {d : D} {v : V} (p : Rp H d v) : decide (v = .non) = isN d := by
  cases d with
  | tup ds => obtain ⟨a, xs, rfl, _⟩ := p; rfl
  | _ => cases p; rfl
theorem op_isND : DOpR X (compareOp .Is) rIsN := .of op_isN fun H S x y dx dy Q rs px py q => by
  cases dy with
  | non => exact ⟨py, .bl _, S, rs, Gx.refl, by rw [isN_dec px]; rfl, q⟩
  | _ => exact q.elim
theorem op_notND : DOpR X (compareOp .IsNot) rNotN := .of op_notN fun H S x y dx dy Q rs px py q => by
  cases dy with
  | non => exact ⟨py, .bl _, S, rs, Gx.refl, by rw [isN_dec px]; rfl, q⟩
  | _ => exact q.elim
end
end DL

namespace DL
open PySem PySem.Spec PyProof.Rows L2

theorem sz4 {n : Nat} (h : n ≤ 10000) : n ≤ sizeLine := Nat.le_trans h (by decide)
theorem sz4l {n : Nat} (h : n < 10000) : n < sizeLine := Nat.lt_of_lt_of_le h (by decide)
/-! ### items -/
@[simp] def optK (o : Option D) (S : Store) (Q : DQ) : Prop := match o with
  | some d => Q d S
  | none => False
@[simp] def atK (ds : List D) (y : D) : Option D := match y with
  | .int i => atI ds i
  | _ => none
@[simp] def rIxD : DR2 := fun x y S Q => match x with
  | .tup ds => optK (atK ds y) S Q
  | .loc a => match S a with
    | some (.lst ds) => optK (atK ds y) S Q
    | some (.scr ns) => optK (atK (ns.map .int) y) S Q
    | some (.dic _ kvs) => (y.isK && decide (y.dep ≤ 8) && y.isTup) = true ∧ optK (dget kvs y) S Q
    | _ => False
  | _ => False
theorem of_optK {o : Option D} {S : Store} {Q : DQ} (h : optK o S Q) : ∃ d, o = some d ∧ Q d S := by
  cases o with
  | none => exact h.elim
  | some d => exact ⟨d, rfl, h⟩
theorem of_atK {ds : List D} {y d : D} (h : atK ds y = some d) : ∃ i, y = .int i ∧ atI ds i = some d := by
  cases y with
  | int i => exact ⟨i, rfl, h⟩
  | _ => exact absurd h (by simp [atK])
theorem atI_rps {H : Hp} {ds : List D} {xs : List V} {i : Int} {d : D} (p : Rps H ds xs) (h : atI ds i = some d) : ∃ v, atI xs i = some v ∧ Rp H d v := by
  unfold atI at h ⊢
  rw [p.length]
  cases e : ixN ds.length i with
  | none => rw [e] at h; cases h
  | some j =>
    rw [e] at h
    exact p.get (show ds[j]? = some d from h)
theorem RelS.newL {P : Program} {w : World} {K : PySem.W.Frag} {H : Hp} {S : Store} {a : Addr} {ds : List D} {xs : List V} (r : RelS P w K H S) (h : H a = none) (p : Rps H ds xs) : RelS P w K (upd H a (.lst xs)) (put S a (.lst ds)) :=
  r.new h (m := .lst ds) ⟨xs, upd_same, p.mono (Tx.new h)⟩
section
variable {X : Cx} {B : Hp × Store} {a b e : Expr} {ta tb te : DTE} {pos : Pos}
theorem ix_D (hu : X.A.units + 64 < cLine) {value slice : Expr} {pins : List (Addr × Obj)} {s : Shared} {σv : L2.St} {H : Hp} {S : Store} {vx vy : V} {x y : D} {v u : Value} {Q : DQ} (I : Inv X pins σv H s) (r : RelS X.prog X.w X.K H S) (rx : RelV vx v) (ry : RelV vy u) (px : Rp H x vx) (py : Rp H y vy) (q : rIxD x y S Q)
    (hs : subscripted slice false v u = operate [v, u] (getItem v u)) : wpAny (model X.prog X.w) X.A (subscriptTail value slice v u) (DEP X pins σv H S Q) X.xe s := by
  have lift : ∀ {d : D} {z : V}, Rp H d z → Q d S → ∀ (w : Value) (s' : Shared), EP X pins σv (fun z' H' => z' = z ∧ H' = H) w s' → DEP X pins σv H S Q w s' := fun {d z} pz q w s' ⟨z', H', J, rz, e1, e2⟩ => by
    subst e1; subst e2
    exact ⟨_, d, _, S, J, r, Gx.refl, rz, pz, q⟩
  cases x with
  | tup ds =>
    obtain ⟨d, e, qd⟩ := of_optK q
    obtain ⟨i, rfl, e⟩ := of_atK e
    obtain ⟨p, xs, rfl, h1, h2⟩ := px
    obtain ⟨z, hz, pz⟩ := atI_rps h2 e
    exact thn (ix_tup (X := X) value slice pins s σv H _ vy v u (fun z' H' => z' = z ∧ H' = H) I rx ry ⟨p, xs, i, z, rfl, py, .of h1, hz, rfl, rfl⟩ hs) (lift pz qd)
  | loc p =>
    cases (show vx = .ref p from px)
    have q : (match S p with
      | some (.lst ds) => optK (atK ds y) S Q
      | some (.scr ns) => optK (atK (ns.map .int) y) S Q
      | some (.dic _ kvs) => (y.isK && decide (y.dep ≤ 8) && y.isTup) = true ∧ optK (dget kvs y) S Q
      | _ => False) := q
    split at q
    · rename_i ds es
      obtain ⟨d, e, qd⟩ := of_optK q
      obtain ⟨i, rfl, e⟩ := of_atK e
      obtain ⟨xs, h1, h2⟩ := r p _ es
      obtain ⟨z, hz, pz⟩ := atI_rps h2 e
      exact thn (ix_list (X := X) value slice pins s σv H _ vy v u (fun z' H' => z' = z ∧ H' = H) I rx ry ⟨p, xs, i, z, rfl, py, .of h1, hz, rfl, rfl⟩ hs) (lift pz qd)
    · rename_i ns es
      obtain ⟨d, e, qd⟩ := of_optK q
      obtain ⟨i, rfl, e⟩ := of_atK e
      obtain ⟨h1, _⟩ := r p _ es
      obtain ⟨z, hz, pz⟩ := atI_rps (Rps.ints (H := H) ns) e
      exact thn (ix_list (X := X) value slice pins s σv H _ vy v u (fun z' H' => z' = z ∧ H' = H) I rx ry ⟨p, _, i, z, rfl, py, h1, hz, rfl, rfl⟩ hs) (lift pz qd)
    · rename_i n kvs es
      obtain ⟨hk, q⟩ := q
      have hk := isKey_of hk
      obtain ⟨o, xs, hD⟩ := r p _ es
      obtain ⟨b, rfl⟩ := key_ref hk py
      cases (show u = .ref b from ry)
      cases (show v = .ref p from rx)
      have q2 := atKey_rel hk hD.rel
      obtain ⟨d, e, q⟩ := of_optK q
      rw [e] at q2
      obtain ⟨ka, uv, e2, vv, r2, p2⟩ := q2
      exact subscriptTail_builtinR (x := uv) (dic_of I hD).typeIs PySem.F.slot_dict_getitem.lookup (wpAny_getItem_heap (nroom hu) (key_is I hk py) (dic_of I hD) e2 ⟨rfl, vv, d, H, S, I.tok _, r, Gx.refl, r2, p2, q⟩) hs
    · exact q.elim
  | _ => exact q.elim
theorem de_ix (hu : X.A.units + 64 < cLine) (ha : DE X B a ta) (hb : DE X B b tb) (hs : PlainIx b) : DE X B (.Subscript a b pos) (dOp rIxD ta tb) := by
  refine ⟨fun pins s σv H σ S Q I h => ?_⟩
  refine Subscript_ (thn (ha.run pins s σv H σ S _ I h) fun v s1 ⟨x, dx, H1, S1, I1, r1, t1, rx, px, q1⟩ => ?_)
  refine thn (hb.run pins s1 σv H1 σ S1 _ (I.to I1 r1 t1) q1) fun u s2 ⟨y, dy, H2, S2, I2, r2, t2, ry, py, q2⟩ => ?_
  exact thn (ix_D hu I2 r2 rx ry (px.mono (t2.tx r1)) py q2 (hs _ _)) fun _ _ h => h.tx (t1.trans t2)

/-! ### slices -/
def cutD (xs : List D) (lo hi : Option Int) : List D := (xs.drop (HT.sIx xs.length 0 lo)).take (HT.sIx xs.length xs.length hi - HT.sIx xs.length 0 lo)
abbrev DTO := DSt → Store → (Option Int → Store → Prop) → Prop
structure DO (X : Cx) (B : Hp × Store) (e : Option Expr) (t : DTO) : Prop where
  run : ∀ (pins : List (Addr × Obj)) (s : Shared) (σv : L2.St) (H : Hp) (σ : DSt) (S : Store) (Q : Option Int → Store → Prop), DI X B pins σv H σ S s → t σ S Q →
    wpAny (model X.prog X.w) X.A (evalPart e X.env) (fun u s' => ∃ i H' S', Inv X pins σv H' s' ∧ RelS X.prog X.w X.K H' S' ∧ Gx H S H' S' ∧ IsPart u i ∧ Q i S') X.xe s
@[simp] def dNo : DTO := fun _ S Q => Q none S
@[simp] def dPart (t : DTE) : DTO := fun σ S Q => t σ S fun x S1 => match x with | .int i => Q (some i) S1 | _ => False
theorem do_none : DO X B none dNo := by
  refine ⟨fun pins s σv H σ S Q I h => ?_⟩
  rw [evalPart_none]
  exact wpAny_pure ⟨none, H, S, I.inv, I.st, Gx.refl, .none, h⟩
theorem do_some (h : DE X B e te) : DO X B (some e) (dPart te) := by
  refine ⟨fun pins s σv H σ S Q I hw => ?_⟩
  rw [evalPart_some]
  refine thn (h.run pins s σv H σ S _ I hw) fun u s1 ⟨x, d, H1, S1, I1, r1, t1, rx, px, q1⟩ => ?_
  cases d with
  | int i =>
    cases (show x = .int i from px)
    obtain ⟨t, rfl⟩ := rx
    exact ⟨some i, H1, S1, I1, r1, t1, .int i t, q1⟩
  | _ => exact q1.elim
theorem rps_cut {H : Hp} {ds : List D} {xs : List V} (p : Rps H ds xs) (lo hi : Option Int) : Rps H (cutD ds lo hi) (cutV xs lo hi) := by
  unfold cutD cutV
  rw [p.length]
  exact (p.drop _).take _
@[simp] def dSl (te : DTE) (tl th : DTO) : DTE := fun σ S Q => te σ S fun x S1 => tl σ S1 fun lo S2 => th σ S2 fun hi S3 => match x with
  | .tup ds => Q (.tup (cutD ds lo hi)) S3
  | .loc a => match S3 a with
    | some (.lst ds) => ∀ p, S3 p = none → Q (.loc p) (put S3 p (.lst (cutD ds lo hi)))
    | _ => False
  | _ => False
theorem cut_whole {ds : List D} {lo hi : Option Int} (h : HT.sIx ds.length 0 lo = 0 ∧ HT.sIx ds.length ds.length hi = ds.length) : cutD ds lo hi = ds := by
  unfold cutD
  rw [h.1, h.2]
  simp
theorem de_slice {lo hi : Option Expr} {tl th : DTO} {p2 : Pos} (he : DE X B e te) (hl : DO X B lo tl) (hh : DO X B hi th) : DE X B (.Subscript e (.Slice lo hi none p2) pos) (dSl te tl th) := by
  refine ⟨fun pins s σv H σ S Q I h => ?_⟩
  refine Subscript_ (thn (he.run pins s σv H σ S _ I h) fun v s1 ⟨x, d, H1, S1, I1, r1, t1, rx, px, q1⟩ => ?_)
  refine wpAny_Slice (thn (hl.run pins s1 σv H1 σ S1 _ (I.to I1 r1 t1) q1) fun vl s2 ⟨l, H2, S2, I2, r2, t2, pl, q2⟩ => thn (hh.run pins s2 σv H2 σ S2 _ (I.to I2 r2 (t1.trans t2)) q2) fun vu s3 ⟨u, H3, S3, I3, r3, t3, pu, q3⟩ => ?_)
  rw [evalPart_none]
  refine wpAny_pure ?_
  have I4 : Inv X pins σv H3 { s3 with heap := s3.heap.push { cls := .type "slice", data := .fields #[vl, vu, .none] } } := I3.kept (t' := s3.toks) fun b ob q => Heap.get?_push_of_some _ q
  have gAll := (t1.trans t2).trans t3
  have px3 : Rp H3 d x := (px.mono (t2.tx r1)).mono (t3.tx r2)
  have go : ∃ T id, typeLookup (.type T) "__getitem__" = pure (some (.builtin id)) ∧ ({ s3 with heap := s3.heap.push { cls := .type "slice", data := .fields #[vl, vu, .none] } } : Shared).TypeIs v T ∧ wpAny (model X.prog X.w) X.A (getItem v (.ref s3.heap.objs.size)) (DEP X pins σv H S Q) X.xe { s3 with heap := s3.heap.push { cls := .type "slice", data := .fields #[vl, vu, .none] } } := by
    cases d with
    | tup ds =>
      obtain ⟨a, xs, rfl, h1, h2⟩ := px3
      obtain ⟨T, id, k1, k2, k3⟩ := sl_tupA (X := X) pins _ σv H3 _ v vl vu l u s3.heap.objs.size (fun z H' => ∃ S', RelS X.prog X.w X.K H' S' ∧ Gx H S H' S' ∧ Rp H' (.tup (cutD ds l u)) z ∧ Q (.tup (cutD ds l u)) S') I4 rx (Heap.IsSliceOf.new ..) pl pu
        ⟨a, xs, rfl, .of h1, fun hw => ⟨S3, r3, gAll, by rw [cut_whole (by rw [← h2.length]; exact hw)]; exact ⟨a, xs, rfl, h1, h2⟩, q3⟩, fun _ p hp => ⟨S3, r3.grow hp, gAll.trans (Gx.grow hp), ⟨p, _, rfl, upd_same, (rps_cut h2 l u).mono (Tx.new hp)⟩, q3⟩⟩
      exact ⟨T, id, k1, k2, thn k3 fun w s' ⟨z, H', J, rz, S', a, b, c, q⟩ => ⟨z, _, H', S', J, a, b, rz, c, q⟩⟩
    | loc a =>
      cases (show x = .ref a from px3)
      have q3 : (match S3 a with | some (.lst ds) => ∀ p, S3 p = none → Q (.loc p) (put S3 p (.lst (cutD ds l u))) | _ => False) := q3
      split at q3
      · rename_i ds es
        obtain ⟨xs, h1, h2⟩ := r3 a _ es
        obtain ⟨T, id, k1, k2, k3⟩ := sl_list (X := X) pins _ σv H3 _ v vl vu l u s3.heap.objs.size (fun z H' => ∃ d S', RelS X.prog X.w X.K H' S' ∧ Gx H S H' S' ∧ Rp H' d z ∧ Q d S') I4 rx (Heap.IsSliceOf.new ..) pl pu
          ⟨a, xs, rfl, .of h1, fun p hp => ⟨.loc p, _, r3.newL hp (rps_cut h2 l u), gAll.trans (Gx.new hp), rfl, q3 p (r3.free hp)⟩⟩
        exact ⟨T, id, k1, k2, thn k3 fun w s' ⟨z, H', J, rz, d, S', a, b, c, q⟩ => ⟨z, d, H', S', J, a, b, rz, c, q⟩⟩
      · exact q3.elim
    | _ => exact q3.elim
  obtain ⟨T, id, hT, ht, hg⟩ := go
  show wpAny (model X.prog X.w) X.A (subscriptTail e (.Slice lo hi none p2) v (.ref s3.heap.objs.size)) _ X.xe { s3 with heap := s3.heap.push { cls := .type "slice", data := .fields #[vl, vu, .none] } }
  exact tail_any (ops := [.ref s3.heap.objs.size, v]) ht hT hg (by with_unfolding_all rfl)
end
/-! ### + of tuples and lists -/
@[simp] def rCatD : DR2 := fun x y S Q => match x, y with
  | .tup xs, .tup ys => xs.length + ys.length ≤ 10000 ∧ Q (.tup (xs ++ ys)) S
  | .loc a, .loc b => (match S a, S b with
    | some (.lst xs), some (.lst ys) => xs.length + ys.length ≤ 10000 ∧ ∀ p, S p = none → Q (.loc p) (put S p (.lst (xs ++ ys)))
    | _, _ => False)
  | .int i, .int j => Q (.int (i + j)) S
  | .str i, .str j => i.length + j.length ≤ 10000 ∧ Q (.str (i ++ j)) S
  | _, _ => False
section
variable {X : Cx}
theorem op_catD : DOpR X (binaryOp .Add) rCatD := by
  intro pins s σv H S vx vy x y v u Q I r rx ry px py q
  cases x with
  | int i =>
    cases y with
    | int j => exact op_addI pins s σv H S vx vy _ _ v u Q I r rx ry px py q
    | _ => exact q.elim
  | str i =>
    cases y with
    | str j =>
      obtain ⟨hl, q⟩ := q
      refine thn (op_add_str (X := X) pins s σv H vx vy v u (fun z H' => z = .str (i ++ j) ∧ H' = H) I rx ry ⟨i, j, px, py, sz4 hl, rfl, rfl⟩) fun w s' ⟨z, H', J, rz, e1, e2⟩ => ?_
      subst e1; subst e2
      exact ⟨_, .str (i ++ j), _, S, J, r, Gx.refl, rz, rfl, q⟩
    | _ => exact q.elim
  | tup xs =>
    cases y with
    | tup ys =>
      obtain ⟨hl, q⟩ := q
      obtain ⟨a, xv, rfl, h1, h2⟩ := px
      obtain ⟨b, yv, rfl, h3, h4⟩ := py
      refine thn (op_catA (X := X) pins s σv H _ _ v u (fun z H' => ∃ S', RelS X.prog X.w X.K H' S' ∧ Gx H S H' S' ∧ Rp H' (.tup (xs ++ ys)) z ∧ Q (.tup (xs ++ ys)) S') I rx ry ⟨a, b, xv, yv, rfl, rfl, .of h1, .of h3, by rw [h2.length, h4.length]; exact sz4 hl, fun e => ?_, fun e e' => ?_, fun e e' p hp => ?_⟩) fun w s' ⟨z, H', J, rz, S', a, b, c, q⟩ => ⟨z, _, H', S', J, a, b, rz, c, q⟩
      · have : xs = [] := by
          have := h2.length
          rw [e] at this
          exact List.length_eq_zero_iff.mp this.symm
        subst this
        exact ⟨S, r, Gx.refl, ⟨b, yv, rfl, h3, h4⟩, q⟩
      · have : ys = [] := by
          have := h4.length
          rw [e'] at this
          exact List.length_eq_zero_iff.mp this.symm
        subst this
        rw [List.append_nil] at q ⊢
        exact ⟨S, r, Gx.refl, ⟨a, xv, rfl, h1, h2⟩, q⟩
      · exact ⟨S, r.grow hp, Gx.grow hp, ⟨p, _, rfl, upd_same, (h2.append h4).mono (Tx.new hp)⟩, q⟩
    | _ => exact q.elim
  | loc a =>
    cases y with
    | loc b =>
      cases (show vx = .ref a from px)
      cases (show vy = .ref b from py)
      have q : (match S a, S b with
        | some (.lst xs), some (.lst ys) => xs.length + ys.length ≤ 10000 ∧ ∀ p, S p = none → Q (.loc p) (put S p (.lst (xs ++ ys)))
        | _, _ => False) := q
      split at q
      · rename_i xs ys ea eb
        obtain ⟨hl, q⟩ := q
        obtain ⟨xv, h1, h2⟩ := r a _ ea
        obtain ⟨yv, h3, h4⟩ := r b _ eb
        exact thn (op_cat (X := X) pins s σv H _ _ v u (fun z H' => ∃ d S', RelS X.prog X.w X.K H' S' ∧ Gx H S H' S' ∧ Rp H' d z ∧ Q d S') I rx ry ⟨a, b, xv, yv, rfl, rfl, h1, h3, by rw [h2.length, h4.length]; exact sz4 hl, fun p hp => ⟨.loc p, _, r.newL hp (h2.append h4), Gx.new hp, rfl, q p (r.free hp)⟩⟩) fun w s' ⟨z, H', J, rz, d, S', a, b, c, q⟩ => ⟨z, d, H', S', J, a, b, rz, c, q⟩
      · exact q.elim
    | _ => exact q.elim
  | _ => cases y <;> exact q.elim

/-! ### calls of built-ins -/
@[simp] def rLenD : List D → Store → DQ → Prop := fun ds S Q => match ds with
  | [.tup xs] => Q (.int xs.length) S
  | [.loc a] => match S a with
    | some (.lst xs) => Q (.int xs.length) S
    | some (.scr ns) => Q (.int ns.length) S
    | some (.dic _ kvs) => Q (.int kvs.length) S
    | _ => False
  | [.str x] => x.length ≤ 10000 ∧ Q (.int x.length) S
  | _ => False
theorem call_lenD : DCallR X (.builtin "len") rLenD := by
  intro pins s σv H S xs ds us Q I r rv pv q
  have lift : ∀ {n : Nat} {x : V}, xs = [x] → LenV X.K x H n → Q (.int n) S → wpAny (model X.prog X.w) X.A (call (.builtin "len") us) (DEP X pins σv H S Q) X.xe s := fun {n x} e h q =>
    thn (call_len (X := X) pins s σv H xs us (fun z H' => z = .int n ∧ H' = H) I rv ⟨x, n, e, h, rfl, rfl⟩) fun w s' ⟨z, H', J, rz, e1, e2⟩ => by
      subst e1; subst e2
      exact ⟨_, .int n, _, S, J, r, Gx.refl, rz, rfl, q⟩
  cases ds with
  | nil => exact q.elim
  | cons d ds =>
    cases ds with
    | cons _ _ => cases d <;> exact q.elim
    | nil =>
      obtain ⟨x, _, rfl, p1, p2⟩ := pv
      cases (show _ = [] from p2)
      cases d with
      | tup ys =>
        obtain ⟨a, xv, rfl, h1, h2⟩ := p1
        refine lift rfl (n := ys.length) ?_ q
        rw [← h2.length]
        exact .inr ⟨xv, .of h1, rfl⟩
      | str z =>
        cases (show x = .str z from p1)
        exact lift rfl ⟨sz4 q.1, rfl⟩ q.2
      | loc a =>
        cases (show x = .ref a from p1)
        have q : (match S a with | some (.lst xs) => Q (.int xs.length) S | some (.scr ns) => Q (.int ns.length) S | some (.dic _ kvs) => Q (.int kvs.length) S | _ => False) := q
        split at q
        · rename_i ys es
          obtain ⟨xv, h1, h2⟩ := r a _ es
          refine lift rfl (n := ys.length) ?_ q
          rw [← h2.length]
          exact .inl ⟨xv, .of h1, rfl⟩
        · rename_i ns es
          obtain ⟨h1, _⟩ := r a _ es
          refine lift rfl (n := ns.length) ?_ q
          exact .inl ⟨_, h1, by simp⟩
        · rename_i n kvs es
          obtain ⟨o, xs, hD⟩ := r a _ es
          obtain ⟨u, rfl, ru⟩ := vals1 rv
          cases ru
          have hm : s.heap.DictKeyed (nestedKind X.prog X.w) a (pairsH xs) := ⟨xs, dic_of I hD, rfl⟩
          have hlen : (pairsH xs).length = kvs.length := by rw [pairsH_length, paired_len hD.rel]
          have hz := hD.len
          rw [sizeLine_eq] at hz
          refine PyProof.Rows.call_len_slot (n := (pairsH xs).length) hm.typeIs PySem.F.slot_dict_len (fun Q' hq => len_keyed hD.sys hm hq) (by omega) (by rw [hlen]; omega) ?_
          rw [hlen]
          exact ⟨.int _, .int _, H, S, I.tok _, r, Gx.refl, ⟨_, rfl⟩, rfl, q⟩
        · exact q.elim
      | _ => exact q.elim
/-- tuple(x), list(x) -/
@[simp] def rTupD : List D → Store → DQ → Prop := fun ds S Q => match ds with
  | [.tup xs] => Q (.tup xs) S
  | [.loc a] => match S a with
    | some (.lst xs) => Q (.tup xs) S
    | _ => False
  | _ => False
def rLstD : List D → Store → DQ → Prop := fun ds S Q => match ds with
  | [.tup xs] => ∀ p, S p = none → Q (.loc p) (put S p (.lst xs))
  | [.loc a] => match S a with
    | some (.lst xs) => ∀ p, S p = none → Q (.loc p) (put S p (.lst xs))
    | _ => False
  | _ => False
theorem call_tupD : DCallR X (.type "tuple") rTupD := .of call_tuple_of fun H S xs ds Q r pv q => by
  cases ds with
  | nil => exact q.elim
  | cons d ds =>
    cases ds with
    | cons _ _ => cases d <;> exact q.elim
    | nil =>
      obtain ⟨x, _, rfl, p1, p2⟩ := pv
      cases (show _ = [] from p2)
      cases d with
      | tup ys =>
        obtain ⟨a, xv, rfl, h1, h2⟩ := p1
        exact ⟨a, xv, rfl, .inr ⟨.of h1, .tup ys, S, r, Gx.refl, ⟨a, xv, rfl, h1, h2⟩, q⟩⟩
      | loc a =>
        cases (show x = .ref a from p1)
        have q : (match S a with | some (.lst xs) => Q (.tup xs) S | _ => False) := q
        split at q
        · rename_i ys es
          obtain ⟨xv, h1, h2⟩ := r a _ es
          exact ⟨a, xv, rfl, .inl ⟨.of h1, fun l hl => ⟨.tup ys, S, r.grow hl, Gx.grow hl, ⟨l, xv, rfl, upd_same, h2.mono (Tx.new hl)⟩, q⟩⟩⟩
        · exact q.elim
      | _ => exact q.elim
theorem call_lstD : DCallR X (.type "list") rLstD := .of call_list_of fun H S xs ds Q r pv q => by
  cases ds with
  | nil => exact q.elim
  | cons d ds =>
    cases ds with
    | cons _ _ => cases d <;> exact q.elim
    | nil =>
      obtain ⟨x, _, rfl, p1, p2⟩ := pv
      cases (show _ = [] from p2)
      cases d with
      | tup ys =>
        obtain ⟨a, xv, rfl, h1, h2⟩ := p1
        exact ⟨a, xv, rfl, .inr (.of h1), fun l hl => ⟨.loc l, _, r.newL hl h2, Gx.new hl, rfl, q l (r.free hl)⟩⟩
      | loc a =>
        cases (show x = .ref a from p1)
        have q : (match S a with | some (.lst xs) => ∀ p, S p = none → Q (.loc p) (put S p (.lst xs)) | _ => False) := q
        split at q
        · rename_i ys es
          obtain ⟨xv, h1, h2⟩ := r a _ es
          exact ⟨a, xv, rfl, .inl (.of h1), fun l hl => ⟨.loc l, _, r.newL hl h2, Gx.new hl, rfl, q l (r.free hl)⟩⟩
        · exact q.elim
      | _ => exact q.elim
/-- isinstance(x, T), T a built-in class -/
@[simp] def tyName : D → Store → Option String
  | .non, _ => some "NoneType"
  | .bl _, _ => some "bool"
  | .int _, _ => some "int"
  | .str _, _ => some "str"
  | .tup _, _ => some "tuple"
  | .loc a, S => match S a with
    | some (.lst _) => some "list"
    | _ => none
  | .ty _, _ => none
@[simp] def isT (a b : String) : Bool := a == b || (a == "bool" && b == "int")
@[simp] def rIsiD : List D → Store → DQ → Prop := fun ds S Q => match ds with
  | [x, .ty n] => (match tyName x S with
    | some t => (n == "int" || n == "bool" || n == "str" || n == "tuple" || n == "list") = true ∧ Q (.bl (isT t n)) S
    | none => False)
  | _ => False
end
end DL

namespace DL
open PySem PySem.Spec PyProof.Rows L2

section
variable {X : Cx}
theorem kit_fact : ∀ t ∈ ["NoneType", "bool", "int", "str", "tuple", "list"], ∀ n ∈ ["int", "bool", "str", "tuple", "list"], kitB t n = some (isT t n) := by decide +kernel
theorem tyName_mem {d : D} {S : Store} {t : String} (h : tyName d S = some t) : t ∈ ["NoneType", "bool", "int", "str", "tuple", "list"] := by
  cases d with
  | loc a =>
    have h : (match S a with | some (.lst _) => some "list" | _ => none) = some t := h
    split at h
    · cases h; decide
    · cases h
  | ty _ => cases h
  | _ => cases h; decide
theorem ty_of {H : Hp} {S : Store} {d : D} {v : V} {t : String} (r : RelS X.prog X.w X.K H S) (p : Rp H d v) (h : tyName d S = some t) : TyX X.K H v (.type t) := by
  cases d with
  | non => cases h; cases (show v = .non from p); exact .base .non
  | bl b => cases h; cases (show v = .bl b from p); exact .base (.bl b)
  | int i => cases h; cases (show v = .int i from p); exact .base (.int i)
  | str x => cases h; cases (show v = .str x from p); exact .base (.str x)
  | tup ds => cases h; obtain ⟨a, xs, rfl, h1, h2⟩ := p; exact .base (.tup h1)
  | loc a =>
    cases (show v = .ref a from p)
    have h : (match S a with | some (.lst _) => some "list" | _ => none) = some t := h
    split at h
    · rename_i ds es
      cases h
      obtain ⟨xs, h1, _⟩ := r a _ es
      exact .base (.lst h1)
    · cases h
  | ty _ => cases h
theorem call_isiD : DCallR X (.builtin "isinstance") rIsiD := .of call_isi fun H S xs ds Q r pv q => by
  unfold rIsiD at q
  split at q
  · rename_i x n
    obtain ⟨v, _, rfl, p1, c, _, rfl, p2, p3⟩ := pv
    cases (show _ = [] from p3)
    cases (show c = .ty n from p2)
    split at q
    · rename_i t ht
      obtain ⟨hn, q⟩ := q
      have hn : n ∈ ["int", "bool", "str", "tuple", "list"] := by
        simp only [Bool.or_eq_true, beq_iff_eq] at hn
        simp only [List.mem_cons, List.not_mem_nil, or_false]
        rcases hn with (((h | h) | h) | h) | h <;> simp [h]
      exact ⟨v, .ty n, _, _, _, rfl, .ty n, ty_of r p1 ht, kit_ty (kit_fact t (tyName_mem ht) n hn), .bl _, S, r, Gx.refl, rfl, q⟩
    · exact q.elim
  · exact q.elim

/-! ### sorted -/
/-- what can be sorted -/
def sortOk (ds : List D) : Prop := (∀ d ∈ ds, ∀ e ∈ ds, PySem.W.alike d.pd e.pd = true) ∧ (∀ d ∈ ds, d.pl 8 = true) ∧ ((∀ d ∈ ds, ∃ x r, d = .tup (x :: r)) ∨ ∀ d ∈ ds, (∃ i, d = .int i) ∨ ∃ x, d = .str x)
def D.le (a b : D) : Bool := !D.lt b a
def dsort (ds : List D) : List D := ds.mergeSort D.le
def rSortD : List D → Store → DQ → Prop := fun ds S Q => match ds with
  | [.tup xs] => sortOk xs ∧ ∀ p, S p = none → Q (.loc p) (put S p (.lst (dsort xs)))
  | [.loc a] => match S a with
    | some (.lst xs) => sortOk xs ∧ ∀ p, S p = none → Q (.loc p) (put S p (.lst (dsort xs)))
    | some (.dic _ kvs) => sortOk (kvs.map (·.1)) ∧ ∀ p, S p = none → Q (.loc p) (put S p (.lst (dsort (kvs.map (·.1)))))
    | _ => False
  | _ => False
theorem sortable_of {ds : List D} (h : sortOk ds) : PySem.W.AllAlike (ds.map D.pd) ∧ PySem.W.Sortable (ds.map D.pd) := by
  refine ⟨fun d hd e he => ?_, ?_⟩
  · obtain ⟨x, hx, rfl⟩ := List.mem_map.mp hd
    obtain ⟨y, hy, rfl⟩ := List.mem_map.mp he
    exact h.1 x hx y hy
  · rcases h.2.2 with h | h
    · left
      intro d hd
      obtain ⟨x, hx, rfl⟩ := List.mem_map.mp hd
      obtain ⟨y, r, rfl⟩ := h x hx
      exact ⟨_, _, rfl⟩
    · right
      intro d hd
      obtain ⟨x, hx, rfl⟩ := List.mem_map.mp hd
      rcases h x hx with ⟨i, rfl⟩ | ⟨z, rfl⟩
      · exact ⟨(fun z => nomatch z), fun _ z => nomatch z⟩
      · exact ⟨(fun z => nomatch z), fun _ z => nomatch z⟩
def RVD (H : Hp) (u : Value) (d : D) : Prop := ∃ v, RelV v u ∧ Rp H d v
theorem each_of {H : Hp} : ∀ {ds : List D} {vs : List V} {us : List Value}, Rps H ds vs → Vals vs us → PySem.W.EachIs (RVD H) us ds
  | [], vs, us, p, r => by
    cases (show vs = [] from p)
    cases r
    exact .nil
  | d :: ds, vs, us, p, r => by
    obtain ⟨v, vr, rfl, p1, p2⟩ := p
    cases r with
    | cons r1 r2 => exact .cons ⟨v, r1, p1⟩ (each_of p2 r2)
theorem of_each {H : Hp} : ∀ {ds : List D} {us : List Value}, PySem.W.EachIs (RVD H) us ds → ∃ vs, Vals vs us ∧ Rps H ds vs
  | _, _, .nil => ⟨[], .nil, rfl⟩
  | _, _, .cons ⟨v, r, p⟩ t => by
    obtain ⟨vs, r2, p2⟩ := of_each t
    exact ⟨v :: vs, .cons r r2, v, vs, rfl, p, p2⟩
theorem each_reads {pins : List (Addr × Obj)} {σv : L2.St} {H : Hp} {s : Shared} (I : Inv X pins σv H s) : ∀ {ds : List D} {us : List Value}, (∀ d ∈ ds, d.pl 8 = true) → PySem.W.EachIs (RVD H) us ds → PySem.W.EachIs (fun u d => ∃ as, Reads s.heap u d.pd as) us ds
  | _, _, _, .nil => .nil
  | d :: ds, _, h, .cons ⟨v, r, p⟩ t => .cons (reads_of I d v _ (pl_pure 8 d (h d List.mem_cons_self)) p r) (each_reads I (fun x hx => h x (List.mem_cons_of_mem _ hx)) t)
mutual
/-- plain data read off no list -/
theorem reads_nolist {h : Heap} : ∀ (d : D) (u : Value) (as : List Addr), Reads h u d.pd as → as = []
  | .non, _, _, r => by rw [D.pd] at r; cases r; rfl
  | .bl _, _, _, r => by rw [D.pd] at r; cases r; rfl
  | .int _, _, _, r => by rw [D.pd] at r; cases r; rfl
  | .str _, _, _, r => by rw [D.pd] at r; cases r; rfl
  | .loc _, _, _, r => by rw [D.pd] at r; cases r; rfl
  | .ty _, _, _, r => by rw [D.pd] at r; cases r; rfl
  | .tup ds, _, _, r => by
    rw [D.pd] at r
    cases r with
    | tuple _ _ _ h4 => exact readsAll_nolist ds _ _ h4
theorem readsAll_nolist {h : Heap} : ∀ (ds : List D) (us : List Value) (as : List Addr), ReadsAll h us (D.pds ds) as → as = []
  | [], _, _, r => by rw [D.pds] at r; cases r; rfl
  | d :: ds, _, _, r => by
    rw [D.pds] at r
    cases r with
    | cons h1 h2 => rw [reads_nolist d _ _ h1, readsAll_nolist ds _ _ h2]; rfl
end
theorem sort_le : PySem.W.dataLe false D.pd = D.le := rfl
theorem each_at {α β : Type} {R : α → β → Prop} : ∀ {as : List α} {bs : List β}, as.length = bs.length → (∀ (i : Nat) a b, as[i]? = some a → bs[i]? = some b → R a b) → PySem.W.EachIs R as bs
  | [], [], _, _ => .nil
  | a :: as, b :: bs, hl, h => .cons (h 0 a b rfl rfl) (each_at (by simpa using hl) fun i x y e1 e2 => h (i + 1) x y (by simpa using e1) (by simpa using e2))
  | [], _ :: _, hl, _ => by simp at hl
  | _ :: _, [], hl, _ => by simp at hl
/-- a list that was gathered, laid and sorted -/
theorem sort_tail {pins : List (Addr × Obj)} {s : Shared} {σv : L2.St} {H : Hp} {S : Store} {Q : DQ} {its : List Value} {ys : List D} {h' : Heap} {tk : Nat} (hu : X.A.units + 64 < cLine) (I : Inv X pins σv H s) (r : RelS X.prog X.w X.K H S) (hk : ∀ b o, s.heap.get? b = some o → h'.get? b = some o)
    (ee : PySem.W.EachIs (RVD H) its ys) (ok : sortOk ys) (hz : ys.length ≤ sizeLine) (q : ∀ p, S p = none → Q (.loc p) (put S p (.lst (dsort ys)))) :
    wpAny (model X.prog X.w) X.A.in1 (do let l ← newList its; let _ ← holding [l] (call (.builtin "list.sort") [l]); ret l) (fun fin s' => ∃ v, fin = PySem.Fin.done (Flow.ret v) ∧ DEP X pins σv H S Q v s') X.xe { s with heap := h', toks := tk } := by
  have I1 : Inv X pins σv H { s with heap := h', toks := tk } := I.kept hk
  refine wpAny_bind (wpAny_newList ?_ (by rw [ee.length]; exact hz))
  have hf : H h'.objs.size = none := I1.hok.fresh (Nat.le_refl _)
  have I2 : Inv X pins σv H { s with heap := h'.push { cls := .type "list", data := .seq its.toArray }, toks := tk } := I1.kept fun b o e => Heap.get?_push_of_some _ e
  refine wpAny_bind (wpAny_holding (PySem.W.list_sort_data (enc := D.pd) (vs := its) (n := 0) (R := RVD H) (Heap.get?_push_size _ rfl) ee ?_ (sortable_of ok).1 (sortable_of ok).2 hz (fun b hb => ?_) fun out hl eo => wpAny_pure ?_))
  · exact (each_reads I2 ok.2.1 ee).mono fun u d ⟨as, ra⟩ => ⟨as, ra, by rw [reads_nolist d u as ra]; simp⟩
  · have := pl_depth 8 b (ok.2.1 b hb)
    show X.A.units + 1 + 1 + b.pd.depth < cLine
    omega
  · rw [sort_le] at eo
    obtain ⟨vs, rvs, pvs⟩ := of_each eo
    obtain ⟨c, hc⟩ := PyProof.Rows.sortedHeap_at (out := out.toArray) (show (h'.push { cls := .type "list", data := .seq its.toArray }).get? h'.objs.size = some (seqObj "list" its.toArray 0) from Heap.get?_push_size _ rfl)
    refine ⟨_, rfl, .ref _, .loc h'.objs.size, _, _, I1.laid (t' := tk) (o := .lst vs) (fun b o e => ?_) (Nat.le_refl _) ?_, r.newL hf pvs, Gx.new hf, rfl, rfl, q _ (r.free hf)⟩
    · exact (PyProof.Rows.sortedHeap_old (Nat.ne_of_lt (Heap.lt_size e)) (by rw [Heap.size_push]; exact Nat.lt_succ_of_lt (Heap.lt_size e))).trans (Heap.get?_push_of_some _ e)
    · exact ⟨by rw [rvs.length, hl]; exact hz, out, c, rvs, hc⟩
theorem call_sortD (hc : X.calm = true) (hu : X.A.units + 64 < cLine) : DCallR X (.builtin "sorted") rSortD := by
  intro pins s σv H S xs ds us Q I r rv pv q
  have dep : ∀ {ys : List D}, (∀ d ∈ ys, d.pl 8 = true) → ∀ b, b ∈ ys → X.A.units + 2 + b.pd.depth < cLine := fun h b hb => by
    have := pl_depth 8 b (h b hb)
    omega
  have list1 : ∀ (a : Addr) (ys : List D) (xv : List V), us = [.ref a] → H a = some (.lst xv) → Rps H ys xv → sortOk ys → (∀ p, S p = none → Q (.loc p) (put S p (.lst (dsort ys)))) → wpAny (model X.prog X.w) X.A (call (.builtin "sorted") us) (DEP X pins σv H S Q) X.xe s := fun a ys xv e h1 h2 ok q => by
    subst e
    obtain ⟨its, r', pl, hz⟩ := I.list (.of h1)
    have ee := each_of h2 r'
    refine PySem.W.sorted_data (enc := D.pd) (vs := its) pl.isList ee (each_reads I ok.2.1 ee) (sortable_of ok).1 (sortable_of ok).2 (by rw [← h2.length]; exact hz) (dep ok.2.1) fun out hl eo => ?_
    rw [sort_le] at eo
    obtain ⟨vs, rvs, pvs⟩ := of_each eo
    obtain ⟨c, hc⟩ := PyProof.Rows.sortedAll_at s.heap its out.toArray
    have hf : H (s.heap.objs.size + 1) = none := I.hok.fresh (Nat.le_succ _)
    refine ⟨.ref _, .loc (s.heap.objs.size + 1), _, _, I.laid (t' := s.toks) (o := .lst vs) (fun b o e => PyProof.Rows.sortedAll_old e) (Nat.le_succ _) ?_, r.newL hf pvs, Gx.new hf, rfl, rfl, q _ (r.free hf)⟩
    exact ⟨by rw [rvs.length, hl, ← h2.length]; exact hz, out, c, rvs, hc⟩
  cases ds with
  | nil => exact q.elim
  | cons d ds =>
    cases ds with
    | cons _ _ => cases d <;> exact q.elim
    | nil =>
      obtain ⟨x, _, rfl, p1, p2⟩ := pv
      cases (show _ = [] from p2)
      obtain ⟨u, rfl, ru⟩ := vals1 rv
      cases d with
      | tup ys =>
        obtain ⟨ok, q⟩ := q
        obtain ⟨a, xv, rfl, h1, h2⟩ := p1
        cases ru
        obtain ⟨its, r', ⟨o, e1, e2, n, e3⟩, hz⟩ := I.tuple (.of h1)
        have ee := each_of h2 r'
        refine Calls.call_function_entry kind_sorted plain_sorted entry_sorted (args_sorted1 _) ?_
        unfold Builtin.«sorted»
        refine wpAny_bind (m := checkCount "sorted" 1 1 _) (wpAny_pure ?_)
        refine wpAny_bind (wpAny_collect_seq a (.inr rfl) e1 e2 e3 (fun h' hk => ?_) (by rw [List.size_toArray, ← r'.length]; exact hz))
        exact sort_tail (its := its) hu I r hk ee ok (by rw [← h2.length]; exact hz) q
      | loc a =>
        cases (show x = .ref a from p1)
        cases ru
        have q : (match S a with
          | some (.lst xs) => sortOk xs ∧ ∀ p, S p = none → Q (.loc p) (put S p (.lst (dsort xs)))
          | some (.dic _ kvs) => sortOk (kvs.map (·.1)) ∧ ∀ p, S p = none → Q (.loc p) (put S p (.lst (dsort (kvs.map (·.1)))))
          | _ => False) := q
        split at q
        · rename_i ys es
          obtain ⟨xv, h1, h2⟩ := r a _ es
          exact list1 a ys xv rfl h1 h2 q.1 q.2
        · rename_i n kvs es
          obtain ⟨ok, q⟩ := q
          obtain ⟨o, ys, hD⟩ := r a _ es
          obtain ⟨en, hd1, hd2⟩ := hD.es
          have hraw : s.heap.DictRaw a en n := ⟨o, (I.hok a _ hD.at_).1, hD.exact_, hd1⟩
          have hsz : en.size = kvs.length := by rw [← Array.length_toList, hd2, List.length_map, paired_len hD.rel]
          have hh : X.A.handled = none := I.ok.hd hc
          refine Calls.call_function_entry kind_sorted plain_sorted entry_sorted (args_sorted1 _) ?_
          unfold Builtin.«sorted»
          refine wpAny_bind (m := checkCount "sorted" 1 1 _) (wpAny_pure ?_)
          refine wpAny_bind (PySem.W.kdu_collect (A := X.A.in1) (KdlSrc.rawDict hD.sys) hh hraw (by rw [hsz]; exact hD.len) fun h' tk acc hk hacc => ?_)
          refine sort_tail (its := acc.toList) hu I r hk ?_ ok (by rw [List.length_map]; exact hD.len) q
          refine each_at (by rw [Array.length_toList, hacc.1, hsz, List.length_map]) fun i u d eu ed => ?_
          rw [List.getElem?_map] at ed
          cases ek : kvs[i]? with
          | none => rw [ek] at ed; cases ed
          | some p =>
            rw [ek] at ed
            have ed : p.1 = d := by simpa using ed
            obtain ⟨x, hx, q1, q2, q3, q4, q5, q6⟩ := paired_get hD.rel ek
            obtain ⟨hi, hv⟩ := hacc.2 i u (by rw [← Array.getElem?_toList]; exact eu)
            have e3 : en[i] = entryOfKey (nestedKind X.prog X.w) x := by
              have e4 : en.toList[i]? = some (entryOfKey (nestedKind X.prog X.w) x) := by rw [hd2, List.getElem?_map, hx]; rfl
              rw [Array.getElem?_toList, Array.getElem?_eq_getElem hi] at e4
              exact Option.some.inj e4
            rw [e3] at hv
            exact ⟨.ref x.2.1, hv, by rw [← ed]; exact q5⟩
        · exact q.elim
      | _ => exact q.elim
end
end DL

namespace DL
open PySem PySem.Spec PyProof.Rows L2

/-! ### methods of built-in types -/
def tyD (T : String) : D → Store → Bool
  | .str _, _ => T == "str"
  | .loc a, S => match S a with
    | some (.lst _) => T == "list"
    | some (.dic _ _) => T == "dict"
    | _ => false
  | _, _ => false
def DMtR (X : Cx) (id : String) (r : D → List D → Store → DQ → Prop) : Prop :=
  ∀ (pins : List (Addr × Obj)) (s : Shared) (σv : L2.St) (H : Hp) (S : Store) (x : V) (xs : List V) (d : D) (ds : List D) (v : Value) (us : List Value) (Q : DQ), Inv X pins σv H s → RelS X.prog X.w X.K H S → RelV x v → Vals xs us → Rp H d x → Rps H ds xs → r d ds S Q →
    wpAny (model X.prog X.w) X.A (call (.builtin id) (v :: us)) (DEP X pins σv H S Q) X.xe s
section
variable {X : Cx} {B : Hp × Store}
theorem tyD_is {pins : List (Addr × Obj)} {s : Shared} {σv : L2.St} {H : Hp} {S : Store} {x : V} {d : D} {v : Value} {T : String} (I : Inv X pins σv H s) (r : RelS X.prog X.w X.K H S) (rx : RelV x v) (p : Rp H d x) (h : tyD T d S = true) : s.TypeIs v T ∧ ∀ a, v = .ref a → ∃ o, s.heap.get? a = some o ∧ o.dict = none := by
  cases d with
  | str z =>
    cases (show x = .str z from p)
    obtain ⟨t, rfl⟩ := rx
    have h : (T == "str") = true := h
    rw [beq_iff_eq] at h
    subst h
    exact ⟨typeIs_str s z t, fun _ e => nomatch e⟩
  | loc a =>
    cases (show x = .ref a from p)
    cases rx
    have h : (match S a with | some (.lst _) => T == "list" | some (.dic _ _) => T == "dict" | _ => false) = true := h
    split at h
    · rename_i ds es
      rw [beq_iff_eq] at h
      subst h
      obtain ⟨xs, h1, _⟩ := r a _ es
      obtain ⟨its, _, pl, _⟩ := I.list (.of h1)
      refine ⟨pl.isList.typeIs, fun b e => ?_⟩
      cases e
      obtain ⟨o, n, e, c, hd, _⟩ := pl
      exact ⟨o, e, hd⟩
    · rename_i n kvs es
      rw [beq_iff_eq] at h
      subst h
      obtain ⟨o, xs, hD⟩ := r a _ es
      have hg : s.heap.get? a = some o := (I.hok a _ hD.at_).1
      refine ⟨⟨o, hg, hD.exact_.1⟩, fun b e => ?_⟩
      cases e
      exact ⟨o, hg, hD.exact_.2.1⟩
    · cases h
  | _ => cases h
@[simp] def dBM0 (T : String) (r : D → List D → Store → DQ → Prop) (to : DTE) : DTE := fun σ S Q => to σ S fun x S1 => tyD T x S1 = true ∧ r x [] S1 Q
@[simp] def dBM (T : String) (r : D → List D → Store → DQ → Prop) (to : DTE) (t : DTA) : DTE := fun σ S Q => to σ S fun x S1 => tyD T x S1 = true ∧ t σ S1 fun xs S2 => r x xs S2 Q
variable {o e : Expr} {es : List Expr} {to : DTE} {t : DTA} {name : Str} {apos cpos : Pos} {T id : String} {r : D → List D → Store → DQ → Prop}
theorem de_bm0 (pa : PlainAttrs T) (slot : Slot T name id) (hty : typeOf (.builtin id) = pure (.type "method_descriptor")) (hm : DMtR X id r) (ho : DE X B o to)
    (hbase : attributeBase o name X.env (eval o X.env) = eval o X.env := by rfl) (hline : (apos.endLine == cpos.line) = true := by rfl) : DE X B (.Call (.Attribute o name apos) [] [] cpos) (dBM0 T r to) := by
  refine ⟨fun pins s σv H σ S Q I h => ?_⟩
  refine wpAny_Call_method0_late hbase hline (thn (ho.run pins s σv H σ S _ I h) fun v s1 ⟨x, d, H1, S1, I1, r1, t1, rx, px, ty, q1⟩ => ?_)
  obtain ⟨h1, h2⟩ := tyD_is I1 r1 rx px ty
  exact ⟨T, id, pa, slot, hty, h1, h2, Calls.callWith_builtin rfl (PySem.evalArgs_none (thn (hm pins s1 σv H1 S1 x [] d [] v [] Q I1 r1 rx .nil px rfl q1) fun _ _ h => h.tx t1))⟩
theorem de_bm (pa : PlainAttrs T) (slot : Slot T name id) (hty : typeOf (.builtin id) = pure (.type "method_descriptor")) (hm : DMtR X id r) (ho : DE X B o to) (ha : DA X B (e :: es) t)
    (hbase : attributeBase o name X.env (eval o X.env) = eval o X.env := by rfl)
    (hfew : ((backTo cpos (starEach (e :: es) X.env)).all (fun x => !x.1) && (backToKw cpos (keywordEach [] X.env)).all (fun x => x.1.isSome)
      && decide ((e :: es).length + ([] : List Keyword).length + (if ([] : List Keyword).isEmpty then 0 else 1) < 30)) = true := by rfl)
    (hline : (apos.endLine == cpos.line) = true := by rfl) (hs : starEach (e :: es) X.env = (false, eval e X.env) :: starEach es X.env := by rfl) (hplain : (backTo cpos (starEach es X.env)).any (·.1) = false := by rfl) :
    DE X B (.Call (.Attribute o name apos) (e :: es) [] cpos) (dBM T r to t) := by
  refine ⟨fun pins s σv H σ S Q I h => ?_⟩
  refine wpAny_Call_method_late hbase hfew hline rfl (thn (ho.run pins s σv H σ S _ I h) fun v s1 ⟨x, d, H1, S1, I1, r1, t1, rx, px, ty, q1⟩ => ?_)
  obtain ⟨h1, h2⟩ := tyD_is I1 r1 rx px ty
  refine ⟨T, id, pa, slot, hty, h1, h2, ?_⟩
  have hA := ha.run cpos pins s1 σv H1 σ S1 _ (I.to I1 r1 t1) q1
  rw [hs] at hA ⊢
  refine Calls.callWith_builtin (by show (false || (backTo cpos (starEach es X.env)).any (·.1)) = false; rw [hplain] <;> rfl) (Calls.evalArgs_plain ?_)
  exact thn hA fun us s2 ⟨vs, ds, H2, S2, hn2, I2, r2, t2, rv, pv, q2⟩ => thn (hm pins s2 σv H2 S2 x vs d ds v us Q I2 r2 rx rv (px.mono (t2.tx r1)) pv q2) fun _ _ h => h.tx (t1.trans t2)

/-! ### list.append, pop, extend -/
@[simp] def rAppD : D → List D → Store → DQ → Prop := fun x xs S Q => match x, xs with
  | .loc a, [y] => (match S a with
    | some (.lst ds) => ds.length < 10000 ∧ Q .non (put S a (.lst (ds ++ [y])))
    | _ => False)
  | _, _ => False
theorem RelS.writeL {P : Program} {w : World} {K : PySem.W.Frag} {H : Hp} {S : Store} {a : Addr} {m : MO} {ds : List D} {xs : List V} (r : RelS P w K H S) (h : S a = some m) (p : Rps H ds xs) : RelS P w K (upd H a (.lst xs)) (put S a (.lst ds)) := by
  obtain ⟨u, q, n⟩ := (r a m h).some
  exact r.write h (m' := .lst ds) ⟨xs, upd_same, p.mono (Tx.write q n)⟩
theorem mt_appD : DMtR X "list.append" rAppD := by
  intro pins s σv H S x xs d ds v us Q I r rx rv px pv q
  cases d with
  | loc a =>
    cases ds with
    | nil => exact q.elim
    | cons y ds =>
      cases ds with
      | cons _ _ => exact q.elim
      | nil =>
        have q : (match S a with | some (.lst ds) => ds.length < 10000 ∧ Q .non (put S a (.lst (ds ++ [y]))) | _ => False) := q
        split at q
        · rename_i zs es
          obtain ⟨hl, q⟩ := q
          obtain ⟨yv, _, rfl, p1, p2⟩ := pv
          cases (show _ = [] from p2)
          cases (show x = .ref a from px)
          obtain ⟨zv, h1, h2⟩ := r a _ es
          have py : Rps H [y] [yv] := ⟨yv, [], rfl, p1, rfl⟩
          exact thn (mt_append (X := X) pins s σv H _ _ v us (fun z H' => z = .non ∧ ∃ S', RelS X.prog X.w X.K H' S' ∧ Gx H S H' S' ∧ Q .non S') I rx rv ⟨a, zv, yv, rfl, rfl, h1, by rw [h2.length]; exact sz4l hl, rfl, _, r.writeL es (h2.append py), Gx.write es, q⟩) fun u s' ⟨z, H', J, rz, e1, S', b, c, q⟩ => by
            subst e1
            exact ⟨_, .non, H', S', J, b, c, rz, rfl, q⟩
        · exact q.elim
  | _ => cases ds with
    | nil => exact q.elim
    | cons y ds => cases ds <;> exact q.elim
@[simp] def rPopD : D → List D → Store → DQ → Prop := fun x xs S Q => match x, xs with
  | .loc a, [] => (match S a with
    | some (.lst ds) => (match ds.getLast? with | some y => Q y (put S a (.lst ds.dropLast)) | none => False)
    | _ => False)
  | _, _ => False
theorem rps_dropLast {H : Hp} : ∀ {ds : List D} {xs : List V}, Rps H ds xs → Rps H ds.dropLast xs.dropLast
  | [], _, h => by cases (show _ = [] from h); rfl
  | [_], _, h => by
    obtain ⟨v, r, rfl, _, h2⟩ := h
    cases (show r = [] from h2)
    rfl
  | d :: e :: ds, _, h => by
    obtain ⟨v, r, rfl, h1, h2⟩ := h
    obtain ⟨v2, r2, rfl, _, _⟩ := id h2
    exact ⟨v, _, rfl, h1, rps_dropLast (ds := e :: ds) h2⟩
theorem mt_popD : DMtR X "list.pop" rPopD := by
  intro pins s σv H S x xs d ds v us Q I r rx rv px pv q
  cases d with
  | loc a =>
    cases (show x = .ref a from px)
    cases ds with
    | nil =>
      have q : (match S a with | some (.lst ds) => (match ds.getLast? with | some y => Q y (put S a (.lst ds.dropLast)) | none => False) | _ => False) := q
      split at q
      · rename_i zs es
        split at q
        · rename_i y ey
          cases (show xs = [] from pv)
          obtain ⟨zv, h1, h2⟩ := r a _ es
          have ey : zs[zs.length - 1]? = some y := by rw [← List.getLast?_eq_getElem?]; exact ey
          obtain ⟨w, hw, pw⟩ := h2.get ey
          rw [← h2.length] at hw
          have t : Tx H (upd H a (.lst zv.dropLast)) := Tx.write h1 fun _ z => nomatch z
          exact thn (mt_pop (X := X) pins s σv H _ _ v us (fun z H' => ∃ S', RelS X.prog X.w X.K H' S' ∧ Gx H S H' S' ∧ Rp H' y z ∧ Q y S') I rx rv ⟨a, zv, w, rfl, rfl, h1, hw, _, r.writeL es (rps_dropLast h2), Gx.write es, pw.mono t, q⟩) fun u s' ⟨z, H', J, rz, S', b, c, e, q⟩ => ⟨_, y, H', S', J, b, c, rz, e, q⟩
        · exact q.elim
      · exact q.elim
    | cons k ds => exact q.elim
  | _ => cases ds <;> exact q.elim

/-! ### dicts -/
theorem ddel_len (kvs : List (D × D)) (k : D) : (ddel kvs k).length ≤ kvs.length := List.length_filter_le _ _
/-- behind a change of the dict at a, told of -/
theorem dic_told {pins : List (Addr × Obj)} {s : Shared} {σv : L2.St} {H : Hp} {S : Store} {a : Addr} {n : Nat} {kvs kvs' : List (D × D)} {ob : Obj} {xs xs' : List (NestedKey × Addr × Value)} {h' : Heap} {tk : Nat} (I : Inv X pins σv H s) (r : RelS X.prog X.w X.K H S) (es : S a = some (.dic n kvs)) (hD : DicAt X.prog X.w H a n kvs ob xs) (hm : h'.DictOfH (nestedKind X.prog X.w) a xs') (sb : Heap.SameBut a s.heap h') (hl : kvs'.length ≤ sizeLine)
    (rel : Paired (DPr H) kvs' xs') : ∃ (H' : Hp) (n' : Nat), Inv X pins σv H' { s with heap := h', toks := tk } ∧ RelS X.prog X.w X.K H' (put S a (.dic n' kvs')) ∧ Gx H S H' (put S a (.dic n' kvs')) := by
  obtain ⟨u, n', J, k⟩ := dic_write (tk := tk) I hD hm sb hl rel
  exact ⟨_, n', J, r.write es k, Gx.write es⟩
@[simp] def rPopK : D → List D → Store → DQ → Prop := fun x xs S Q => match x, xs with
  | .loc a, [k] => (match S a with
    | some (.dic _ kvs) => (k.isK && decide (k.dep ≤ 8) && k.isTup) = true ∧ (match dget kvs k with | some v => ∀ n, Q v (put S a (.dic n (ddel kvs k))) | none => False)
    | _ => False)
  | _, _ => False
theorem mt_popK (hu : X.A.units + 64 < cLine) : DMtR X "dict.pop" rPopK := by
  intro pins s σv H S x xs d ds v us Q I r rx rv px pv q
  cases d with
  | loc a =>
    cases (show x = .ref a from px)
    cases ds with
    | nil => exact q.elim
    | cons k ds =>
      cases ds with
      | cons _ _ => exact q.elim
      | nil =>
        have q : (match S a with
          | some (.dic _ kvs) => (k.isK && decide (k.dep ≤ 8) && k.isTup) = true ∧ (match dget kvs k with | some v => ∀ n, Q v (put S a (.dic n (ddel kvs k))) | none => False)
          | _ => False) := q
        split at q
        · rename_i n kvs es
          obtain ⟨hk, q⟩ := q
          have hk := isKey_of hk
          obtain ⟨kv, _, rfl, pk, p2⟩ := pv
          cases (show _ = [] from p2)
          obtain ⟨u, rfl, ru⟩ := vals1 rv
          obtain ⟨b, rfl⟩ := key_ref hk pk
          cases ru
          cases rx
          obtain ⟨ob, xs', hD⟩ := r a _ es
          have q2 := atKey_rel hk hD.rel
          split at q
          · rename_i y ey
            rw [ey] at q2
            obtain ⟨ka, uv, e2, vv, r2, p2⟩ := q2
            refine call_pop_heap (more := []) (.inl rfl) (PySem.F.args_dict_pop_2 _ _) (nroom hu) (key_is I hk pk) hD.sys (dic_of I hD) e2 (fun h' hm sb => ?_) (by rw [← paired_len hD.rel]; exact hD.len)
            obtain ⟨H', n', J, rs, g⟩ := dic_told (tk := s.toks + (nestedKind X.prog X.w).draws k.nk) I r es hD hm sb (Nat.le_trans (ddel_len kvs k) hD.len) (rel_del hk hD.rel)
            exact ⟨vv, y, H', _, J, rs, g, r2, p2.mono (g.tx r), q n'⟩
          · exact q.elim
        · exact q.elim
  | _ => cases ds with
    | nil => exact q.elim
    | cons y ds => cases ds <;> exact q.elim
/-- d.get(k, x) -/
def rGetK : D → List D → Store → DQ → Prop := fun x xs S Q => match x, xs with
  | .loc a, [k, y] => (match S a with
    | some (.dic _ kvs) => (k.isK && decide (k.dep ≤ 8) && k.isTup) = true ∧ Q ((dget kvs k).getD y) S
    | _ => False)
  | _, _ => False
theorem mt_getK (hu : X.A.units + 64 < cLine) : DMtR X "dict.get" rGetK := by
  intro pins s σv H S x xs d ds v us Q I r rx rv px pv q
  unfold rGetK at q
  split at q
  · rename_i a k y
    cases (show x = .ref a from px)
    cases rx
    split at q
    · rename_i n kvs es
      obtain ⟨hk, q⟩ := q
      have hk := isKey_of hk
      obtain ⟨kv, _, rfl, pk, yv, _, rfl, py, p2⟩ := pv
      cases (show _ = [] from p2)
      obtain ⟨u1, u2, rfl, ru1, ru2⟩ := vals2 rv
      obtain ⟨b, rfl⟩ := key_ref hk pk
      cases ru1
      obtain ⟨ob, xs', hD⟩ := r a _ es
      have q2 := atKey_rel hk hD.rel
      refine call_meetsIn PySem.F.slot_dict_get (dic_of I hD).typeIs PySem.F.entry_dict_get (PySem.F.args_dict_get_3 _ _ _) (meetsH_dict_get_default (nestedKind X.prog X.w) a b hD.sys u2) ⟨nroom hu, k.nk, xs', key_is I hk pk, dic_of I hD, ?_⟩
      cases ey : dget kvs k with
      | none =>
        rw [ey] at q2 q
        have q2 : atKey xs' k.nk = none := q2
        rw [q2]
        exact ⟨yv, y, H, S, I.tok _, r, Gx.refl, ru2, py, q⟩
      | some d =>
        rw [ey] at q2 q
        obtain ⟨ka, uv, e2, vv, r2, p2⟩ := q2
        rw [e2]
        exact ⟨vv, d, H, S, I.tok _, r, Gx.refl, r2, p2, q⟩
    · exact q.elim
  · exact q.elim
/-- {} -/
def dDict0 : DTE := fun _ S Q => ∀ p n, S p = none → Q (.loc p) (put S p (.dic n []))
theorem dic_laid {pins : List (Addr × Obj)} {s : Shared} {σv : L2.St} {H : Hp} {tk : Nat} (I : Inv X pins σv H s) : ∃ (u : HO) (n : Nat), Inv X pins σv (upd H s.heap.objs.size u) { s with heap := s.heap.push { cls := .type "dict", data := .dict #[] }, toks := tk } ∧ RelO X.prog X.w X.K (upd H s.heap.objs.size u) s.heap.objs.size (.dic n []) ∧
    (∃ o xs, DicAt X.prog X.w (upd H s.heap.objs.size u) s.heap.objs.size n [] o xs) := by
  have hf : H s.heap.objs.size = none := I.hok.fresh (Nat.le_refl _)
  obtain ⟨o', n', e1, e2, e3⟩ := dic_new (P := X.prog) (w := X.w) (K := X.K) (H := H) (a := s.heap.objs.size) (kvs := []) (xs := []) (Heap.DictOfH.new s.heap) (Nat.zero_le _) (beq_eq_false_iff_ne.mpr (Ne.symm (Nat.ne_of_lt I.big))) .nil (fun xs z => by rw [hf] at z; cases z)
  exact ⟨_, n', I.laid (t' := tk) (fun b u e => Heap.get?_push_of_some _ e) (Nat.le_refl _) (e2 _), e3, e3⟩
theorem de_dict0 {pos : Pos} : DE X B (.Dict [] [] pos) dDict0 := by
  refine ⟨fun pins s σv H σ S Q I h => ?_⟩
  have hf : H s.heap.objs.size = none := I.inv.hok.fresh (Nat.le_refl _)
  obtain ⟨u, n, J, k, _⟩ := dic_laid (tk := s.toks) I.inv
  exact wpAny_Dict_empty ⟨.ref s.heap.objs.size, .loc s.heap.objs.size, _, _, J, I.st.new hf k, Gx.new hf, rfl, rfl, h _ n (I.st.free hf)⟩
/-- o[i] = v -/
@[simp] def rSetD (x y v : D) (S : Store) (Q : Store → Prop) : Prop := match x with
  | .loc a => match S a with
    | some (.dic _ kvs) => (y.isK && decide (y.dep ≤ 8) && y.isTup) = true ∧ kvs.length < 10000000 ∧ ∀ n, Q (put S a (.dic n (dput kvs y v)))
    | _ => False
  | _ => False
theorem set_D (hu : X.A.units + 64 < cLine) {pins : List (Addr × Obj)} {s : Shared} {σv : L2.St} {H : Hp} {S : Store} {vx vy vv : V} {x y z : D} {ux uy uz : Value} {Q : Store → Prop} (I : Inv X pins σv H s) (r : RelS X.prog X.w X.K H S) (rx : RelV vx ux) (ry : RelV vy uy) (rz : RelV vv uz) (px : Rp H x vx) (py : Rp H y vy) (pz : Rp H z vv) (q : rSetD x y z S Q) :
    wpAny (model X.prog X.w) X.A (setItem ux uy uz) (fun _ s' => ∃ H' S', Inv X pins σv H' s' ∧ RelS X.prog X.w X.K H' S' ∧ Gx H S H' S' ∧ Q S') X.xe s := by
  cases x with
  | loc a =>
    cases (show vx = .ref a from px)
    cases rx
    have q : (match S a with
      | some (.dic _ kvs) => (y.isK && decide (y.dep ≤ 8) && y.isTup) = true ∧ kvs.length < 10000000 ∧ ∀ n, Q (put S a (.dic n (dput kvs y z)))
      | _ => False) := q
    split at q
    · rename_i n kvs es
      obtain ⟨hk, hl, q⟩ := q
      have hk := isKey_of hk
      obtain ⟨b, rfl⟩ := key_ref hk py
      cases ry
      obtain ⟨ob, xs', hD⟩ := r a _ es
      refine wpAny_setItem_heap (nroom hu) (key_is I hk py) (dic_of I hD) (fun h' hm sb => ?_) (by rw [← paired_len hD.rel]; exact hD.len)
      obtain ⟨H', n', J, rs, g⟩ := dic_told (tk := s.toks + (nestedKind X.prog X.w).draws y.nk) I r es hD hm sb (Nat.le_trans (dput_len kvs y z) (Nat.le_trans (show _ ≤ 10000000 by omega) (by decide))) (rel_put hk py pz rz hD.rel)
      exact ⟨H', _, J, rs, g, q n'⟩
    · exact q.elim
  | _ => exact q.elim
@[simp] def dSetIx (to ti tv : DTE) : DTS := fun E σ S => tv σ S fun v S1 => to σ S1 fun x S2 => ti σ S2 fun y S3 => rSetD x y v S3 fun S4 => E.nx σ S4
theorem ds_setIx {i value : Expr} {ti tv : DTE} {pos pos' : Pos} (hu : X.A.units + 64 < cLine) (ho : DE X B o to) (hi : DE X B i ti) (hv : DE X B value tv) (hs : swapsWith value (some (.Subscript o i pos')) pos.line X.env = pure false := by rfl) :
    DS X B (.Assign [.Subscript o i pos'] value pos) (dSetIx to ti tv) := by
  refine ⟨fun pins s σv H σ S E I h => ?_⟩
  refine wpAny_Assign_Subscript (thn (hv.run pins s σv H σ S _ I h) fun r s1 ⟨v, d, H1, S1, I1, r1, t1, rv, pv, q1⟩ => thn (ho.run pins s1 σv H1 σ S1 _ (I.to I1 r1 t1) q1) fun u s2 ⟨x, dx, H2, S2, I2, r2, t2, rx, px, q2⟩ =>
    thn (hi.run pins s2 σv H2 σ S2 _ (I.to I2 r2 (t1.trans t2)) q2) fun iv s3 ⟨y, dy, H3, S3, I3, r3, t3, ry, py, q3⟩ => ?_) hs
  refine thn (set_D hu I3 r3 rx ry rv (px.mono (t3.tx r2)) py ((pv.mono (t2.tx r1)).mono (t3.tx r2)) q3) fun _ s4 ⟨H4, S4, I4, r4, t4, q4⟩ => ?_
  exact ⟨σv, H4, σ, S4, I.to I4 r4 (((t1.trans t2).trans t3).trans t4), ((t1.trans t2).trans t3).trans t4, q4⟩
/-- list(d) of a dict too -/
def rLstK : List D → Store → DQ → Prop := fun ds S Q => match ds with
  | [.loc a] => match S a with
    | some (.dic _ kvs) => ∀ p, S p = none → Q (.loc p) (put S p (.lst (kvs.map (·.1))))
    | _ => False
  | _ => False
theorem call_lstK (hc : X.calm = true) : DCallR X (.type "list") rLstK := by
  intro pins s σv H S xs ds us Q I r rv pv q
  unfold rLstK at q
  split at q
  · rename_i a
    split at q
    · rename_i n kvs es
      obtain ⟨x, _, rfl, p1, p2⟩ := pv
      cases (show _ = [] from p2)
      cases (show x = .ref a from p1)
      obtain ⟨u, rfl, ru⟩ := vals1 rv
      cases ru
      obtain ⟨o, ys, hD⟩ := r a _ es
      obtain ⟨en, hd1, hd2⟩ := hD.es
      have hraw : s.heap.DictRaw a en n := ⟨o, (I.hok a _ hD.at_).1, hD.exact_, hd1⟩
      have hsz : en.size = kvs.length := by rw [← Array.length_toList, hd2, List.length_map, paired_len hD.rel]
      refine PySem.W.kdl_call (KdlSrc.rawDict hD.sys) (I.ok.hd hc) hraw (by rw [hsz]; exact hD.len) fun h' tk acc c hk hat hacc => ?_
      have ee : PySem.W.EachIs (RVD H) acc.toList (kvs.map (·.1)) := by
        refine each_at (by rw [Array.length_toList, hacc.1, hsz, List.length_map]) fun i u d eu ed => ?_
        rw [List.getElem?_map] at ed
        cases ek : kvs[i]? with
        | none => rw [ek] at ed; cases ed
        | some p =>
          rw [ek] at ed
          have ed : p.1 = d := by simpa using ed
          obtain ⟨x, hx, q1, q2, q3, q4, q5, q6⟩ := paired_get hD.rel ek
          obtain ⟨hi, hv⟩ := hacc.2 i u (by rw [← Array.getElem?_toList]; exact eu)
          have e3 : en[i] = entryOfKey (nestedKind X.prog X.w) x := by
            have e4 : en.toList[i]? = some (entryOfKey (nestedKind X.prog X.w) x) := by rw [hd2, List.getElem?_map, hx]; rfl
            rw [Array.getElem?_toList, Array.getElem?_eq_getElem hi] at e4
            exact Option.some.inj e4
          rw [e3] at hv
          exact ⟨.ref x.2.1, hv, by rw [← ed]; exact q5⟩
      obtain ⟨vs, rvs, pvs⟩ := of_each ee
      have hf : H s.heap.objs.size = none := I.hok.fresh (Nat.le_refl _)
      refine ⟨.ref _, .loc s.heap.objs.size, _, _, I.laid (t' := tk) (o := .lst vs) hk (Nat.le_refl _) ⟨?_, acc.toList, c, rvs, by simpa using hat⟩, r.newL hf pvs, Gx.new hf, rfl, rfl, q _ (r.free hf)⟩
      rw [pvs.length, List.length_map]
      exact hD.len
    · exact q.elim
  · exact q.elim
end
end DL

namespace DL
open PySem PySem.Spec PyProof.Rows L2

/-! ### the loops of a dict comprehension with two clauses -/
section
variable {prog : Program} {w : World} {A : Around} {R : Result → Shared → Prop} {s : Shared} {kx vx t0 i0 t1 i1 : Expr} {ifs0 ifs1 : List Expr} {scope : Scope} {pos : Pos} {it : Value} {P : Addr} {env : Env}
theorem turnD_out : compTurn (.DictComp kx vx [⟨t0, i0, ifs0, 0⟩, ⟨t1, i1, ifs1, 0⟩] scope pos) 0 it (.ref P) env = (do
      standAt i0.pos
      match ← pyNext it with
      | none => pure (.done .next)
      | some v =>
        letOwnedTupleGo t0 it v
        assign t0 env v
        let mut ok := true
        for c in ifs0 do
          if ok then ok ← isTrue c env (eval c env)
        if ok then
          let x ← eval i1 env
          standAt i1.pos
          let x ← foldedSetIterable i1 env x
          let _ ← runOwn (.compStart (.DictComp kx vx [⟨t0, i0, ifs0, 0⟩, ⟨t1, i1, ifs1, 0⟩] scope pos) 1 (← holding [x] (pyIter x)) (.ref P) env) env
        again (.compLoop (.DictComp kx vx [⟨t0, i0, ifs0, 0⟩, ⟨t1, i1, ifs1, 0⟩] scope pos) 0 it (.ref P) env)) := by rfl
theorem turnD_in : compTurn (.DictComp kx vx [⟨t0, i0, ifs0, 0⟩, ⟨t1, i1, ifs1, 0⟩] scope pos) 1 it (.ref P) env = (do
      standAt i1.pos
      match ← pyNext it with
      | none => pure (.done .next)
      | some v =>
        letOwnedTupleGo t1 it v
        assign t1 env v
        let mut ok := true
        for c in ifs1 do
          if ok then ok ← isTrue c env (eval c env)
        if ok then
          (do
            let kv ← eval kx env
            let vv ← holding [kv] (eval vx env)
            standAt { kx.pos with endLine := vx.pos.endLine, endCol := vx.pos.endCol }
            holding [kv, vv] (dictSet P kv vv))
        again (.compLoop (.DictComp kx vx [⟨t0, i0, ifs0, 0⟩, ⟨t1, i1, ifs1, 0⟩] scope pos) 1 it (.ref P) env)) := by rfl
/-- what a loop that stores asks of its turns -/
def DcRule (prog : Program) (w : World) (A : Around) (c : Code) (tg : Expr) (ifs : List Expr) (kx vx : Expr) (it : Value) (P : Addr) (env : Env) : Prop :=
  ∀ (R : Result → Shared → Prop) (I : Nat → Shared → Prop)
    (_ : ∀ n s, I n s → wpAny (model prog w) A (pyNext it) (fun r s1 => match r with
      | none => R (.ok .next) s1
      | some v => wpAny (model prog w) A (letOwnedTupleGo tg it v) (fun _ s2 => wpAny (model prog w) A (assign tg env v) (fun _ s3 =>
          wpAny (model prog w) A (forIn ifs true fun c r => if r = true then do let ok ← isTrue c env (eval c env); pure (ForInStep.yield ok) else pure (ForInStep.yield r)) (fun ok s4 =>
            if ok = true then wpAny (model prog w) A (eval kx env) (fun kv s5 => wpAny (model prog w) A (eval vx env) (fun vv s6 =>
              wpAny (model prog w) A (dictSet P kv vv) (fun _ s7 => ∃ m, m < n ∧ I m s7) (fun _ _ => False) s6) (fun _ _ => False) s5) (fun _ _ => False) s4
            else ∃ m, m < n ∧ I m s4) (fun _ _ => False) s3) (fun _ _ => False) s2) (fun _ _ => False) s1) (fun _ _ => False) s)
    (n : Nat) (s : Shared) (_ : I n s), codeAny (model prog w) A c R s
theorem fmono {α : Type} {t : Sem α} {Q Q' : α → Shared → Prop} {M : Model} {A : Around} {E : Value → Shared → Prop} {s : Shared} (h : wpAny M A t Q (fun _ _ => False) s) (hQ : ∀ a s, Q a s → Q' a s) : wpAny M A t Q' E s := wpAny_mono h hQ fun _ _ z => z.elim
theorem dcRule_one : DcRule prog w A (.compLoop (.DictComp kx vx [⟨t0, i0, ifs0, 0⟩] scope pos) 0 it (.ref P) env) t0 ifs0 kx vx it P env := fun R I turn n s h => by
  refine compLoop_anyD I (fun n s hI => fmono (turn n s hI) fun r s1 h1 => ?_) n h
  cases r with
  | none => exact h1
  | some v =>
    refine fmono h1 fun _ s2 h2 => fmono h2 fun _ s3 h3 => fmono h3 fun ok s4 h4 => ?_
    cases ok with
    | false => exact h4
    | true => exact fmono h4 fun kv s5 h5 => fmono h5 fun vv s6 h6 => fmono h6 fun _ s7 h7 => h7
theorem dcRule_in : DcRule prog w A (.compLoop (.DictComp kx vx [⟨t0, i0, ifs0, 0⟩, ⟨t1, i1, ifs1, 0⟩] scope pos) 1 it (.ref P) env) t1 ifs1 kx vx it P env := fun R I turn n s h => by
  refine codeAny_loop rfl I (fun n s hI => ?_) n h
  show wpAny _ A ((compTurn (.DictComp kx vx [⟨t0, i0, ifs0, 0⟩, ⟨t1, i1, ifs1, 0⟩] scope pos) 1 it (.ref P) env).onRaise (fun x => do noteFrame x env; theTreesLotGoes x)) _ _ s
  refine wpAny_noted ?_
  rw [turnD_in]
  refine wpAny_bind (wpAny_standAt (wpAny_bind (fmono (turn n s hI) fun r s1 h1 => ?_)))
  cases r with
  | none => exact wpAny_pure h1
  | some v =>
    refine wpAny_bind (fmono h1 fun _ s2 h2 => wpAny_bind (fmono h2 fun _ s3 h3 => wpAny_bind (fmono h3 fun ok s4 h4 => ?_)))
    cases ok with
    | false => exact wpAny_pure ⟨rfl, h4⟩
    | true =>
      exact wpAny_bind (wpAny_bind (fmono h4 fun kv s5 h5 => wpAny_bind (wpAny_holding (fmono h5 fun vv s6 h6 => wpAny_bind (wpAny_standAt (wpAny_holding (fmono h6 fun _ s7 h7 => wpAny_pure ⟨rfl, h7⟩)))))))
/-- the outer loop -/
theorem dcLoop_out (hs : ∀ x, foldedSetIterable i1 env x = pure x) (I : Nat → Shared → Prop)
    (turn : ∀ n s, I n s → wpAny (model prog w) A (pyNext it) (fun r s1 => match r with
      | none => R (.ok .next) s1
      | some v => wpAny (model prog w) A (letOwnedTupleGo t0 it v) (fun _ s2 => wpAny (model prog w) A (assign t0 env v) (fun _ s3 =>
          wpAny (model prog w) A (forIn ifs0 true fun c r => if r = true then do let ok ← isTrue c env (eval c env); pure (ForInStep.yield ok) else pure (ForInStep.yield r)) (fun ok s4 =>
            if ok = true then wpAny (model prog w) A (eval i1 env) (fun x s5 => wpAny (model prog w) A (pyIter x) (fun it1 s6 =>
              codeAny (model prog w) A (.compStart (.DictComp kx vx [⟨t0, i0, ifs0, 0⟩, ⟨t1, i1, ifs1, 0⟩] scope pos) 1 it1 (.ref P) env) (fun r s' => match r with
                | .ok _ => ∃ m, m < n ∧ I m s'
                | .error _ => False) s6) (fun _ _ => False) s5) (fun _ _ => False) s4
            else ∃ m, m < n ∧ I m s4) (fun _ _ => False) s3) (fun _ _ => False) s2) (fun _ _ => False) s1) (fun _ _ => False) s)
    (n : Nat) (h : I n s) :
    codeAny (model prog w) A (.compLoop (.DictComp kx vx [⟨t0, i0, ifs0, 0⟩, ⟨t1, i1, ifs1, 0⟩] scope pos) 0 it (.ref P) env) R s := by
  refine codeAny_loop rfl I (fun n s hI => ?_) n h
  show wpAny _ A ((compTurn (.DictComp kx vx [⟨t0, i0, ifs0, 0⟩, ⟨t1, i1, ifs1, 0⟩] scope pos) 0 it (.ref P) env).onRaise (fun x => do noteFrame x env; theTreesLotGoes x)) _ _ s
  refine wpAny_noted ?_
  rw [turnD_out]
  refine wpAny_bind (wpAny_standAt (wpAny_bind (fmono (turn n s hI) fun r s1 h1 => ?_)))
  cases r with
  | none => exact wpAny_pure h1
  | some v =>
    refine wpAny_bind (fmono h1 fun _ s2 h2 => wpAny_bind (fmono h2 fun _ s3 h3 => wpAny_bind (fmono h3 fun ok s4 h4 => ?_)))
    cases ok with
    | false => exact wpAny_pure ⟨rfl, h4⟩
    | true =>
      refine wpAny_bind (fmono h4 fun x s5 h5 => ?_)
      refine wpAny_bind (wpAny_standAt (wpAny_bind (wpAny_of_eq (hs x) (wpAny_bind (wpAny_holding (fmono h5 fun it1 s6 h6 => ?_))))))
      refine wpAny_bind (wpAny_runOwn ?_)
      rw [Around.mark_none]
      refine codeAny_mono h6 fun r s' hr => ?_
      cases r with
      | ok f =>
        first
          | exact wpAny_pure ⟨rfl, hr⟩
          | exact wpAny_bind (wpAny_pure (wpAny_pure ⟨rfl, hr⟩))
      | error e => exact hr.elim
theorem dcStart1 (h0 : codeAny (model prog w) A (.compLoop (.DictComp kx vx [⟨t0, i0, ifs0, 0⟩, ⟨t1, i1, ifs1, 0⟩] scope pos) 1 it (.ref P) env) R s)
    (h : wpAny (model prog w) A (pyIter it) (fun it' s' => codeAny (model prog w) A (.compLoop (.DictComp kx vx [⟨t0, i0, ifs0, 0⟩, ⟨t1, i1, ifs1, 0⟩] scope pos) 1 it' (.ref P) env) R s') (fun _ _ => False) s) :
    codeAny (model prog w) A (.compStart (.DictComp kx vx [⟨t0, i0, ifs0, 0⟩, ⟨t1, i1, ifs1, 0⟩] scope pos) 1 it (.ref P) env) R s := by
  refine codeAny_of_tree ?_
  show wpAny _ _ ((compStart (.DictComp kx vx [⟨t0, i0, ifs0, 0⟩, ⟨t1, i1, ifs1, 0⟩] scope pos) 1 it (.ref P) env).onRaise (fun x => do noteFrame x env; standAt theWindowsPlace)) _ _ s
  refine wpAny_notedAt ?_
  unfold compStart
  show wpAny _ _ (ask >>= _) _ _ s
  refine wpAny_bind (wpAny_askSetting (wpAny_ite ?_))
  split
  · first
      | exact wpAny_bind (wpAny_pure (wpAny_pure (And.intro rfl h0)))
      | exact wpAny_pure (And.intro rfl h0)
  · first
      | exact wpAny_bind (wpAny_rule (wpAny_bind (wpAny_standAt (wpAny_bind (fmono h fun it' s' h' => wpAny_pure (And.intro rfl h'))))))
      | (refine wpAny_bind (wpAny_rule ?_); show wpAny _ _ (standAt i1.pos >>= _) _ _ s; exact wpAny_bind (wpAny_standAt (wpAny_bind (fmono h fun it' s' h' => wpAny_pure (And.intro rfl h')))))
end
end DL

namespace DL
open PySem PySem.Spec PyProof.Rows L2

def isKeyB (k : D) : Bool := k.isK && decide (k.dep ≤ 8) && k.isTup
def dcL (g : DTG) (tt : DTT) (tk tv : DTE) (vs : List Nat) (σ : DSt) (G : Store → Prop) (Q : List (D × D) → Store → Prop) : List D → List (D × D) → Store → Prop
  | [], kvs, S => G S ∧ Q kvs S
  | x :: r, kvs, S => G S ∧ g x (dwipe σ vs) S fun σ2 S2 => tt σ2 S2 fun b S3 => if b = true then tk σ2 S3 fun k S4 => tv σ2 S4 fun v S5 => isKeyB k = true ∧ kvs.length < 10000 ∧ dcL g tt tk tv vs σ G Q r (dput kvs k v) S5 else dcL g tt tk tv vs σ G Q r kvs S3
theorem wipe_wipe : ∀ (us : List Nat) (σv : L2.St), wipe (wipe σv us) us = wipe σv us := fun us σv => by
  have : ∀ us' : List Nat, ∀ σv : L2.St, (∀ i ∈ us', ∀ v, σv[i]? = some (some v) → False) → wipe σv us' = σv := fun us' => by
    induction us' with
    | nil => intro _ _; rfl
    | cons u us' ih =>
      intro σv hz
      show (wipe σv us').set u none = σv
      rw [ih σv fun i hi => hz i (List.mem_cons_of_mem _ hi)]
      refine List.ext_getElem? fun j => ?_
      by_cases hj : u = j
      · subst hj
        by_cases hl : u < σv.length
        · rw [List.getElem?_set_self hl]
          cases e : σv[u]? with
          | none => rw [List.getElem?_eq_none_iff] at e; omega
          | some o =>
            cases o with
            | none => rfl
            | some v => exact (hz u List.mem_cons_self v e).elim
        · rw [List.getElem?_eq_none (by simpa using hl), List.getElem?_eq_none (by simpa using hl)]
      · rw [List.getElem?_set_ne hj]
  exact this us _ fun i hi v e => (wipe_some e).2 hi
section
variable {X : Cx} {B : Hp × Store} {tg kx vx : Expr} {ifs : List Expr} {g : TG} {gd : DTG} {tt : DTT} {tk tv : DTE} {vs : List Nat}
/-- the turns of a loop that stores into a hidden dict -/
theorem dc_turns {c : Code} {P it : Addr} {pins : List (Addr × Obj)} {fp : List Addr} {J : It} {tn : Nat → Heap → Prop} {R : Result → Shared → Prop} {ds : List D} {G : Store → Prop} {Q : List (D × D) → Store → Prop} {Hb H2 : Hp} {Sb : Store} {σv : L2.St} {σ : DSt}
    (hxe : X.xe = fun _ _ => False) (hc : X.calm = true) (hu : X.A.units + 64 < cLine) (rule : DcRule X.prog X.w X.A c tg ifs kx vx (.ref it) P X.env) (T : Turn X.prog X.w X.K tg J fp it tn) (fpok : ∀ H' : Hp, (∀ b ∈ fp, H' b = none) → ∀ b ∈ fp, FpOk X pins H' b)
    (gr : GRel vs g gd) (pg : PG X tg g) (pt : DTs X B ifs tt) (pk : DE X B kx tk) (pe : DE X B vx tv) (jok : JOk X.prog X.w X.K J H2 ds G) (bsB : Gx B.1 B.2 Hb Sb) (hP : Hb P = none) (slb : ∀ H', Tx H2 H' → SlR H' σv σ) (rb : RelS X.prog X.w X.K Hb Sb)
    (hR : ∀ s' H' S' n' kvs' o' xs', Inv X pins (wipe σv vs) H' s' → RelS X.prog X.w X.K H' S' → Gx Hb Sb H' S' → S' P = none → DicAt X.prog X.w H' P n' kvs' o' xs' → (∀ b ∈ fp, H' b = none) → Tx H2 H' → Q kvs' S' → R (.ok .next) s')
    {s : Shared} {H : Hp} {S : Store} {n : Nat} {kvs : List (D × D)} {o : Obj} {xs : List (NestedKey × Addr × Value)} (I : Inv X pins (wipe σv vs) H s) (r : RelS X.prog X.w X.K H S) (gb : Gx Hb Sb H S) (t2 : Tx H2 H) (sp : S P = none) (hD : DicAt X.prog X.w H P n kvs o xs) (st : tn 0 s.heap) (fr : ∀ b ∈ fp, H b = none) (h : dcL gd tt tk tv vs σ G Q ds kvs S) :
    codeAny (model X.prog X.w) X.A c R s := by
  refine rule R (fun m s' => ∃ (i : Nat) (H' : Hp) (S' : Store) (n' : Nat) (kvs' : List (D × D)) (o' : Obj) (xs' : List (NestedKey × Addr × Value)), m = ds.length - i ∧ i ≤ ds.length ∧ Inv X pins (wipe σv vs) H' s' ∧ RelS X.prog X.w X.K H' S' ∧ Gx Hb Sb H' S' ∧ Tx H2 H' ∧ S' P = none ∧ DicAt X.prog X.w H' P n' kvs' o' xs' ∧ tn i s'.heap ∧ (∀ b ∈ fp, H' b = none) ∧ dcL gd tt tk tv vs σ G Q (ds.drop i) kvs' S') ?_ ds.length s
    ⟨0, H, S, n, kvs, o, xs, by simp, Nat.zero_le _, I, r, gb, t2, sp, hD, st, fr, h⟩
  rintro m s5 ⟨i, H5, S5, n5, kvs5, o5, xs5, rfl, hi, I5, r5, g5, x5, sp5, hD5, st5, fr5, w5⟩
  by_cases hlt : i < ds.length
  · have hd : ds[i]? = some ds[i] := List.getElem?_eq_getElem hlt
    rw [List.drop_eq_getElem_cons hlt] at w5
    obtain ⟨hG, w5⟩ := w5
    obtain ⟨go, step⟩ := (jok i H5 S5 x5 r5 hG).2 _ hd
    refine fmono (T.item X rfl rfl rfl hc i pins s5 _ H5 (fun _ _ => False) I5 (fpok _ fr5) st5 go) fun rr s6 ⟨u, hr, h6⟩ => ?_
    subst hr
    refine fmono h6 fun _ s7 ⟨x, H7, I7, r7, y7, st7, fr7⟩ => ?_
    obtain ⟨px, rs7, g7⟩ := step x H7 y7
    have I7' := I7.pinned (fpok _ fr7) (T.obj _ _ st7)
    have gb7 := g5.trans g7
    have sl7 : SlR H7 (wipe σv vs) (dwipe σ vs) := slr_wipe (slb H7 (x5.trans (g7.tx r5))) vs
    have a7 := g7 P _ hD5.at_ sp5
    have key := gr H7 S5 (wipe σv vs) (dwipe σ vs) x _ _ (fun σ8v H8 => H8 = H7 ∧ ∃ σ8, SlR H7 σ8v σ8 ∧ wipe σ8v vs = wipe σv vs ∧ tt σ8 S5 fun b S3 => if b = true then tk σ8 S3 fun k S4 => tv σ8 S4 fun v S5 => isKeyB k = true ∧ kvs5.length < 10000 ∧ dcL gd tt tk tv vs σ G Q (ds.drop (i + 1)) (dput kvs5 k v) S5 else dcL gd tt tk tv vs σ G Q (ds.drop (i + 1)) kvs5 S3) sl7 px w5 fun σ2v σ2 sl2 w2 q2 => ⟨rfl, σ2, sl2, w2.trans (wipe_wipe vs σv), q2⟩
    have hxe' : ∀ {α : Type} {t : Sem α} {Q1 : α → Shared → Prop} {s' : Shared}, wpAny (model X.prog X.w) X.A t Q1 X.xe s' → wpAny (model X.prog X.w) X.A t Q1 (fun _ _ => False) s' := fun {α t Q1 s'} h => by rw [hxe] at h; exact h
    refine fmono (hxe' (pg.run _ s7 _ H7 x u _ I7' r7 key)) fun _ s8 ⟨σ8v, H8, I8, e8, σ8, sl8, hw8, q8⟩ => ?_
    subst e8
    refine fmono (hxe' (pt.ex.run _ s8 σ8v _ (fun b H9 => ∃ S9, RelS X.prog X.w X.K H9 S9 ∧ Gx H8 S5 H9 S9 ∧ (if b = true then tk σ8 S9 fun k S4 => tv σ8 S4 fun v S5 => isKeyB k = true ∧ kvs5.length < 10000 ∧ dcL gd tt tk tv vs σ G Q (ds.drop (i + 1)) (dput kvs5 k v) S5 else dcL gd tt tk tv vs σ G Q (ds.drop (i + 1)) kvs5 S9)) I8 ⟨σ8, S5, _, sl8, rs7, bsB.trans gb7, q8, fun b S' H' q r g => ⟨S', r, g, q⟩⟩)) fun b s9 ⟨H9, I9, S9, r9, g9, q9⟩ => ?_
    have a9 := g9 P _ a7.1 a7.2
    -- the turn's end
    have fin : ∀ {s' : Shared} {H' : Hp} {S' : Store} {n' : Nat} {kvs' : List (D × D)} {o' : Obj} {xs' : List (NestedKey × Addr × Value)}, Inv X (pins ++ pinsAt fp s7.heap) σ8v H' s' → RelS X.prog X.w X.K H' S' → Gx Hb Sb H' S' → Tx H2 H' → S' P = none → DicAt X.prog X.w H' P n' kvs' o' xs' → dcL gd tt tk tv vs σ G Q (ds.drop (i + 1)) kvs' S' →
        ∃ m, m < ds.length - i ∧ ∃ (i : Nat) (H' : Hp) (S' : Store) (n' : Nat) (kvs' : List (D × D)) (o' : Obj) (xs' : List (NestedKey × Addr × Value)), m = ds.length - i ∧ i ≤ ds.length ∧ Inv X pins (wipe σv vs) H' s' ∧ RelS X.prog X.w X.K H' S' ∧ Gx Hb Sb H' S' ∧ Tx H2 H' ∧ S' P = none ∧ DicAt X.prog X.w H' P n' kvs' o' xs' ∧ tn i s'.heap ∧ (∀ b ∈ fp, H' b = none) ∧ dcL gd tt tk tv vs σ G Q (ds.drop i) kvs' S' := fun {s' H' S' n' kvs' o' xs'} I' r' g' x' sp' hD' w' => by
      have pin' : ∀ b ∈ fp, ∀ o, s7.heap.get? b = some o → s'.heap.get? b = some o ∧ H' b = none := fun b hb o e =>
        let z := I'.pin (b, o) (List.mem_append_right _ (List.mem_append_right _ (mem_pinsAt hb e)))
        ⟨z.1, z.2.1⟩
      have hl : (wipe σv vs).length = σ8v.length := by rw [← hw8, wipe_length]
      refine ⟨ds.length - (i + 1), by omega, i + 1, H', S', n', kvs', o', xs', rfl, hlt, (I'.unpinned (pins := pins)).weak hl (fun j v e => ?_), r', g', x', sp', hD', T.keep _ _ _ st7 fun b hb o e => (pin' b hb o e).1, fun b hb => ?_, w'⟩
      · rw [← hw8] at e
        exact (wipe_some e).1
      · obtain ⟨o, e, _⟩ := T.obj _ _ st7 b hb
        exact (pin' b hb o e).2
    have t79 : Tx H5 H9 := (g7.trans g9).tx r5
    have hD9 : DicAt X.prog X.w H9 P n5 kvs5 o5 xs5 := ⟨a9.1, hD5.exact_, hD5.es, hD5.nd, Paired.mapW hD5.rel fun p x ⟨q1, q2, q3, q4, q5, v, q6, q7⟩ => ⟨q1, q2, q3, q4, q5.mono t79, v, q6, q7.mono t79⟩, hD5.len, hD5.sys⟩
    cases b with
    | false =>
      rw [if_neg Bool.false_ne_true] at q9
      refine iteF ?_
      exact fin I9 r9 (gb7.trans g9) (x5.trans t79) a9.2 hD9 q9
    | true =>
      rw [if_pos rfl] at q9
      refine iteT ?_
      have D9 : DI X B (pins ++ pinsAt fp s7.heap) σ8v H9 σ8 S9 s9 := ⟨I9, sl8.mono (g9.tx rs7), r9, bsB.trans (gb7.trans g9)⟩
      refine fmono (hxe' (pk.run _ s9 σ8v H9 σ8 S9 _ D9 q9)) fun kv s10 ⟨kw, k, H10, S10, I10, r10, g10, rk, pk10, q10⟩ => ?_
      refine fmono (hxe' (pe.run _ s10 σ8v H10 σ8 S10 _ (D9.to I10 r10 g10) q10)) fun vv s11 ⟨vw, v, H11, S11, I11, r11, g11, rvv, pv11, hk, hlen, q11⟩ => ?_
      have hk := isKey_of hk
      have a10 := g10 P _ a9.1 a9.2
      have a11 := g11 P _ a10.1 a10.2
      have t911 : Tx H9 H11 := (g10.trans g11).tx r9
      have hD11 : DicAt X.prog X.w H11 P n5 kvs5 o5 xs5 := ⟨a11.1, hD9.exact_, hD9.es, hD9.nd, Paired.mapW hD9.rel fun p x ⟨q1, q2, q3, q4, q5, v, q6, q7⟩ => ⟨q1, q2, q3, q4, q5.mono t911, v, q6, q7.mono t911⟩, hD9.len, hD9.sys⟩
      have pk11 : Rp H11 k kw := pk10.mono (g11.tx r10)
      obtain ⟨ka, rfl⟩ := key_ref hk pk11
      cases rk
      refine wpAny_dictSet_heap (nroom0 hu) (key_is I11 hk pk11) (dic_of I11 hD11) (fun h' hm sb => ?_) (by rw [← paired_len hD11.rel]; exact hD11.len)
      obtain ⟨o', n', e1, e2, o'', xs'', hDn⟩ := dic_new (K := X.K) (H := H11) hm (Nat.le_trans (dput_len kvs5 k v) (sz4 hlen)) hD11.sys (rel_put hk pk11 pv11 rvv hD11.rel) (fun xs z => by rw [a11.1] at z; cases z)
      have J : Inv X (pins ++ pinsAt fp s7.heap) σ8v (upd H11 P (.ext fun h => h.get? P = some o')) { s11 with heap := h', toks := s11.toks + (nestedKind X.prog X.w).draws k.nk } := I11.write (x := P) (e := P) (by rw [a11.1]; exact True.intro) (.inl rfl) (fun b u hb e => (sb.2 b hb).trans e) ⟨o', e1⟩ (e2 _)
      have tn11 : Tx H11 (upd H11 P (.ext fun h => h.get? P = some o')) := Tx.write a11.1 fun _ z => nomatch z
      exact fin J (r11.hid a11.2 a11.1 fun _ z => nomatch z) ((((gb7.trans g9).trans g10).trans g11).hid hP) (((x5.trans t79).trans t911).trans tn11) a11.2 hDn q11
  · have e : i = ds.length := by omega
    subst e
    rw [List.drop_length] at w5
    obtain ⟨hG, w5⟩ := w5
    have stop := (jok _ H5 S5 x5 r5 hG).1 rfl
    refine fmono (T.done X rfl rfl rfl hc _ pins s5 _ H5 (fun _ _ => False) I5 (fpok _ fr5) st5 stop) fun rr s6 ⟨hr, I6⟩ => ?_
    subst hr
    exact hR s6 H5 S5 n5 kvs5 o5 xs5 I6 r5 g5 sp5 hD5 fr5 x5 w5
end
end DL

namespace DL
open PySem PySem.Spec PyProof.Rows L2

/-! ### dict comprehensions -/
/-- what the loop of a dict comprehension gives -/
def DcLoop (X : Cx) (B : Hp × Store) (kx vx : Expr) (gs : List Comprehension) (tg : Expr) (scope : Scope) (pos : Pos) (vs : List Nat) (R : DSt → List D → (Store → Prop) → (List (D × D) → Store → Prop) → Store → Prop) : Prop :=
  ∀ (s3 s4 : Shared) (H2 H3 : Hp) (C : Addr) (cl : List (Str × Addr)) (fp : List Addr) (P it : Addr) (J : It) (tn : Nat → Heap → Prop) (ds : List D) (G : Store → Prop) (S : Store) (σv : L2.St) (σ : DSt) (n : Nat) (o : Obj) (xs : List (NestedKey × Addr × Value)) (Q : List (D × D) → Store → Prop) (RR : Result → Shared → Prop),
    Turn X.prog X.w X.K tg J fp it tn → JOk X.prog X.w X.K J H2 ds G → Gx B.1 B.2 H2 S → H2 P = none → RelS X.prog X.w X.K H2 S → (∀ H', Tx H2 H' → SlR H' σv σ) → Tx H2 H3 → Gx H2 S H3 S → RelS X.prog X.w X.K H3 S → S P = none → DicAt X.prog X.w H3 P n [] o xs →
    Inv (X.blk s3 H3 scope (compEnvC scope cl C X.env) fp) [] (wipe σv vs) H3 s4 → tn 0 s4.heap → (∀ b ∈ fp, H3 b = none) → R σ ds G Q S →
    (∀ s' H' S' n' kvs' o' xs', Inv (X.blk s3 H3 scope (compEnvC scope cl C X.env) fp) [] (wipe σv vs) H' s' → RelS X.prog X.w X.K H' S' → Gx H2 S H' S' → S' P = none → DicAt X.prog X.w H' P n' kvs' o' xs' → Q kvs' S' → RR (.ok .next) s') →
    codeAny (model X.prog X.w) X.A (.compLoop (.DictComp kx vx gs scope pos) 0 (.ref it) (.ref P) (compEnvC scope cl C X.env)) RR s4
section
variable {X : Cx} {B : Hp × Store} {kx vx tg iter : Expr} {ifs : List Expr} {rest : List Comprehension} {scope : Scope} {own : List (Str × Nat)} {pos pos' : Pos} {ti : DTI} {R : DSt → List D → (Store → Prop) → (List (D × D) → Store → Prop) → Store → Prop}
def dDcF (Q : DQ) (kvs : List (D × D)) (S : Store) : Prop := ∀ p n, S p = none → Q (.loc p) (put S p (.dic n kvs))
def dDc (ti : DTI) (R : DSt → List D → (Store → Prop) → (List (D × D) → Store → Prop) → Store → Prop) : DTE := fun σ S Q => ti σ S fun ds G S1 => R σ ds G (dDcF Q) S1
theorem dc_coreD {pins : List (Addr × Obj)} {s : Shared} {σv : L2.St} {H : Hp} {σ : DSt} {S : Store} {Q : DQ} {use : Option (Value → Sem Unit)} {Qf : Value → Shared → Prop}
    (hc : X.calm = true) (hN : X.N.Nodup) (I : DI X B pins σv H σ S s) (hi : DIt X B tg iter ti) (ok : BlkOk X.N X.env.scope scope own) (hs : ∀ x, foldedSetIterable iter X.env x = pure x)
    (hl : DcLoop X B kx vx (⟨tg, iter, ifs, 0⟩ :: rest) tg scope pos (own.map (·.2)) R) (h : dDc ti R σ S Q)
    (hRR : ∀ P C s' m H' S', Inv X pins σv H' s' → RelS X.prog X.w X.K H' S' → Gx H S H' S' → Q (.loc P) S' → s'.heap.Ns C m → FpOk X pins H' C → compPost (model X.prog X.w) X.A X.xe use Qf (.ref P) C (.ok .next) s') :
    wpAny (model X.prog X.w) X.A (comprehension (.DictComp kx vx (⟨tg, iter, ifs, 0⟩ :: rest) scope pos) scope X.env pos' newDict false (eval iter X.env) use) Qf X.xe s := by
  have hfree : ∀ y ∈ scope.names, y.2 = .free → ∃ c, X.env.cells.lookup y.1 = some c := fun y hy e => by
    rcases ok.free y hy e with k | k
    · exact I.inv.ok.has _ (.inl k)
    · exact I.inv.ok.has _ (.inr k)
  refine wpAny_comprehension_free (use := use) rfl hs (closure_ok hfree) ok.kind (fun y hy e => by rw [ok.uniq y hy, e])
    (thn (hi.run pins s σv H σ S _ I h) fun xv s1 hx => thn hx fun itv s2 h2 => ?_)
  obtain ⟨it, fp, tn, J, H2, e, I2, T, st2, f2, ds, G, S2, hz2, r2, g2, jok, q⟩ := h2
  subst e
  refine wpAny_newObj_type (newEnv_comp ?_)
  obtain ⟨u, n, I3, _, o, xs, hD⟩ := dic_laid (tk := s2.toks) I2
  generalize hP : s2.heap.objs.size = P at I3 hD
  have hPn : H2 P = none := I2.hok.fresh (Nat.le_of_eq hP)
  generalize hs3 : ({ s2 with heap := s2.heap.push { cls := .type "dict", data := .dict #[] } } : Shared) = s3
  have I3 : Inv X pins σv (upd H2 P u) s3 := by rw [← hs3]; exact I3
  have h3 : s3.heap = s2.heap.push { cls := .type "dict", data := .dict #[] } := by rw [← hs3]
  have sz : ∀ b ∈ fp, b < s2.heap.objs.size := fun b hb => by
    obtain ⟨o, e, _⟩ := T.obj _ _ st2 b hb
    exact Heap.lt_size e
  have f3 : ∀ b ∈ fp, FpOk X pins (upd H2 P u) b ∧ b < s3.heap.objs.size := fun b hb => by
    have hlt := sz b hb
    refine ⟨⟨?_, (f2 b hb).2⟩, by rw [h3, Heap.size_push]; exact Nat.lt_succ_of_lt hlt⟩
    rw [upd_ne (by rw [← hP]; exact Nat.ne_of_lt hlt)]
    exact (f2 b hb).1
  have st3 : tn 0 s3.heap := T.keep _ _ _ st2 fun b _ o e => by rw [h3]; exact Heap.get?_push_of_some _ e
  have I4 := block_start I3 ok hN f3
  have nfp : ∀ b ∈ fp, (upd H2 P u) b = none := fun b hb => (f3 b hb).1.1
  have st4 : tn 0 (pushCells (s3.heap.push { cls := .type "dict", data := .dict #[] }) scope.names) := T.keep _ _ _ st3 fun b _ o e => pushCells_keeps _ _ _ _ (Heap.get?_push_of_some _ e)
  have sl2 : ∀ H', Tx H2 H' → SlR H' σv σ := fun H' t => I.sl.mono ((g2.tx I.st).trans t)
  have loop := hl s3 { s3 with heap := pushCells (s3.heap.push { cls := .type "dict", data := .dict #[] }) scope.names } H2 (upd H2 P u) s3.heap.objs.size (cellsFrom (s3.heap.objs.size + 1) scope.names (cloFrom X.env.cells scope.names [])) fp P it J tn ds G S2 σv σ n o xs (dDcF Q)
    (compPost (model X.prog X.w) X.A X.xe use Qf (.ref P) s3.heap.objs.size) T jok (I.bs.trans g2) hPn r2 sl2 (Tx.new hPn) (Gx.grow hPn) (r2.grow hPn) (r2.free hPn) hD I4 st4 nfp q
    (fun s' H' S' n' kvs' o' xs' I6 r6 g6 sp6 hD6 q6 => by
      have I7 : Inv X pins σv H' s' := I3.call' (ch := fp) I6.os I6.base I6.hok I6.bare fun b hb => ⟨(f3 b hb).1.2.2.2.1, (f3 b hb).1.2.1, (f3 b hb).1.2.2.2.2.1, (f3 b hb).1.2.2.2.2.2⟩
      have nC : H' s3.heap.objs.size = none := I6.free
      obtain ⟨m, hn, _⟩ := I6.loc
      have hn : s'.heap.Ns s3.heap.objs.size m := hn
      exact hRR P s3.heap.objs.size s' m H' (put S' P (.dic n' kvs')) I7 (r6.tell (m := .dic n' kvs') ⟨o', xs', hD6⟩) (g2.trans (g6.tell hPn)) (q6 P n' sp6) hn (I3.fpOk (Nat.le_refl _) nC))
  exact codeAny_compStart_dict loop (T.self X.A 0 _ _ _ st4 loop)
/-- as a value -/
theorem de_dcX (hc : X.calm = true) (hN : X.N.Nodup) (hi : DIt X B tg iter ti) (ok : BlkOk X.N X.env.scope scope own) (hl : DcLoop X B kx vx (⟨tg, iter, ifs, 0⟩ :: rest) tg scope pos (own.map (·.2)) R) (hs : ∀ x, foldedSetIterable iter X.env x = pure x := by intro _; rfl) :
    DE X B (.DictComp kx vx (⟨tg, iter, ifs, 0⟩ :: rest) scope pos) (dDc ti R) := by
  refine ⟨fun pins s σv H σ S Q I h => ?_⟩
  rw [arm_eval_DictComp]
  refine dc_coreD hc hN I hi ok hs hl h fun P C s' m H' S' I' r' g' q hn f => ⟨m, hn, fun h'' sb => ?_⟩
  obtain ⟨f0, f1, f2, f3, f4, f5⟩ := f
  exact ⟨.ref P, .loc P, H', S', I'.turned (t' := s'.toks) (fun b o hb e => (sb.2 b hb).trans e) f0 f1 f3 f4 f5, r', g', rfl, rfl, q⟩
/-- name = {..} on one line, the name a local -/
theorem ds_setDcX {i : Nat} {y : Str} {py spos : Pos} (hc : X.calm = true) (hN : X.N.Nodup) (hy : X.N[i]? = some y) (hyl : X.env.scope.names.lookup y = some .local)
    (hsw : swapsWith (.DictComp kx vx (⟨tg, iter, ifs, 0⟩ :: rest) scope pos) (some (.Name y py)) spos.line X.env = pure true) (hi : DIt X B tg iter ti) (ok : BlkOk X.N X.env.scope scope own) (hl : DcLoop X B kx vx (⟨tg, iter, ifs, 0⟩ :: rest) tg scope pos (own.map (·.2)) R) (hs : ∀ x, foldedSetIterable iter X.env x = pure x := by intro _; rfl) :
    DS X B (.Assign [.Name y py] (.DictComp kx vx (⟨tg, iter, ifs, 0⟩ :: rest) scope pos) spos) (dAsg (dDc ti R) (gN i)) := by
  refine ⟨fun pins s σv H σ S E I h => ?_⟩
  rw [exec_Assign_Name_used _ _ _ _ hsw]
  refine wpAny_bind (wpAny_standAt (wpAny_bind ?_))
  show wpAny _ X.A (do let _ ← comprehension (.DictComp kx vx (⟨tg, iter, ifs, 0⟩ :: rest) scope pos) scope X.env (firstIterPos (⟨tg, iter, ifs, 0⟩ :: rest) pos) newDict false (eval iter X.env) (some (assign (.Name y py) X.env))) _ _ s
  refine wpAny_bind (thn (dc_coreD (Qf := fun _ s' => DSP X B pins H S E .next s') hc hN I hi ok hs hl h fun P C s' m H' S' I' r' g' q hn f => ?_) fun _ s' hq => wpAny_pure (wpAny_pure hq))
  show wpAny _ _ (assign (.Name y py) X.env (.ref P)) _ _ _
  refine wpAny_assign_Name (store_ok2 (v := V.ref P) I' hN hy (.inl hyl) rfl (fun s2 I2 ⟨a, sb, ha⟩ => ?_) (.inr hyl))
  obtain ⟨f0, f1, f2, f3, f4, f5⟩ := f
  have haC : C ≠ a := by
    rcases ha with z | z
    · rw [z]; exact f1
    · exact fun e => f4 y a z e.symm
  refine ⟨m, hn.sameBut sb haC, fun h3 sb3 => ?_⟩
  have sl' : SlR H' σv σ := I.sl.mono (g'.tx I.st)
  exact ⟨_, H', _, S', ⟨I2.turned (t' := s2.toks) (fun b o hb e => (sb3.2 b hb).trans e) f0 f1 f3 f4 f5, sl'.set (d := .loc P) rfl, r', I.bs.trans g'⟩, g', q⟩
end
theorem sw_trueD {kx vx : Expr} {gs : List Comprehension} {scope : Scope} {pos py : Pos} {y : Str} {l : Nat} {env : Env} (hk : env.scope.kind = .function) (hy : env.scope.names.lookup y = some .local) (hl : (py.line == pos.line) = true)
    (ha : (scope.names.any fun (n, k) => n == y && (k == .local || k == .cell)) = false) : swapsWith (.DictComp kx vx gs scope pos) (some (.Name y py)) l env = pure true := by
  have ky : env.kindOf y = some .local := hy
  have hb : env.blockKind = .function := by unfold Env.blockKind; rw [hk]; rfl
  unfold swapsWith
  simp only [hb, ky, ha, Expr.pos, hl]
  rfl
/-! ### one clause -/
section
variable {X : Cx} {B : Hp × Store} {kx vx tg iter : Expr} {ifs : List Expr} {scope : Scope} {pos : Pos} {vs : List Nat} {g : TG} {gd : DTG} {tt : DTT} {tk tv : DTE}
def dcR1 (gd : DTG) (tt : DTT) (tk tv : DTE) (vs : List Nat) : DSt → List D → (Store → Prop) → (List (D × D) → Store → Prop) → Store → Prop := fun σ ds G Q S => dcL gd tt tk tv vs σ G Q ds [] S
theorem dcLoop1 (hc : X.calm = true) (hu : X.A.units + 64 < cLine) (gr : GRel vs g gd)
    (hg : ∀ (s : Shared) (H : Hp) (C : Addr) (cl : List (Str × Addr)) (fp : List Addr), PG (X.blk s H scope (compEnvC scope cl C X.env) fp) tg g) (ht : ∀ (s : Shared) (H : Hp) (C : Addr) (cl : List (Str × Addr)) (fp : List Addr), DTs (X.blk s H scope (compEnvC scope cl C X.env) fp) B ifs tt)
    (hk : ∀ (s : Shared) (H : Hp) (C : Addr) (cl : List (Str × Addr)) (fp : List Addr), DE (X.blk s H scope (compEnvC scope cl C X.env) fp) B kx tk) (he : ∀ (s : Shared) (H : Hp) (C : Addr) (cl : List (Str × Addr)) (fp : List Addr), DE (X.blk s H scope (compEnvC scope cl C X.env) fp) B vx tv) :
    DcLoop X B kx vx [⟨tg, iter, ifs, 0⟩] tg scope pos vs (dcR1 gd tt tk tv vs) := by
  intro s3 s4 H2 H3 C cl fp P it J tn ds G S σv σ n o xs Q RR T jok bs hP r2 sl t23 g23 r3 sp hD I4 st4 nfp q hR
  have stat : ∀ H' : Hp, (∀ b ∈ fp, H' b = none) → ∀ b ∈ fp, FpOk (X.blk s3 H3 scope (compEnvC scope cl C X.env) fp) [] H' b := fun H' hn b hb =>
    ⟨hn b hb, (I4.ok.exf b hb).1, I4.ok.exfs b hb, .inl hb, fun x c e => (I4.ok.exf b hb).2 x c e, fun p hp => absurd (show p ∈ ([] : List (Addr × Obj)) ++ [] from hp) (by simp)⟩
  exact dc_turns (X := X.blk s3 H3 scope (compEnvC scope cl C X.env) fp) (B := B) (Hb := H2) (H2 := H2) (Sb := S) (σ := σ) rfl hc hu dcRule_one T stat gr (hg _ _ _ _ _) (ht _ _ _ _ _) (hk _ _ _ _ _) (he _ _ _ _ _) jok bs hP sl r2
    (fun s' H' S' n' kvs' o' xs' I' r' g' sp' hD' _ _ q' => hR s' H' S' n' kvs' o' xs' I' r' g' sp' hD' q') I4 r3 g23 t23 sp hD st4 nfp q
end
end DL

namespace DL
open PySem PySem.Spec PyProof.Rows L2

/-! ### a dict comprehension with two clauses -/
def dcL2 (g0 : DTG) (tt0 : DTT) (ti1 : DTI) (g1 : DTG) (tt1 : DTT) (tk tv : DTE) (vs vs1 : List Nat) (σ : DSt) (G : Store → Prop) (Q : List (D × D) → Store → Prop) : List D → List (D × D) → Store → Prop
  | [], kvs, S => G S ∧ Q kvs S
  | x :: r, kvs, S => G S ∧ g0 x (dwipe σ vs) S fun σ2 S2 => tt0 σ2 S2 fun b S3 => if b = true then ti1 (dwipe σ2 vs1) S3 fun ds1 G1 S4 => dcL g1 tt1 tk tv vs1 σ2 G1 (fun kvs' S5 => dcL2 g0 tt0 ti1 g1 tt1 tk tv vs vs1 σ G Q r kvs' S5) ds1 kvs S4 else dcL2 g0 tt0 ti1 g1 tt1 tk tv vs vs1 σ G Q r kvs S3
theorem wipe_keep {σ : L2.St} {j : Nat} : ∀ {us : List Nat}, j ∉ us → (wipe σ us)[j]? = σ[j]?
  | [], _ => rfl
  | u :: us, h => by
    rw [List.mem_cons, not_or] at h
    show ((wipe σ us).set u none)[j]? = σ[j]?
    rw [List.getElem?_set_ne (Ne.symm h.1), wipe_keep h.2]
section
variable {X : Cx} {B : Hp × Store} {kx vx t0 i0 t1 i1 : Expr} {ifs0 ifs1 : List Expr} {scope : Scope} {pos : Pos} {vs vs1 : List Nat} {g0 g1 : TG} {gd0 gd1 : DTG} {tt0 tt1 : DTT} {ti1 : DTI} {tk tv : DTE}
def dcR2 (gd0 : DTG) (tt0 : DTT) (ti1 : DTI) (gd1 : DTG) (tt1 : DTT) (tk tv : DTE) (vs vs1 : List Nat) : DSt → List D → (Store → Prop) → (List (D × D) → Store → Prop) → Store → Prop := fun σ ds G Q S => dcL2 gd0 tt0 ti1 gd1 tt1 tk tv vs vs1 σ G Q ds [] S
theorem dcLoop2 (hc : X.calm = true) (hu : X.A.units + 64 < cLine) (gr0 : GRel vs g0 gd0) (gr1 : GRel vs1 g1 gd1) (hvs : ∀ i ∈ vs1, i ∈ vs)
    (hg0 : ∀ (s : Shared) (H : Hp) (C : Addr) (cl : List (Str × Addr)) (fp : List Addr), PG (X.blk s H scope (compEnvC scope cl C X.env) fp) t0 g0) (ht0 : ∀ (s : Shared) (H : Hp) (C : Addr) (cl : List (Str × Addr)) (fp : List Addr), DTs (X.blk s H scope (compEnvC scope cl C X.env) fp) B ifs0 tt0)
    (hi1 : ∀ (s : Shared) (H : Hp) (C : Addr) (cl : List (Str × Addr)) (fp : List Addr), DIt (X.blk s H scope (compEnvC scope cl C X.env) fp) B t1 i1 ti1)
    (hg1 : ∀ (s : Shared) (H : Hp) (C : Addr) (cl : List (Str × Addr)) (fp : List Addr), PG (X.blk s H scope (compEnvC scope cl C X.env) fp) t1 g1) (ht1 : ∀ (s : Shared) (H : Hp) (C : Addr) (cl : List (Str × Addr)) (fp : List Addr), DTs (X.blk s H scope (compEnvC scope cl C X.env) fp) B ifs1 tt1)
    (hk : ∀ (s : Shared) (H : Hp) (C : Addr) (cl : List (Str × Addr)) (fp : List Addr), DE (X.blk s H scope (compEnvC scope cl C X.env) fp) B kx tk) (he : ∀ (s : Shared) (H : Hp) (C : Addr) (cl : List (Str × Addr)) (fp : List Addr), DE (X.blk s H scope (compEnvC scope cl C X.env) fp) B vx tv)
    (hs1 : ∀ C cl x, foldedSetIterable i1 (compEnvC scope cl C X.env) x = pure x) :
    DcLoop X B kx vx [⟨t0, i0, ifs0, 0⟩, ⟨t1, i1, ifs1, 0⟩] t0 scope pos vs (dcR2 gd0 tt0 ti1 gd1 tt1 tk tv vs vs1) := by
  intro s3 s4 H2 H3 C cl fp P it J tn ds G S σv σ n o xs Q RR T jok bs hP r2 sl t23 g23 r3 sp hD I4 st4 nfp q hR
  have stat : ∀ H' : Hp, (∀ b ∈ fp, H' b = none) → ∀ b ∈ fp, FpOk (X.blk s3 H3 scope (compEnvC scope cl C X.env) fp) [] H' b := fun H' hn b hb =>
    ⟨hn b hb, (I4.ok.exf b hb).1, I4.ok.exfs b hb, .inl hb, fun x c e => (I4.ok.exf b hb).2 x c e, fun p hp => absurd (show p ∈ ([] : List (Addr × Obj)) ++ [] from hp) (by simp)⟩
  have pg0 := hg0 s3 H3 C cl fp
  have pt0 := ht0 s3 H3 C cl fp
  have pi1 := hi1 s3 H3 C cl fp
  have pg1 := hg1 s3 H3 C cl fp
  have pt1 := ht1 s3 H3 C cl fp
  have pk := hk s3 H3 C cl fp
  have pe := he s3 H3 C cl fp
  have hs1 := hs1 C cl
  generalize hY : X.blk s3 H3 scope (compEnvC scope cl C X.env) fp = Y at *
  have yP : Y.prog = X.prog := by rw [← hY]
  have yw : Y.w = X.w := by rw [← hY]
  have yK : Y.K = X.K := by rw [← hY]
  have yA : Y.A = X.A := by rw [← hY]
  have ye : Y.env = compEnvC scope cl C X.env := by rw [← hY]
  have yc : Y.calm = true := by rw [← hY]; exact hc
  have yx : Y.xe = fun _ _ => False := by rw [← hY]
  rw [← yP, ← yw, ← yK] at T jok r2 r3 hR
  rw [← yP, ← yw] at hD
  rw [← yP, ← yw, ← yA, ← ye]
  rw [← yA] at hu
  rw [← ye] at hs1
  clear hY
  refine dcLoop_out (fun x => hs1 x) (fun m s' => ∃ (i : Nat) (H' : Hp) (S' : Store) (n' : Nat) (kvs' : List (D × D)) (o' : Obj) (xs' : List (NestedKey × Addr × Value)), m = ds.length - i ∧ i ≤ ds.length ∧ Inv Y [] (wipe σv vs) H' s' ∧ RelS Y.prog Y.w Y.K H' S' ∧ Gx H2 S H' S' ∧ S' P = none ∧ DicAt Y.prog Y.w H' P n' kvs' o' xs' ∧ tn i s'.heap ∧ (∀ b ∈ fp, H' b = none) ∧ dcL2 gd0 tt0 ti1 gd1 tt1 tk tv vs vs1 σ G Q (ds.drop i) kvs' S') ?_ ds.length
    ⟨0, H3, S, n, [], o, xs, by simp, Nat.zero_le _, I4, r3, g23, sp, hD, st4, nfp, q⟩
  rintro m s5 ⟨i, H5, S5, n5, kvs5, o5, xs5, rfl, hi, I5, r5, g5, sp5, hD5, st5, fr5, w5⟩
  have x5 : Tx H2 H5 := g5.tx r2
  by_cases hlt : i < ds.length
  · have hd : ds[i]? = some ds[i] := List.getElem?_eq_getElem hlt
    rw [List.drop_eq_getElem_cons hlt] at w5
    obtain ⟨hG, w5⟩ := w5
    obtain ⟨go, step⟩ := (jok i H5 S5 x5 r5 hG).2 _ hd
    refine fmono (T.item Y rfl rfl rfl yc i [] s5 _ H5 (fun _ _ => False) I5 (stat _ fr5) st5 go) fun rr s6 ⟨u, hr, h6⟩ => ?_
    subst hr
    refine fmono h6 fun _ s7 ⟨x, H7, I7, r7, y7, st7, fr7⟩ => ?_
    obtain ⟨px, rs7, g7⟩ := step x H7 y7
    have I7' := I7.pinned (stat _ fr7) (T.obj _ _ st7)
    have gb7 := g5.trans g7
    have sl7 : SlR H7 (wipe σv vs) (dwipe σ vs) := slr_wipe (sl H7 (gb7.tx r2)) vs
    have a7 := g7 P _ hD5.at_ sp5
    have key := gr0 H7 S5 (wipe σv vs) (dwipe σ vs) x _ _ (fun σ8v H8 => H8 = H7 ∧ ∃ σ8, SlR H7 σ8v σ8 ∧ wipe σ8v vs = wipe σv vs ∧ tt0 σ8 S5 fun b S3 => if b = true then ti1 (dwipe σ8 vs1) S3 fun ds1 G1 S4 => dcL gd1 tt1 tk tv vs1 σ8 G1 (fun kvs' S5 => dcL2 gd0 tt0 ti1 gd1 tt1 tk tv vs vs1 σ G Q (ds.drop (i + 1)) kvs' S5) ds1 kvs5 S4 else dcL2 gd0 tt0 ti1 gd1 tt1 tk tv vs vs1 σ G Q (ds.drop (i + 1)) kvs5 S3) sl7 px w5 fun σ2v σ2 sl2 w2 q2 => ⟨rfl, σ2, sl2, w2.trans (wipe_wipe vs σv), q2⟩
    have hxe' : ∀ {α : Type} {t : Sem α} {Q1 : α → Shared → Prop} {s' : Shared}, wpAny (model Y.prog Y.w) Y.A t Q1 Y.xe s' → wpAny (model Y.prog Y.w) Y.A t Q1 (fun _ _ => False) s' := fun {α t Q1 s'} h => by rw [yx] at h; exact h
    refine fmono (hxe' (pg0.run _ s7 _ H7 x u _ I7' r7 key)) fun _ s8 ⟨σ8v, H8, I8, e8, σ8, sl8, hw8, q8⟩ => ?_
    subst e8
    refine fmono (hxe' (pt0.ex.run _ s8 σ8v _ (fun b H9 => ∃ S9, RelS Y.prog Y.w Y.K H9 S9 ∧ Gx H8 S5 H9 S9 ∧ (if b = true then ti1 (dwipe σ8 vs1) S9 fun ds1 G1 S4 => dcL gd1 tt1 tk tv vs1 σ8 G1 (fun kvs' S5 => dcL2 gd0 tt0 ti1 gd1 tt1 tk tv vs vs1 σ G Q (ds.drop (i + 1)) kvs' S5) ds1 kvs5 S4 else dcL2 gd0 tt0 ti1 gd1 tt1 tk tv vs vs1 σ G Q (ds.drop (i + 1)) kvs5 S9)) I8 ⟨σ8, S5, _, sl8, rs7, bs.trans gb7, q8, fun b S' H' q r g => ⟨S', r, g, q⟩⟩)) fun b s9 ⟨H9, I9, S9, r9, g9, q9⟩ => ?_
    have a9 := g9 P _ a7.1 a7.2
    -- the turn's end
    have fin : ∀ {s' : Shared} {H' : Hp} {S' : Store} {n' : Nat} {kvs' : List (D × D)} {o' : Obj} {xs' : List (NestedKey × Addr × Value)}, Inv Y ([] ++ pinsAt fp s7.heap) (wipe σ8v vs1) H' s' → RelS Y.prog Y.w Y.K H' S' → Gx H2 S H' S' → S' P = none → DicAt Y.prog Y.w H' P n' kvs' o' xs' → dcL2 gd0 tt0 ti1 gd1 tt1 tk tv vs vs1 σ G Q (ds.drop (i + 1)) kvs' S' →
        ∃ m, m < ds.length - i ∧ ∃ (i : Nat) (H' : Hp) (S' : Store) (n' : Nat) (kvs' : List (D × D)) (o' : Obj) (xs' : List (NestedKey × Addr × Value)), m = ds.length - i ∧ i ≤ ds.length ∧ Inv Y [] (wipe σv vs) H' s' ∧ RelS Y.prog Y.w Y.K H' S' ∧ Gx H2 S H' S' ∧ S' P = none ∧ DicAt Y.prog Y.w H' P n' kvs' o' xs' ∧ tn i s'.heap ∧ (∀ b ∈ fp, H' b = none) ∧ dcL2 gd0 tt0 ti1 gd1 tt1 tk tv vs vs1 σ G Q (ds.drop i) kvs' S' := fun {s' H' S' n' kvs' o' xs'} I' r' g' sp' hD' w' => by
      have pin' : ∀ b ∈ fp, ∀ o, s7.heap.get? b = some o → s'.heap.get? b = some o ∧ H' b = none := fun b hb o e =>
        let z := I'.pin (b, o) (List.mem_append_right _ (List.mem_append_right _ (mem_pinsAt hb e)))
        ⟨z.1, z.2.1⟩
      have hl : (wipe σv vs).length = (wipe σ8v vs1).length := by rw [← hw8, wipe_length, wipe_length]
      refine ⟨ds.length - (i + 1), by omega, i + 1, H', S', n', kvs', o', xs', rfl, hlt, (I'.unpinned (pins := [])).weak hl (fun j v e => ?_), r', g', sp', hD', T.keep _ _ _ st7 fun b hb o e => (pin' b hb o e).1, fun b hb => ?_, w'⟩
      · rw [← hw8] at e
        obtain ⟨e1, e2⟩ := wipe_some e
        rw [wipe_keep (fun z => e2 (hvs j z))]
        exact e1
      · obtain ⟨o, e, _⟩ := T.obj _ _ st7 b hb
        exact (pin' b hb o e).2
    have I9' : Inv Y ([] ++ pinsAt fp s7.heap) (wipe σ8v vs1) H9 s9 := I9.weak (wipe_length _ _) fun j v e => (wipe_some e).1
    have t79 : Tx H5 H9 := (g7.trans g9).tx r5
    have hD9 : DicAt Y.prog Y.w H9 P n5 kvs5 o5 xs5 := ⟨a9.1, hD5.exact_, hD5.es, hD5.nd, Paired.mapW hD5.rel fun p x ⟨q1, q2, q3, q4, q5, v, q6, q7⟩ => ⟨q1, q2, q3, q4, q5.mono t79, v, q6, q7.mono t79⟩, hD5.len, hD5.sys⟩
    cases b with
    | false =>
      rw [if_neg Bool.false_ne_true] at q9
      refine iteF ?_
      exact fin I9' r9 (gb7.trans g9) a9.2 hD9 q9
    | true =>
      rw [if_pos rfl] at q9
      refine iteT ?_
      have sl9 : SlR H9 σ8v σ8 := sl8.mono (g9.tx rs7)
      have D9 : DI Y B ([] ++ pinsAt fp s7.heap) (wipe σ8v vs1) H9 (dwipe σ8 vs1) S9 s9 := ⟨I9', slr_wipe sl9 vs1, r9, bs.trans (gb7.trans g9)⟩
      refine fmono (hxe' (pi1.run _ s9 _ H9 _ S9 _ D9 q9)) fun xv s10 h10 => fmono (hxe' h10) fun itv s11 h11 => ?_
      obtain ⟨it1, fp1, tn1, J1, H11, e, I11, T1, st11, f11, ds1, G1, S11, hz11, r11, g11, jok1, q11⟩ := h11
      subst e
      have a11 := g11 P _ a9.1 a9.2
      have t911 : Tx H9 H11 := g11.tx r9
      have hD11 : DicAt Y.prog Y.w H11 P n5 kvs5 o5 xs5 := ⟨a11.1, hD9.exact_, hD9.es, hD9.nd, Paired.mapW hD9.rel fun p x ⟨q1, q2, q3, q4, q5, v, q6, q7⟩ => ⟨q1, q2, q3, q4, q5.mono t911, v, q6, q7.mono t911⟩, hD9.len, hD9.sys⟩
      have gb11 : Gx H2 S H11 S11 := (gb7.trans g9).trans g11
      have loop := dc_turns (X := Y) (B := B) (Hb := H2) (Sb := S) (H2 := H11) (σv := σ8v) (σ := σ8) (pins := [] ++ pinsAt fp s7.heap) (R := fun r s' => match r with
                | .ok _ => ∃ m, m < ds.length - i ∧ ∃ (i : Nat) (H' : Hp) (S' : Store) (n' : Nat) (kvs' : List (D × D)) (o' : Obj) (xs' : List (NestedKey × Addr × Value)), m = ds.length - i ∧ i ≤ ds.length ∧ Inv Y [] (wipe σv vs) H' s' ∧ RelS Y.prog Y.w Y.K H' S' ∧ Gx H2 S H' S' ∧ S' P = none ∧ DicAt Y.prog Y.w H' P n' kvs' o' xs' ∧ tn i s'.heap ∧ (∀ b ∈ fp, H' b = none) ∧ dcL2 gd0 tt0 ti1 gd1 tt1 tk tv vs vs1 σ G Q (ds.drop i) kvs' S'
                | .error _ => False) yx yc hu (dcRule_in (t0 := t0) (i0 := i0) (i1 := i1) (ifs0 := ifs0) (scope := scope) (pos := pos)) T1 (fun H' hn b hb => ⟨hn b hb, (f11 b hb).2⟩) gr1 pg1 pt1 pk pe jok1 bs hP (fun H' t => sl9.mono (t911.trans t)) r2
        (fun s' H' S' n' kvs' o' xs' I' r' g' sp' hD' _ _ q' => fin I' r' g' sp' hD' q') I11 r11 gb11 (Tx.refl _) a11.2 hD11 st11 (fun b hb => (f11 b hb).1) q11
      exact dcStart1 loop (T1.self Y.A 0 _ _ _ st11 loop)
  · have e : i = ds.length := by omega
    subst e
    rw [List.drop_length] at w5
    obtain ⟨hG, w5⟩ := w5
    have stop := (jok _ H5 S5 x5 r5 hG).1 rfl
    refine fmono (T.done Y rfl rfl rfl yc _ [] s5 _ H5 (fun _ _ => False) I5 (stat _ fr5) st5 stop) fun rr s6 ⟨hr, I6⟩ => ?_
    subst hr
    exact hR s6 H5 S5 n5 kvs5 o5 xs5 I6 r5 g5 sp5 hD5 w5
end
end DL

namespace DL
open PySem PySem.Spec PyProof.Rows L2

def sA (P : Program) (w : World) (K : PySem.W.Frag) (B : Hp × Store) (n : Nat) (t : DTA) : TA := fun σv H Q => ∃ σ S Qd, SlR H σv σ ∧ RelS P w K H S ∧ Gx B.1 B.2 H S ∧ t σ S Qd ∧ ∀ ds S' vs H', ds.length = n → Qd ds S' → Rps H' ds vs → RelS P w K H' S' → Gx H S H' S' → Q vs H'
theorem DA.pa {X : Cx} {B : Hp × Store} {es : List Expr} {t : DTA} (h : DA X B es t) : PA X es (sA X.prog X.w X.K B es.length t) := ⟨fun pos pins s σv H Q I ⟨σ, S, Qd, sl, rs, bs, q, k⟩ =>
  thn (h.run pos pins s σv H σ S Qd ⟨I, sl, rs, bs⟩ q) fun us s' ⟨vs, ds, H', S', hn, J, r, g, ru, p, q⟩ => ⟨vs, H', J, ru, k ds S' vs H' hn q p r g⟩⟩

/-! ### zip, enumerate -/
def zipD (xs ys : List D) : List D := (xs.zip ys).map fun p => .tup [p.1, p.2]
def enumD (xs : List D) : List D := xs.zipIdx.map fun p => .tup [.int (p.2 : Nat), p.1]
theorem jok_zipT {P : Program} {w : World} {K : PySem.W.Frag} {H0 : Hp} {a b : Addr} {xs ys : List V} {ds es : List D} (h1 : H0 a = some (.tup xs)) (h2 : Rps H0 ds xs) (h3 : H0 b = some (.tup ys)) (h4 : Rps H0 es ys) : JOk P w K (RZ.ItzT K a b) H0 (zipD ds es) (fun _ => True) := fun i H S t r _ => by
  have e1 : SqT K H a xs := .of (t _ _ h1)
  have e2 : SqT K H b ys := .of (t _ _ h3)
  have p := h2.mono t
  have p' := h4.mono t
  have hl : (zipD ds es).length = min ds.length es.length := by simp [zipD]
  refine ⟨fun e => ⟨xs, ys, e1, e2, ?_⟩, fun d hd => ?_⟩
  · rw [p.length, p'.length, e, hl]; omega
  unfold zipD at hd
  rw [List.getElem?_map] at hd
  cases hz : (ds.zip es)[i]? with
  | none => rw [hz] at hd; cases hd
  | some q =>
    rw [hz] at hd
    have hd : D.tup [q.1, q.2] = d := by simpa using hd
    rw [List.getElem?_zip_eq_some] at hz
    obtain ⟨v, hv, pv⟩ := p.get hz.1
    obtain ⟨v', hv', pv'⟩ := p'.get hz.2
    refine ⟨⟨xs, ys, v, v', e1, e2, hv, hv'⟩, fun x H' ⟨T, x1, y1, ex, hT, eH, k1, k2⟩ => ?_⟩
    subst ex; subst eH; subst hd
    have := k1 xs e1; rw [hv] at this; cases this
    have := k2 ys e2; rw [hv'] at this; cases this
    exact ⟨⟨T, _, rfl, upd_same, ⟨v, _, rfl, pv.mono (Tx.new hT), v', _, rfl, pv'.mono (Tx.new hT), rfl⟩⟩, r.grow hT, Gx.grow hT⟩
theorem jok_zipL {P : Program} {w : World} {K : PySem.W.Frag} {H0 : Hp} {a b : Addr} {ds es : List D} : JOk P w K (Itz K a b) H0 (zipD ds es) (fun S => S a = some (.lst ds) ∧ S b = some (.lst es)) := fun i H S t r g => by
  obtain ⟨xs, h1, p⟩ := r a _ g.1
  obtain ⟨ys, h3, p'⟩ := r b _ g.2
  have e1 : SqL K H a xs := .of h1
  have e2 : SqL K H b ys := .of h3
  have hl : (zipD ds es).length = min ds.length es.length := by simp [zipD]
  refine ⟨fun e => ⟨xs, ys, e1, e2, ?_⟩, fun d hd => ?_⟩
  · rw [p.length, p'.length, e, hl]; omega
  unfold zipD at hd
  rw [List.getElem?_map] at hd
  cases hz : (ds.zip es)[i]? with
  | none => rw [hz] at hd; cases hd
  | some q =>
    rw [hz] at hd
    have hd : D.tup [q.1, q.2] = d := by simpa using hd
    rw [List.getElem?_zip_eq_some] at hz
    obtain ⟨v, hv, pv⟩ := p.get hz.1
    obtain ⟨v', hv', pv'⟩ := p'.get hz.2
    refine ⟨⟨xs, ys, v, v', e1, e2, hv, hv'⟩, fun x H' ⟨T, x1, y1, ex, hT, eH, k1, k2⟩ => ?_⟩
    subst ex; subst eH; subst hd
    have := k1 xs e1; rw [hv] at this; cases this
    have := k2 ys e2; rw [hv'] at this; cases this
    exact ⟨⟨T, _, rfl, upd_same, ⟨v, _, rfl, pv.mono (Tx.new hT), v', _, rfl, pv'.mono (Tx.new hT), rfl⟩⟩, r.grow hT, Gx.grow hT⟩
theorem jok_enum {P : Program} {w : World} {K : PySem.W.Frag} {H0 : Hp} {a : Addr} {ds : List D} : JOk P w K (Ite K a) H0 (enumD ds) (fun S => S a = some (.lst ds)) := fun i H S t r g => by
  obtain ⟨xs, h1, p⟩ := r a _ g
  have e1 : SqL K H a xs := .of h1
  have hl : (enumD ds).length = ds.length := by simp [enumD]
  refine ⟨fun e => ⟨xs, e1, by rw [p.length, e, hl]; exact Nat.le_refl _⟩, fun d hd => ?_⟩
  unfold enumD at hd
  rw [List.getElem?_map, List.getElem?_zipIdx] at hd
  cases hz : ds[i]? with
  | none => rw [hz] at hd; cases hd
  | some q =>
    rw [hz] at hd
    have hd : D.tup [.int ((0 + i : Nat) : Int), q] = d := by simpa using hd
    rw [Nat.zero_add] at hd
    obtain ⟨v, hv, pv⟩ := p.get hz
    refine ⟨⟨xs, v, e1, hv⟩, fun x H' ⟨T, x1, ex, hT, eH, k1⟩ => ?_⟩
    subst ex; subst eH; subst hd
    have := k1 xs e1; rw [hv] at this; cases this
    exact ⟨⟨T, _, rfl, upd_same, ⟨_, _, rfl, rfl, v, _, rfl, pv.mono (Tx.new hT), rfl⟩⟩, r.grow hT, Gx.grow hT⟩
def dZip (t : DTA) : DTI := fun σ S R => t σ S fun ds S1 => match ds with
  | [.tup xs, .tup ys] => (xs.length ≤ 10000) ∧ R (zipD xs ys) (fun _ => True) S1
  | [.loc a, .loc b] => match S1 a, S1 b with
    | some (.lst xs), some (.lst ys) => (xs.length ≤ 10000) ∧ R (zipD xs ys) (fun S => S a = some (.lst xs) ∧ S b = some (.lst ys)) S1
    | _, _ => False
  | _ => False
def dEnum (t : DTA) : DTI := fun σ S R => t σ S fun ds S1 => match ds with
  | [.loc a] => match S1 a with
    | some (.lst xs) => (xs.length ≤ 10000) ∧ R (enumD xs) (fun S => S a = some (.lst xs)) S1
    | _ => False
  | _ => False
section
variable {X : Cx} {B : Hp × Store} {e e2 : Expr} {t : DTA} {p pos tpos : Pos} {elts : List Expr} {kk : Nat}
theorem di_zip (hg : Gl X "zip") (hm : X.mg "zip" = none) (ha : DA X B [e, e2] t)
    (hs : starEach [e, e2] X.env = (false, eval e X.env) :: starEach [e2] X.env := by rfl) (hpl : (backTo pos (starEach [e2] X.env)).any (·.1) = false := by rfl) :
    DIt X B (.Tuple elts kk tpos) (.Call (.Name "zip" p) [e, e2] [] pos) (dZip t) := by
  refine ⟨fun pins s σv H σ S R I h => (RZ.pi_zipA hg hm ha.pa hs hpl).run pins s σv H _ I.inv ⟨σ, S, _, I.sl, I.st, I.bs, h, fun ds S' vs H' hn q p r g => ?_⟩⟩
  split at q
  · rename_i xs ys
    obtain ⟨hl, q⟩ := q
    obtain ⟨v, _, rfl, p1, v', _, rfl, p2, e3⟩ := p
    cases (show _ = [] from e3)
    obtain ⟨a, us, rfl, h1, h2⟩ := p1
    obtain ⟨b, us', rfl, h3, h4⟩ := p2
    exact ⟨a, b, us, us', rfl, .inr ⟨.of h1, .of h3, zipD xs ys, _, S', by simp [zipD]; exact Nat.le_trans (Nat.min_le_left _ _) (sz4 hl), r, g, jok_zipT h1 h2 h3 h4, q⟩⟩
  · rename_i a b
    split at q
    · rename_i xs ys ea eb
      obtain ⟨hl, q⟩ := q
      obtain ⟨v, _, rfl, p1, v', _, rfl, p2, e3⟩ := p
      cases (show _ = [] from e3)
      cases (show v = .ref a from p1)
      cases (show v' = .ref b from p2)
      obtain ⟨us, h1, h2⟩ := r a _ ea
      obtain ⟨us', h3, h4⟩ := r b _ eb
      exact ⟨a, b, us, us', rfl, .inl ⟨.of h1, .of h3, zipD xs ys, _, S', by simp [zipD]; exact Nat.le_trans (Nat.min_le_left _ _) (sz4 hl), r, g, jok_zipL, q⟩⟩
    · exact q.elim
  · exact q.elim
theorem di_enum (hg : Gl X "enumerate") (hm : X.mg "enumerate" = none) (ha : DA X B [e] t) (hs : starEach [e] X.env = [(false, eval e X.env)] := by rfl) :
    DIt X B (.Tuple elts kk tpos) (.Call (.Name "enumerate" p) [e] [] pos) (dEnum t) := by
  refine ⟨fun pins s σv H σ S R I h => (pi_enum hg hm ha.pa hs).run pins s σv H _ I.inv ⟨σ, S, _, I.sl, I.st, I.bs, h, fun ds S' vs H' hn q p r g => ?_⟩⟩
  split at q
  · rename_i a
    split at q
    · rename_i xs ea
      obtain ⟨hl, q⟩ := q
      obtain ⟨v, _, rfl, p1, e3⟩ := p
      cases (show _ = [] from e3)
      cases (show v = .ref a from p1)
      obtain ⟨us, h1, h2⟩ := r a _ ea
      exact ⟨a, us, rfl, .of h1, enumD xs, _, S', by simp [enumD]; exact sz4 hl, r, g, jok_enum, q⟩
    · exact q.elim
  · exact q.elim
end
/-! ### max, min of two ints; int -/
def rMax2D : List D → Store → DQ → Prop := fun ds S Q => match ds with
  | [.int i, .int j] => Q (.int (max i j)) S
  | _ => False
def rMin2D : List D → Store → DQ → Prop := fun ds S Q => match ds with
  | [.int i, .int j] => Q (.int (min i j)) S
  | _ => False
section
variable {X : Cx}
theorem call_max2D (hc : X.calm = true) : DCallR X (.builtin "max") rMax2D := .of (call_max2 hc) fun H S xs ds Q r pv q => by
  unfold rMax2D at q
  split at q
  · rename_i i j
    obtain ⟨v, _, rfl, p1, v', _, rfl, p2, e3⟩ := pv
    cases (show _ = [] from e3)
    cases (show v = .int i from p1)
    cases (show v' = .int j from p2)
    refine ⟨i, j, rfl, .int (max i j), S, r, Gx.refl, ?_, q⟩
    show V.int _ = V.int _
    congr 1
    split <;> omega
  · exact q.elim
theorem call_min2D (hc : X.calm = true) : DCallR X (.builtin "min") rMin2D := .of (call_min2 hc) fun H S xs ds Q r pv q => by
  unfold rMin2D at q
  split at q
  · rename_i i j
    obtain ⟨v, _, rfl, p1, v', _, rfl, p2, e3⟩ := pv
    cases (show _ = [] from e3)
    cases (show v = .int i from p1)
    cases (show v' = .int j from p2)
    refine ⟨i, j, rfl, .int (min i j), S, r, Gx.refl, ?_, q⟩
    show V.int _ = V.int _
    congr 1
    split <;> omega
  · exact q.elim
def rInt1D : List D → Store → DQ → Prop := fun ds S Q => match ds with
  | [.int i] => Q (.int i) S
  | [.bl b] => Q (.int (if b then 1 else 0)) S
  | _ => False
theorem call_int1D : DCallR X (.type "int") rInt1D := .of call_int1 fun H S xs ds Q r pv q => by
  unfold rInt1D at q
  split at q
  · rename_i i
    obtain ⟨v, _, rfl, p1, e3⟩ := pv
    cases (show _ = [] from e3)
    cases (show v = .int i from p1)
    exact .inl ⟨i, rfl, .int i, S, r, Gx.refl, rfl, q⟩
  · rename_i b
    obtain ⟨v, _, rfl, p1, e3⟩ := pv
    cases (show _ = [] from e3)
    cases (show v = .bl b from p1)
    exact .inr ⟨b, rfl, .int _, S, r, Gx.refl, rfl, q⟩
  · exact q.elim
end
end DL

namespace DL
open PySem PySem.Spec PyProof.Rows L2

/-! ### defs by name -/
structure Has (P : Program) (w : World) (K : PySem.W.Frag) (mg : Str → Option Value) (base : Heap) (k : Nat) (x : Str) (ps : List Str) (sp : DSp) : Prop where
  ex : ∃ f fd, DFn P w K mg base k f fd ps sp ∧ mg x = some (.ref f) ∧ PySem.W.keepIn K (.ref f) = true ∧ Binds K fd ps []
/-- a def of the top -/
structure FunAt (K : PySem.W.Frag) (mg : Str → Option Value) (x : Str) (st : Stmt) (ps : List Str) : Prop where
  ex : ∃ f fd, Fun K x x st f fd ∧ mg x = some (.ref f) ∧ Binds K fd ps []
theorem fun_of {K : PySem.W.Frag} {x qual : Str} {st : Stmt} {f : Addr} {fd : FuncData} (F : FunD K x qual (defArgs st) (defBody st) (defScope st) [] [] f fd) : Fun K x qual st f fd := by
  obtain ⟨oc, od, dV, kV, doc, pm, an, cdv, ct, osl, e, lk, hcd, hD, hK⟩ := F.ex
  rcases hD with ⟨_, rfl⟩ | ⟨e, _⟩
  · exact ⟨⟨oc, od, kV, doc, pm, an, cdv, ct, osl, e, lk, hcd⟩, F.kp⟩
  · exact absurd rfl e
theorem okH {P : Program} {w : World} {K : PySem.W.Frag} {mg : Str → Option Value} {base : Heap} {x : Str} {st : Stmt} {N ps : List Str} {k : Nat} {sp : DSp} (F : FunAt K mg x st ps) (Sc : FnScope N ps (defScope st)) (len : ∀ args S Q E, sp args S Q E → args.length = ps.length)
    (hbody : ∀ (f : Addr) (cdv : Value) (A : Around) (outer : List Env) (s : Shared) (H : Hp) (E : XK), Room k (A.deeper (envOfC x (defScope st) s.heap.objs.size f cdv)) → ∀ (args : List D) (S : Store) (Q : DQ) (Ed : DXK), sp args S Q Ed →
      DTakes (cxOf (L2.CX P w) P w K mg base N x (defScope st) f cdv A outer s H E) (H, S) (fun cls od _ S' => Ed cls od S') →
      ∃ t, DSs (cxOf (L2.CX P w) P w K mg base N x (defScope st) f cdv A outer s H E) (H, S) (defBody st) t ∧ t { nx := fun _ S' => Q .non S', rt := Q } (dstart N args) S) : Has P w K mg base (k + 1) x ps sp := by
  obtain ⟨f, fd, F, hm, hb⟩ := F.ex
  exact ⟨f, fd, okD F Sc len (hbody f), hm, F.kp, hb⟩
section
variable {X : Cx} {B : Hp × Store} {k k' : Nat} {ps : List Str} {sp : DSp} {W : DWX} {x : Str} {p pos : Pos} {e : Expr} {es : List Expr} {t : DTA}
theorem de_callH (h : Has X.prog X.w X.K X.mg X.base k x ps sp) (hr : Room k' X.A) (hk : k ≤ k') (tk : DTakes X B W) (ha : DA X B (e :: es) t) (hg : Gl X x := by rfl) (hdb : (x == ("__debug__" : Str)) = false := by decide)
    (he : starEach (e :: es) X.env = (false, eval e X.env) :: starEach es X.env := by rfl) (hpl : (backTo pos (starEach es X.env)).any (·.1) = false := by rfl) :
    DE X B (.Call (.Name x p) (e :: es) [] pos) (dCall sp W t) := by
  obtain ⟨f, fd, F, hm, hkp, hb⟩ := h.ex
  exact de_call F (hr.mono hk) hg hm hkp hb tk ha hdb he hpl
theorem de_gint {i : Int} (h : ∃ t, X.mg x = some (.int i t)) (hg : Gl X x := by rfl) (hd : (x == ("__debug__" : Str)) = false := by decide) : DE X B (.Name x pos) (dC (.int i)) := by
  obtain ⟨t, h⟩ := h
  exact de_glob (v := .int i) hg h ⟨t, rfl⟩ (fun _ => rfl) hd
end
/-! ### methods -/
section
variable {X : Cx} {B : Hp × Store} {o e : Expr} {es : List Expr} {to : DTE} {t : DTA} {apos cpos : Pos}
theorem m_app (ho : DE X B o to) (ha : DA X B [e] t) (hbase : attributeBase o "append" X.env (eval o X.env) = eval o X.env := by rfl)
    (hfew : ((backTo cpos (starEach [e] X.env)).all (fun x => !x.1) && (backToKw cpos (keywordEach [] X.env)).all (fun x => x.1.isSome) && decide ([e].length + ([] : List Keyword).length + (if ([] : List Keyword).isEmpty then 0 else 1) < 30)) = true := by rfl)
    (hline : (apos.endLine == cpos.line) = true := by rfl) (hs : starEach [e] X.env = (false, eval e X.env) :: starEach [] X.env := by rfl) (hplain : (backTo cpos (starEach [] X.env)).any (·.1) = false := by rfl) :
    DE X B (.Call (.Attribute o "append" apos) [e] [] cpos) (dBM "list" rAppD to t) := de_bm PySem.F.plainAttrs_list PySem.F.slot_list_append PySem.F.type_list_append mt_appD ho ha hbase hfew hline hs hplain
theorem m_pop0 (ho : DE X B o to) (hbase : attributeBase o "pop" X.env (eval o X.env) = eval o X.env := by rfl) (hline : (apos.endLine == cpos.line) = true := by rfl) :
    DE X B (.Call (.Attribute o "pop" apos) [] [] cpos) (dBM0 "list" rPopD to) := de_bm0 PySem.F.plainAttrs_list PySem.F.slot_list_pop PySem.F.type_list_pop mt_popD ho hbase hline
theorem m_popK (hu : X.A.units + 64 < cLine) (ho : DE X B o to) (ha : DA X B [e] t) (hbase : attributeBase o "pop" X.env (eval o X.env) = eval o X.env := by rfl)
    (hfew : ((backTo cpos (starEach [e] X.env)).all (fun x => !x.1) && (backToKw cpos (keywordEach [] X.env)).all (fun x => x.1.isSome) && decide ([e].length + ([] : List Keyword).length + (if ([] : List Keyword).isEmpty then 0 else 1) < 30)) = true := by rfl)
    (hline : (apos.endLine == cpos.line) = true := by rfl) (hs : starEach [e] X.env = (false, eval e X.env) :: starEach [] X.env := by rfl) (hplain : (backTo cpos (starEach [] X.env)).any (·.1) = false := by rfl) :
    DE X B (.Call (.Attribute o "pop" apos) [e] [] cpos) (dBM "dict" rPopK to t) := de_bm PySem.F.plainAttrs_dict PySem.F.slot_dict_pop PySem.F.type_dict_pop (mt_popK hu) ho ha hbase hfew hline hs hplain
end
/-! ### scopes of comprehensions -/
def blkB (N : List Str) (sc scope : Scope) (own : List (Str × Nat)) : Bool :=
  decide (scope.kind = .function) && scope.names.all (fun y => decide (scope.names.lookup y.1 = some y.2)) && own.all (fun p => decide (N[p.2]? = some p.1)) &&
  scope.names.all (fun y => !decide (y.2 = .free) || decide (sc.names.lookup y.1 = some .cell) || decide (sc.names.lookup y.1 = some .free)) &&
  scope.names.all (fun y => !(decide (y.2 = .local) || decide (y.2 = .cell)) || (own.map (·.1)).contains y.1 || !N.contains y.1)
theorem blkOk_of {N : List Str} {sc scope : Scope} {own : List (Str × Nat)} (h : blkB N sc scope own = true) : BlkOk N sc scope own := by
  unfold blkB at h
  simp only [Bool.and_eq_true, List.all_eq_true, decide_eq_true_eq] at h
  obtain ⟨⟨⟨⟨h1, h2⟩, h3⟩, h4⟩, h5⟩ := h
  refine ⟨h1, h2, h3, fun y hy e => ?_, fun y hy e => ?_⟩
  · have := h4 y hy
    simp only [e, Bool.or_eq_true, decide_eq_true_eq] at this
    rcases this with (h | h) | h
    · simp at h
    · exact .inl h
    · exact .inr h
  · have := h5 y hy
    simp only [Bool.or_eq_true, Bool.not_eq_true', Bool.or_eq_false_iff, decide_eq_false_iff_not, List.contains_iff_mem, List.contains_eq_mem, decide_eq_true_eq] at this
    rcases this with (⟨h, h'⟩ | h) | h
    · rcases e with e | e
      · exact absurd e h
      · exact absurd e h'
    · exact .inl h
    · exact .inr (by simpa using h)
def scB (N ps : List Str) (sc : Scope) : Bool := decide (sc.kind = .function) && !sc.isCoroutine && !sc.isGenerator && decide N.Nodup && decide (N.take ps.length = ps) && ps.all (fun x => decide (sc.names.lookup x = some .local) || decide (sc.names.lookup x = some .cell)) && sc.names.all (fun y => !decide (y.2 = .free))
theorem fnScope_of {N ps : List Str} {sc : Scope} (h : scB N ps sc = true) : FnScope N ps sc := by
  unfold scB at h
  simp only [Bool.and_eq_true, List.all_eq_true, decide_eq_true_eq, Bool.not_eq_true', Bool.or_eq_true, decide_eq_false_iff_not] at h
  obtain ⟨⟨⟨⟨⟨⟨h1, h2⟩, h3⟩, h4⟩, h5⟩, h6⟩, h7⟩ := h
  exact ⟨h1, h2, h3, h4, h5, h6, h7⟩
theorem hu_of {k : Nat} {A : Around} (hr : Room k A) : A.units + 64 < cLine := by have := hr.un; omega
end DL

namespace DL
open PySem PySem.Spec PyProof.Rows L2

/-! ### raise -/
section
variable {X : Cx} {B : Hp × Store} {W : DWX}
def dRaise (n : Str) (W : DWX) : DTS := fun _ σ S => W n none σ S
/-- what the head says of an own class of exceptions without __init__ -/
structure ExcN (K : PySem.W.Frag) (mg : Str → Option Value) (n : Str) : Prop where
  ex : PySem.W.excIn K (He.ga K n) He.veBase "ValueError.__new__" = true
  kp : PySem.W.keepIn K (.ref (He.ga K n)) = true
  sub : PySem.W.subIn K (.ref (He.ga K n)) (.type "BaseException") = some true
  ty : PySem.W.typeIn K (.ref (He.ga K n)) = some (.type "type")
  gl : mg n = some (.ref (He.ga K n))
theorem ds_raise0 {x m : Str} {j : Nat} {p p2 pos pos' : Pos} (hc : X.calm = true) (tk : DTakes X B W) (h : ExcN X.K X.mg x) (hg : Gl X x) (hdb : (x == ("__debug__" : Str)) = false := by decide) :
    DS X B (.Raise (some (.Call (.Name x p) [.Constant (.str m) j p2] [] pos)) none pos') (dRaise x W) := by
  refine ⟨fun pins s σv H σ S D I hw => ?_⟩
  refine thn ((ps_raise hc tk (pmk_own PySem.F.excBase_ValueError h.ex h.gl h.kp (raises_own h.sub h.ty) hg hdb)).run pins s σv H { nx := fun _ _ => False, rt := fun _ _ => False, bk := fun _ _ => False, ct := fun _ _ => False } I.inv ⟨x, σ, S, rfl, I.sl, I.st, I.bs, hw⟩) fun f s' q => ?_
  cases f with
  | next => obtain ⟨_, _, _, z⟩ := q; exact z.elim
  | brk => obtain ⟨_, _, _, z⟩ := q; exact z.elim
  | cont => obtain ⟨_, _, _, z⟩ := q; exact z.elim
  | ret u => obtain ⟨_, _, _, _, _, z⟩ := q; exact z.elim
end
end DL

namespace DL
open PySem PySem.Spec PyProof.Rows L2

/-! ### several except clauses, with names or without -/
abbrev HTs := Addr → Value → Option Addr → TS
/-- behind a suite whose name goes -/
def endsOf (oi : Option Nat) (D : Ends) : Ends := match oi with
  | none => D
  | some i => { nx := fun σ' H' => D.nx (σ'.set i none) H', rt := D.rt, bk := fun σ' H' => D.bk (σ'.set i none) H', ct := fun σ' H' => D.ct (σ'.set i none) H' }
def setOf (oi : Option Nat) (σ : L2.St) (a : Addr) : L2.St := match oi with
  | none => σ
  | some i => σ.set i (some (.ref a))
def wMix (K : PySem.W.Frag) (Wout : WX) (D : Ends) : List (Value × Option Nat × HTs) → WX
  | [] => Wout
  | (c, oi, ts) :: r => fun cls d σ H => ∃ b, PySem.W.exmOne K cls c = some b ∧ (b = true → ∀ a, H a = none → ts a cls d (endsOf oi D) (setOf oi σ a) H) ∧ (b = false → wMix K Wout D r cls d σ H)
inductive HdsMix (X : Cx) : List ExceptHandler → List (Value × Option Nat × HTs) → Prop
  | nil : HdsMix X [] []
  | cons {x : Str} {c : Value} {ts : HTs} {b₀ : Stmt} {suite : List Stmt} {np pos' : Pos} {hds : List ExceptHandler} {l : List (Value × Option Nat × HTs)} (hc : Names X x c)
      (hsu : ∀ (a : Addr) (oe : Obj) (cls : Value) (d : Option Addr) (pn : List (Addr × Obj)), Zc cls d oe → (∃ vs, oe.data = .fields vs) → PSs (X.suite a ((a, oe) :: pn)) (b₀ :: suite) (ts a cls d)) (r : HdsMix X hds l) :
      HdsMix X (.ExceptHandler (some (.Name x np)) none (b₀ :: suite) pos' :: hds) ((c, none, ts) :: l)
  | named {x n : Str} {i : Nat} {c : Value} {ts : HTs} {b₀ : Stmt} {suite : List Stmt} {np pos' : Pos} {hds : List ExceptHandler} {l : List (Value × Option Nat × HTs)} (hN : X.N.Nodup) (hi : X.N[i]? = some n) (hln : X.env.kindOf n = some .local) (hc : Names X x c)
      (hsu : ∀ (a : Addr) (oe : Obj) (cls : Value) (d : Option Addr) (pn : List (Addr × Obj)), Zc cls d oe → (∃ vs, oe.data = .fields vs) → PSs (X.suite a ((a, oe) :: pn)) (b₀ :: suite) (ts a cls d)) (r : HdsMix X hds l) :
      HdsMix X (.ExceptHandler (some (.Name x np)) (some n) (b₀ :: suite) pos' :: hds) ((c, some i, ts) :: l)
section
variable {X : Cx} {body : List Stmt} {h₀ : ExceptHandler} {hds : List ExceptHandler} {l : List (Value × Option Nat × HTs)} {pos : Pos} {tb : WX → TS} {Wout : WX}
theorem ps_try_mix (hs : X.stack = X.env :: X.outer) (hf : X.env.frame = some X.env.locals) (tk : Takes X Wout)
    (hb : ∀ (W : WX) (pn : List (Addr × Obj)) (xe : Value → Shared → Prop), Takes (X.tr pn xe) W → PassesOwn (model X.prog X.w) X.A X.env xe → PSs (X.tr pn xe) body (tb W))
    (hh : HdsMix X (h₀ :: hds) l) : PS X (.Try body (h₀ :: hds) [] [] pos) (fun D σ H => tb (wMix X.K Wout D l) D σ H) := by
  refine ⟨fun pins s σ H D I h => ?_⟩
  have ok := I.ok
  have hfr : X.A.frames = some (X.env :: X.outer) := by rw [ok.frames, hs]
  refine wpAny_Try_except ?_
  refine wpAny_mono ((hb (wMix X.K Wout D l) (X.pn ++ pins) (fun e s₁ => wpAny (model X.prog X.w) X.A (noteFrame e X.env) (fun _ s₂ => wpAny (model X.prog X.w) X.A (setFlight e none) (fun _ s₃ =>
    wpAny (model X.prog X.w) X.A (handleBy e X.env (h₀ :: hds)) (SP X pins D) X.xe s₃) X.xe s₂) X.xe s₁) (fun u s' xx => ?_) PassesOwn.looking).run [] s σ H D (I.toTry _) h) (fun f s1 hsp => ?_) (fun e s1 he => he)
  · obtain ⟨a, B, sI, pins', σ', H', cls, d, rfl, J', nb, up, sky, na, os, ag, w⟩ := xx
    have J : Inv X pins σ' H' sI := J'.ofTry ok
    have sky' : Sky B (X.env :: X.outer) a (Zc cls d) X.env.locals s'.heap := by rw [← hs]; exact sky
    show wpAny (model X.prog X.w) X.A (noteFrame (.ref a) X.env) _ _ _
    refine Sky.land Zc.steady hfr hf sky' fun h3 fl3 up3 => ?_
    have J3 : Inv X pins σ' H' { s' with heap := h3 } := J.landed nb fl3.1 (up.trans up3) os ag
    obtain ⟨oe3, vs3, he3, hz3, hd3⟩ := fl3.there
    have nfr : a ∉ frs (X.env :: X.outer) := fun hm => by
      obtain ⟨_, o', e', hnf⟩ := fl3.2.2.1.mem hm
      rw [he3] at e'; cases e'
      exact hnf _ hd3
    have nL : a ≠ X.env.locals := fun z => nfr (List.mem_filterMap.mpr ⟨X.env, List.mem_cons_self, by rw [hf, z]⟩)
    have nF : a ∉ X.fs := fun hm => by
      obtain ⟨e, he, q⟩ := List.mem_filterMap.mp hm
      exact nfr (List.mem_filterMap.mpr ⟨e, List.mem_cons_of_mem _ he, q⟩)
    have S3 := J3.suite he3 hd3 na nL nF
    have LT : PySem.W.Looks (model X.prog X.w) h3 (typeOf (.ref a)) cls := fun A Q E s k q => wpAny_typeOf_ref (k _ _ he3) (by rw [hz3.1]; exact q)
    have test : ∀ {x : Str} {c : Value} {np : Pos} {Q : Value → Shared → Prop} {E : Value → Shared → Prop}, Names X x c → Q c { s' with heap := h3 } → wpAny (model X.prog X.w) (X.A.mark (some (.ref a))) (eval (.Name x np) X.env) Q E { s' with heap := h3 } := fun {x c np Q E} hc q => by
      obtain ⟨hg, hdbg, hm | ⟨hm, hv, hnn⟩⟩ := hc
      · exact ld_glob (X := X.suite a ((a, oe3) :: (X.pn ++ pins))) S3 hg hm q hdbg
      · exact ld_blt (X := X.suite a ((a, oe3) :: (X.pn ++ pins))) S3 hg hm hv q hnn hdbg
    have go : ∀ {hds' : List ExceptHandler} {l' : List (Value × Option Nat × HTs)}, HdsMix X hds' l' → wMix X.K Wout D l' cls d σ' H' →
        wpAny (model X.prog X.w) X.A (handleBy (.ref a) X.env hds') (SP X pins D) X.xe { s' with heap := h3 } := by
      intro hds' l' hk
      induction hk with
      | nil =>
        intro w
        refine wpAny_handleBy_nil ?_
        obtain ⟨k1, k2, k3, oe, vs, T, oT, ts', he, hz, hd, h1, hr⟩ := id fl3
        unfold PySem.passOn
        refine wpAny_bind (wpAny_field he hd h1 ?_)
        rw [if_neg (show ¬ ((Value.ref T == Value.none) = true) from by simp)]
        have fin : wpAny (model X.prog X.w) X.A (setFlight (.ref a) X.env.frame) (fun _ s4 => wpAny (model X.prog X.w) X.A (throw (.ref a) : Sem Flow) (SP X pins D) X.xe s4) X.xe { s' with heap := h3 } := by
          rw [hf]
          refine HandSPX.setFlight_upZ fl3 fun h4 hh4 up4 => wpAny_throw (tk _ _ ?_)
          exact ⟨a, B, sI, pins, σ', H', cls, d, rfl, J, nb, (up.trans up3).trans up4, .inr (.inr (by rw [hs]; exact hh4)), na, os, ag, w⟩
        first
          | exact wpAny_bind (wpAny_pure (wpAny_bind fin))
          | exact wpAny_bind fin
      | @cons x c ts b₀ suite np pos' hds2 l2 hc hsu r ih =>
        intro w
        obtain ⟨b, hb1, hyes, hno⟩ := w
        refine wpAny_handleBy_cons (codeAny_handlers_test ?_) (by intro q; cases q)
        refine test hc ((PySem.W.exm_one (M := model X.prog X.w) (J3.kIn) LT hb1).here ?_)
        cases b with
        | true =>
          refine codeAny_handlers_suite (HandSPX.lands_againZ fl3 fun h4 fl4 up4 => ?_)
          have J4 : Inv X pins σ' H' { s' with heap := h4 } := J.landed nb fl4.1 ((up.trans up3).trans up4) os ag
          obtain ⟨oe4, vs4, he4, hz4, hd4⟩ := fl4.there
          refine wpAny_mono ((hsu a oe4 cls d (X.pn ++ pins) hz4 ⟨_, hd4⟩).run [] _ _ H' _ (J4.suite he4 hd4 na nL nF) (hyes rfl a na)) (fun f s6 hsp => ?_) (fun _ _ z => False.elim z)
          cases f with
          | next => obtain ⟨σ6, H6, S6, q6⟩ := hsp; exact ⟨_, _, S6.unsuite ok, q6⟩
          | brk => obtain ⟨σ6, H6, S6, q6⟩ := hsp; exact ⟨_, _, S6.unsuite ok, q6⟩
          | cont => obtain ⟨σ6, H6, S6, q6⟩ := hsp; exact ⟨_, _, S6.unsuite ok, q6⟩
          | ret u => obtain ⟨v6, σ6, H6, S6, r6, q6⟩ := hsp; exact ⟨_, _, _, S6.unsuite ok, r6, q6⟩
        | false =>
          show wpAny _ X.A (handleBy (.ref a) X.env hds2) _ _ _
          exact ih (hno rfl)
      | @named x n i c ts b₀ suite np pos' hds2 l2 hN hi hln hc hsu r ih =>
        intro w
        obtain ⟨b, hb1, hyes, hno⟩ := w
        refine wpAny_handleBy_cons (codeAny_handlers_test ?_) (by intro q; cases q)
        refine test hc ((PySem.W.exm_one (M := model X.prog X.w) (J3.kIn) LT hb1).here ?_)
        cases b with
        | true =>
          refine codeAny_handlers_suite_as (HandSPX.lands_againZ fl3 fun h4 fl4 up4 => ?_)
          have J4 : Inv X pins σ' H' { s' with heap := h4 } := J.landed nb fl4.1 ((up.trans up3).trans up4) os ag
          obtain ⟨oe4, vs4, he4, hz4, hd4⟩ := fl4.there
          refine store_ok (X := X.suite a ((a, oe4) :: (X.pn ++ pins))) (v := .ref a) (J4.suite he4 hd4 na nL nF) hN hi (.inl hln) rfl (fun s5 S5 => ?_) (.inr hln)
          refine wpAny_mono ((hsu a oe4 cls d (X.pn ++ pins) hz4 ⟨_, hd4⟩).run [] s5 _ H' _ S5 (hyes rfl a na)) (fun f s6 hsp => ?_) (fun _ _ z => False.elim z)
          cases f with
          | next => obtain ⟨σ6, H6, S6, q6⟩ := hsp; exact gone_ok (S6.unsuite ok) hN hi hln fun s7 J7 => ⟨_, _, J7, q6⟩
          | brk => obtain ⟨σ6, H6, S6, q6⟩ := hsp; exact gone_ok (S6.unsuite ok) hN hi hln fun s7 J7 => ⟨_, _, J7, q6⟩
          | cont => obtain ⟨σ6, H6, S6, q6⟩ := hsp; exact gone_ok (S6.unsuite ok) hN hi hln fun s7 J7 => ⟨_, _, J7, q6⟩
          | ret u => obtain ⟨v6, σ6, H6, S6, r6, q6⟩ := hsp; exact gone_ok (S6.unsuite ok) hN hi hln fun s7 J7 => ⟨_, _, _, J7, r6, q6⟩
        | false =>
          show wpAny _ X.A (handleBy (.ref a) X.env hds2) _ _ _
          exact ih (hno rfl)
    exact go hh w
  · cases f with
    | next => obtain ⟨σ', H', J', q⟩ := hsp; exact wpAny_execs_nil ⟨σ', H', J'.ofTry ok, q⟩
    | brk => obtain ⟨σ', H', J', q⟩ := hsp; exact ⟨σ', H', J'.ofTry ok, q⟩
    | cont => obtain ⟨σ', H', J', q⟩ := hsp; exact ⟨σ', H', J'.ofTry ok, q⟩
    | ret u => obtain ⟨v, σ', H', J', r, q⟩ := hsp; exact ⟨v, σ', H', J'.ofTry ok, r, q⟩
end
end DL

namespace DL
open PySem PySem.Spec PyProof.Rows L2

/-! ### try -/
abbrev DHs := Addr → Str → Option Addr → DTS
def dEndsOf (oi : Option Nat) (D : DEnds) : DEnds := match oi with
  | none => D
  | some i => { nx := fun σ S => D.nx (σ.set i none) S, rt := D.rt, bk := fun σ S => D.bk (σ.set i none) S, ct := fun σ S => D.ct (σ.set i none) S }
def dSetOf (oi : Option Nat) (σ : DSt) (a : Addr) : DSt := match oi with
  | none => σ
  | some i => σ.set i (some (.loc a))
/-- what the clauses do with an exception of class n -/
def dMany (sub : Str → Str → Option Bool) (Wout : DWX) (D : DEnds) : List (Str × Option Nat × DHs) → DWX
  | [] => Wout
  | (c, oi, ts) :: r => fun n od σ S => match sub n c with
    | some true => ∀ a, S a = none → ts a n od (dEndsOf oi D) (dSetOf oi σ a) S
    | some false => dMany sub Wout D r n od σ S
    | none => False
def sS (P : Program) (w : World) (K : PySem.W.Frag) (B : Hp × Store) (t : DTS) : TS := fun D σv H => ∃ (E : DEnds) (σ : DSt) (S : Store), SlR H σv σ ∧ RelS P w K H S ∧ Gx B.1 B.2 H S ∧ t E σ S ∧
  (∀ σv' H' σ' S', SlR H' σv' σ' → RelS P w K H' S' → Gx H S H' S' → E.nx σ' S' → D.nx σv' H') ∧ (∀ σv' H' σ' S', SlR H' σv' σ' → RelS P w K H' S' → Gx H S H' S' → E.bk σ' S' → D.bk σv' H') ∧
  (∀ σv' H' σ' S', SlR H' σv' σ' → RelS P w K H' S' → Gx H S H' S' → E.ct σ' S' → D.ct σv' H') ∧ (∀ d v H' S', Rp H' d v → RelS P w K H' S' → Gx H S H' S' → E.rt d S' → D.rt v H')
theorem DSs.pss {X : Cx} {B : Hp × Store} {sts : List Stmt} {t : DTS} (h : DSs X B sts t) : PSs X sts (sS X.prog X.w X.K B t) := ⟨fun pins s σv H D I ⟨E, σ, S, sl, rs, bs, q, k1, k2, k3, k4⟩ =>
  thn (h.run pins s σv H σ S E ⟨I, sl, rs, bs⟩ q) fun f s' q => by
    cases f with
    | next => obtain ⟨σv', H', σ', S', I', g, q⟩ := q; exact ⟨σv', H', I'.inv, k1 _ _ _ _ I'.sl I'.st g q⟩
    | brk => obtain ⟨σv', H', σ', S', I', g, q⟩ := q; exact ⟨σv', H', I'.inv, k2 _ _ _ _ I'.sl I'.st g q⟩
    | cont => obtain ⟨σv', H', σ', S', I', g, q⟩ := q; exact ⟨σv', H', I'.inv, k3 _ _ _ _ I'.sl I'.st g q⟩
    | ret u => obtain ⟨v, d, σv', H', S', I', r', g, rv, pv, q⟩ := q; exact ⟨v, σv', H', I', rv, k4 _ _ _ _ pv r' g q⟩⟩
def CvOk (K : PySem.W.Frag) (sub : Str → Str → Option Bool) (c : Str) : Prop := ∀ n b, sub n c = some b → PySem.W.exmOne K (cv K n) (cv K c) = some b
/-- the suite's reading, told below: for the class of that name alone -/
def hsOf (P : Program) (w : World) (K : PySem.W.Frag) (B : Hp × Store) (ts : DHs) : HTs := fun a cls d D σv H => ∃ n, cls = cv K n ∧ sS P w K B (ts a n d) D σv H
section
variable {X : Cx} {B : Hp × Store} {body : List Stmt} {pos : Pos} {tb : DWX → DTS} {Wout : DWX} {sub : Str → Str → Option Bool}
theorem slr_setOf {H : Hp} {σv : L2.St} {σ : DSt} (h : SlR H σv σ) (oi : Option Nat) (a : Addr) : SlR H (setOf oi σv a) (dSetOf oi σ a) := by
  cases oi with
  | none => exact h
  | some i => exact h.set (d := .loc a) rfl
def dvN (P : Program) (w : World) (K : PySem.W.Frag) (H : Hp) (S : Store) (q : DSt → Store → Prop) : L2.St → Hp → Prop := fun σv' H' => ∃ σ' S', SlR H' σv' σ' ∧ RelS P w K H' S' ∧ Gx H S H' S' ∧ q σ' S'
def dvE (P : Program) (w : World) (K : PySem.W.Frag) (H : Hp) (S : Store) (D : DEnds) : Ends := ⟨dvN P w K H S D.nx, fun v H' => ∃ d S', Rp H' d v ∧ RelS P w K H' S' ∧ Gx H S H' S' ∧ D.rt d S', dvN P w K H S D.bk, dvN P w K H S D.ct⟩
theorem ds_try {h₀ : ExceptHandler} {hds : List ExceptHandler} {l : List (Str × Option Nat × DHs)} (hs : X.stack = X.env :: X.outer) (hf : X.env.frame = some X.env.locals) (tk : DTakes X B Wout)
    (hb : ∀ (B' : Hp × Store) (W : DWX) (pn : List (Addr × Obj)) (xe : Value → Shared → Prop), DTakes (X.tr pn xe) B' W → PassesOwn (model X.prog X.w) X.A X.env xe → DSs (X.tr pn xe) B' body (tb W))
    (hh : ∀ B' : Hp × Store, HdsMix X (h₀ :: hds) (l.map fun p => (cv X.K p.1, p.2.1, hsOf X.prog X.w X.K B' p.2.2))) (hcv : ∀ p ∈ l, CvOk X.K sub p.1) :
    DS X B (.Try body (h₀ :: hds) [] [] pos) (fun D σ S => tb (dMany sub Wout D l) D σ S) := by
  refine ⟨fun pins s σv H σ S D I h => ?_⟩
  have key : ∀ (l' : List (Str × Option Nat × DHs)), (∀ p ∈ l', CvOk X.K sub p.1) → ∀ cls od σv2 H2, liftW X.prog X.w X.K (H, S) (dMany sub Wout D l') cls od σv2 H2 →
      wMix X.K (liftW X.prog X.w X.K B Wout) (dvE X.prog X.w X.K H S D)
        (l'.map fun p => (cv X.K p.1, p.2.1, hsOf X.prog X.w X.K (H, S) p.2.2)) cls od σv2 H2 := fun l' => by
    induction l' with
    | nil => rintro _ cls od σv2 H2 ⟨n, σ2, S2, e, a, b, c, d⟩; exact ⟨n, σ2, S2, e, a, b, I.bs.trans c, d⟩
    | cons p l' ih =>
      obtain ⟨c, oi, ts⟩ := p
      rintro hcv cls od σv2 H2 ⟨n, σ2, S2, rfl, sl2, r2, g2, w2⟩
      have w2 : (match sub n c with | some true => ∀ a, S2 a = none → ts a n od (dEndsOf oi D) (dSetOf oi σ2 a) S2 | some false => dMany sub Wout D l' n od σ2 S2 | none => False) := w2
      cases hsub : sub n c with
      | none => rw [hsub] at w2; exact w2.elim
      | some b =>
        rw [hsub] at w2
        refine ⟨b, hcv (c, oi, ts) List.mem_cons_self n b hsub, fun hbt a na => ?_, fun hbf => ?_⟩
        · subst hbt
          refine ⟨n, rfl, dEndsOf oi D, dSetOf oi σ2 a, S2, slr_setOf sl2 oi a, r2, g2, w2 a (r2.free na), ?_, ?_, ?_, ?_⟩
          · intro σv' H' σ' S' sl' r' g' q
            cases oi with
            | none => exact ⟨σ', S', sl', r', g2.trans g', q⟩
            | some i => exact ⟨σ'.set i none, S', slr_wipe sl' [i], r', g2.trans g', q⟩
          · intro σv' H' σ' S' sl' r' g' q
            cases oi with
            | none => exact ⟨σ', S', sl', r', g2.trans g', q⟩
            | some i => exact ⟨σ'.set i none, S', slr_wipe sl' [i], r', g2.trans g', q⟩
          · intro σv' H' σ' S' sl' r' g' q
            cases oi with
            | none => exact ⟨σ', S', sl', r', g2.trans g', q⟩
            | some i => exact ⟨σ'.set i none, S', slr_wipe sl' [i], r', g2.trans g', q⟩
          · intro d v H' S' p' r' g' q
            cases oi with
            | none => exact ⟨d, S', p', r', g2.trans g', q⟩
            | some i => exact ⟨d, S', p', r', g2.trans g', q⟩
        · subst hbf
          exact ih (fun p hp => hcv p (List.mem_cons_of_mem _ hp)) _ od σv2 H2 ⟨n, σ2, S2, rfl, sl2, r2, g2, w2⟩
  refine thn ((ps_try_mix hs hf tk (tb := fun W D1 σv1 H1 => ∃ Wd, (∀ cls od σv2 H2, liftW X.prog X.w X.K (H, S) Wd cls od σv2 H2 → W cls od σv2 H2) ∧ sS X.prog X.w X.K (H, S) (tb Wd) D1 σv1 H1)
    (fun W pn xe tkW po => ⟨fun pins s σv1 H1 D1 I1 ⟨Wd, hW, q⟩ => (hb (H, S) Wd pn xe (Takes.imp tkW hW) po).pss.run pins s σv1 H1 D1 I1 q⟩) (hh (H, S))).run pins s σv H (dvE X.prog X.w X.K H S D) I.inv
    ⟨dMany sub Wout D l, key l hcv, D, σ, S, I.sl, I.st, Gx.refl, h, fun σv' H' σ' S' a b c d => ⟨σ', S', a, b, c, d⟩, fun σv' H' σ' S' a b c d => ⟨σ', S', a, b, c, d⟩, fun σv' H' σ' S' a b c d => ⟨σ', S', a, b, c, d⟩, fun d v H' S' a b c e => ⟨d, S', a, b, c, e⟩⟩) fun f s' q => ?_
  cases f with
  | next => obtain ⟨σv', H', J, σ', S', sl, r, g, q⟩ := q; exact ⟨σv', H', σ', S', ⟨J, sl, r, I.bs.trans g⟩, g, q⟩
  | brk => obtain ⟨σv', H', J, σ', S', sl, r, g, q⟩ := q; exact ⟨σv', H', σ', S', ⟨J, sl, r, I.bs.trans g⟩, g, q⟩
  | cont => obtain ⟨σv', H', J, σ', S', sl, r, g, q⟩ := q; exact ⟨σv', H', σ', S', ⟨J, sl, r, I.bs.trans g⟩, g, q⟩
  | ret u => obtain ⟨v, σv', H', J, ru, d, S', p, r, g, q⟩ := q; exact ⟨v, d, σv', H', S', J, r, g, ru, p, q⟩
theorem slr_clear {H : Hp} {σv : L2.St} {σ : DSt} (h : SlR H σv σ) (i : Nat) : SlR H (σv.set i none) (σ.set i none) := slr_wipe h [i]
end
end DL

namespace DL
open PySem PySem.Spec PyProof.Rows L2

/-! ### in an except suite: the exception's field -/
def dXf (a : Addr) (d : Option Addr) (f : Str) (te : DTE) : DTE := fun σ S Q => te σ S fun x S1 => x = .loc a ∧ match d with
  | some dd => (match S1 dd with
    | some (.xd fs) => (match fs.lookup f with | some v => Q v S1 | none => False)
    | _ => False)
  | none => False
theorem lookup_rel {H : Hp} {f : Str} {d : D} : ∀ {fs : List (Str × D)} {fv : List (Str × V)}, fv.map (·.1) = fs.map (·.1) → Rps H (fs.map (·.2)) (fv.map (·.2)) → fs.lookup f = some d → ∃ v, fv.lookup f = some v ∧ Rp H d v
  | [], _, _, _, e => by cases e
  | (g, d') :: fs, fv, h1, h2, e => by
    cases fv with
    | nil => simp at h1
    | cons p fv =>
      obtain ⟨g', v'⟩ := p
      simp only [List.map_cons, List.cons.injEq] at h1
      obtain ⟨rfl, h1⟩ := h1
      obtain ⟨v, r, e2, p1, p2⟩ := h2
      simp only [List.map_cons, List.cons.injEq] at e2
      obtain ⟨rfl, rfl⟩ := e2
      rw [List.lookup_cons] at e ⊢
      by_cases hb : (f == g') = true
      · rw [hb] at e ⊢
        cases e
        exact ⟨_, rfl, p1⟩
      · rw [Bool.eq_false_iff.mpr hb] at e ⊢
        exact lookup_rel h1 p2 e
theorem de_xf {X : Cx} {B : Hp × Store} {a : Addr} {oe : Obj} {n : Str} {d : Option Addr} {pn : List (Addr × Obj)} {e : Expr} {te : DTE} {pos : Pos} {f : Str} (T : XfC X.K (He.ga X.K n)) (hno : PySem.W.findIn X.K (.ref (He.ga X.K n)) f = some none)
    (hz : Zc (cv X.K n) d oe) (hf : ∃ vs, oe.data = .fields vs) (he : DE (X.suite a ((a, oe) :: pn)) B e te) (hb : attributeBase e f X.env (eval e X.env) = eval e X.env := by rfl) :
    DE (X.suite a ((a, oe) :: pn)) B (.Attribute e f pos) (dXf a d f te) := by
  refine ⟨fun pins s σv H σ S Q I h => ?_⟩
  refine thn ((pe_xf T hno hz hf he.pe hb).run pins s σv H (fun v H' => ∃ d S', RelS X.prog X.w X.K H' S' ∧ Gx H S H' S' ∧ Rp H' d v ∧ Q d S') I.inv ⟨σ, S, _, I.sl, I.st, I.bs, h, fun x S1 v H1 q p r g => ?_⟩) fun u s' ⟨v, H', J, r, d, S', a, b, c, q⟩ => ⟨v, d, H', S', J, a, b, r, c, q⟩
  obtain ⟨rfl, q⟩ := q
  refine ⟨p, rfl, ?_⟩
  cases d with
  | none => exact q.elim
  | some dd =>
    have q : (match S1 dd with | some (.xd fs) => (match fs.lookup f with | some v => Q v S1 | none => False) | _ => False) := q
    split at q
    · rename_i fs es
      split at q
      · rename_i w hw
        obtain ⟨fv, h1, h2, h3⟩ := r dd _ es
        obtain ⟨v', hv', pv⟩ := lookup_rel h2 h3 hw
        exact ⟨dd, fv, v', rfl, h1, hv', w, S1, r, g, pv, q⟩
      · exact q.elim
    · exact q.elim
end DL

namespace DL
open PySem PySem.Spec PyProof.Rows L2

/-! ### isinstance of a caught exception, with fields or without -/
section
open PySem.W PySem.Calls
variable {prog : Program} {w : World} {A : Around} {E : Value → Shared → Prop} {s : Shared} {K : Frag} {x Dc : Addr} {ox : Obj} {od : Option Obj}
theorem findObj_dataO {C : Addr} {name : Str} {a g : Value} (hc : (clsIn K C).isSome = true) (ha : findIn K (.ref C) name = some (some a)) (hg : specialIn K a "__get__" = some (some g)) (ht : takesIn K a = some true) : findObj K C od name = some (.bind g a) := by
  obtain ⟨cd, hc⟩ := Option.isSome_iff_exists.mp hc
  unfold findObj
  rw [hc, Option.bind_some, ha, Option.bind_some]
  simp [hg, ht]
theorem kin_classO {Q : Option Value → Shared → Prop} (C : ExcC K Dc) (X : K.In s.heap) (I : InstAt s.heap x ox Dc od) (h : Q (some (.ref Dc)) { s with toks := s.toks + 1 }) : wpAny (model prog w) A (getAttr? (.ref x) "__class__") Q E s := by
  have hf : findObj K Dc od "__class__" = some (.bind (.builtin "getset_descriptor.__get__") (.builtin "object.__class__")) := findObj_dataO (by obtain ⟨cd, hc, _⟩ := any_some C.hd; rw [hc]; rfl) C.ha C.hn C.ht
  obtain ⟨hp, g, d, t, os⟩ := s
  have L0 := I.type (M := model prog w)
  have L1 := looks_findIn (M := model prog w) X C.hg
  have L2 := looks_findIn (M := model prog w) X C.hk
  have L3 := looks_find (M := model prog w) X I hf
  have sub : Looks (model prog w) hp (isInstance (.ref x) (.type "BaseException")) true := L0.andThen (looks_subIn X C.hs)
  have hx0 : (false && onTheHeap (Value.builtin "BaseException.__getattribute__")) = false := rfl
  have hx2 : (Value.builtin "BaseException.__getattribute__" == Value.builtin "object.__getattribute__") = false := by decide +kernel
  have hx1 : (onTheHeap (Value.ref Dc) && Value.builtin "BaseException.__getattribute__" == Value.builtin "object.__getattribute__") = false := by rw [hx2]; rfl
  unfold getAttr? getAttrBy? getAttrBy
  refine wpAny_bind (wpAny_mkText (wpAny_bind (wpAny_attempt (wpAny_holding (wpAny_bind (L0.at (wpAny_bind (L1.at ?_))))))))
  show wpAny _ _ (if (onTheHeap (Value.ref Dc) && Value.builtin "BaseException.__getattribute__" == Value.builtin "object.__getattribute__") = true then _ else _) _ _ _
  rw [hx1, if_neg Bool.false_ne_true]
  unfold getAttrByItsOwn hookBefore
  refine wpAny_bind ?_
  rw [if_pos (show onTheHeap (Value.ref Dc) = true from rfl)]
  refine L2.at ?_
  refine wpAny_bind (wpAny_attempt (wpAny_holding ?_))
  unfold callGetattribute
  rw [hx0, if_neg Bool.false_ne_true]
  unfold boundAndCalled
  rw [PySem.F.excAttr_ValueError.ga.bind (.ref x)]
  refine wpAny_bind (wpAny_pure ?_)
  show wpAny _ _ (call (.builtin "BaseException.__getattribute__") [.ref x, .str "__class__" t]) _ _ _
  refine wpAny_call (codeAny_call_builtin PySem.F.excAttr_ValueError.ga.plain PySem.F.entry_bexc_ga ?_)
  refine @check_slot (model prog w) _ _ ⟨hp, g, d, t + 1, os⟩ "BaseException.__getattribute__" "BaseException" "__getattribute__" (.ref x) [.str "__class__" t] [] _ (by decide +kernel) (by decide +kernel) sub (PySem.F.args_bexc_ga (.ref x) (.str "__class__" t)) ?_
  unfold Builtin.«object.__getattribute__»
  refine wpAny_bind (wpAny_of_eq (a := ((Value.ref x : Value), [Value.str "__class__" t])) (by first | rfl | (simp only [slotArgs]; rfl)) ?_)
  refine wpAny_bind (wpAny_pure (wpAny_bind (L0.at (wpAny_bind (L3.at ?_)))))
  show wpAny _ _ (holding [Value.builtin "object.__class__"] (call (.builtin "getset_descriptor.__get__") [.builtin "object.__class__", .ref x, .ref Dc]) >>= ret) _ _ _
  refine wpAny_bind (wpAny_holding (wpAny_call (class_get (s := ⟨hp, g, d, t + 1, os⟩) (ox := ox) (od := od) X I C.hm ?_)))
  refine wpAny_pure ?_
  show wpAny _ _ (handedOut (.ref Dc)) _ _ _
  rw [handedOut_of (v := .ref Dc) rfl]
  first
    | exact wpAny_pure (wpAny_pure h)
    | exact wpAny_pure h
    | exact wpAny_pure (wpAny_bind (wpAny_pure (wpAny_pure h)))
theorem kitx_excO (C : ExcC K Dc) : KitX K (.ref x) (.ref Dc) (fun h => InstAt h x ox Dc od) where
  ty := fun _ _ _ I => I.type
  it := fun _ _ X _ => by
    obtain ⟨cdD, hcD, _⟩ := any_some C.hd
    unfold clsIn at hcD
    split at hcD
    · rename_i c' d' cd' sl' ho
      intro A' Q' E' s' k q
      unfold isType loadHead
      exact wpAny_bind (wpAny_loadPart (k _ _ (X _ _ ho)) (wpAny_pure q))
    · cases hcD
  ne := fun h tp dd its n sl X htp => by
    obtain ⟨cdD, hcD, _⟩ := any_some C.hd
    refine Bool.eq_false_iff.mpr fun q => ?_
    have e : Dc = tp := Value.ref.inj (beq_iff_eq.mp q)
    subst e
    unfold clsIn at hcD
    split at hcD
    · rename_i c' d' cd' sl' ho
      have z := (X _ _ ho).symm.trans htp
      cases z
    · cases hcD
  ca := fun X I k => kin_classO C X I k
end
/-! ### monotone readings -/
section
variable {X : Cx} {B : Hp × Store} {e : Expr} {te : DTE}
def mE (te : DTE) : DTE := fun σ S Q => ∃ Qd : DQ, te σ S Qd ∧ ∀ x S1, Qd x S1 → Q x S1
theorem DE.mo (h : DE X B e te) : DE X B e (mE te) := ⟨fun pins s σv H σ S Q I ⟨Qd, q, k⟩ => thn (h.run pins s σv H σ S Qd I q) fun u s' ⟨v, d, H', S', J, a, b, r, c, q⟩ => ⟨v, d, H', S', J, a, b, r, c, k _ _ q⟩⟩
theorem DE.wk {t' : DTE} (h : DE X B e te) (k : ∀ σ S Q, t' σ S Q → te σ S Q) : DE X B e t' := ⟨fun pins s σv H σ S Q I q => h.run pins s σv H σ S Q I (k _ _ _ q)⟩
end
/-- a class told by its name in a table -/
structure SubOk (K : PySem.W.Frag) (mg : Str → Option Value) (sub : Str → Str → Option Bool) : Prop where
  ok : ∀ n c b, sub n c = some b → ExcC K (He.ga K n) ∧ PySem.W.kitOne K (.ref (He.ga K n)) (.ref (He.ga K c)) = some b ∧ PySem.W.exmOne K (.ref (He.ga K n)) (.ref (He.ga K c)) = some b
def rIsEO (K : PySem.W.Frag) (sub : Str → Str → Option Bool) (a : Addr) (n : Str) (d : Option Addr) : List D → Store → DQ → Prop := fun ds S Q => ∃ c b, ds = [.loc a, .loc (He.ga K c)] ∧ (∀ dd, d = some dd → ∃ fs, S dd = some (.xd fs)) ∧ sub n c = some b ∧ Q (.bl b) S
/-- isinstance(e, c) of a caught exception -/
def dIsE (sub : Str → Str → Option Bool) (a : Addr) (n : Str) (d : Option Addr) (c : Str) (te : DTE) : DTE := fun σ S Q => te σ S fun x S1 => x = .loc a ∧ (∀ dd, d = some dd → ∃ fs, S1 dd = some (.xd fs)) ∧ match sub n c with | some b => Q (.bl b) S1 | none => False
section
variable {X : Cx} {B : Hp × Store} {a : Addr} {oe : Obj} {n c : Str} {d : Option Addr} {pn : List (Addr × Obj)} {e : Expr} {te : DTE} {pos p p2 : Pos} {sub : Str → Str → Option Bool}
theorem call_isEO (so : SubOk X.K X.mg sub) (hz : Zc (cv X.K n) d oe) (hf : ∃ vs, oe.data = .fields vs) : DCallR (X.suite a ((a, oe) :: pn)) (.builtin "isinstance") (rIsEO X.K sub a n d) := by
  intro pins s σv H S vs ds us Q I r rv pv h
  obtain ⟨c, b, rfl, hxd, hsub, q⟩ := h
  obtain ⟨C, kit, _⟩ := so.ok _ _ _ hsub
  obtain ⟨v1, r1, rfl, p1, v2, r2, rfl, p2, p3⟩ := pv
  cases (show v1 = .ref a from p1)
  cases (show v2 = .ref _ from p2)
  cases (show r2 = [] from p3)
  cases rv with
  | cons rx rr =>
    cases rr with
    | cons rt rr =>
      cases rr
      cases rx
      cases rt
      obtain ⟨hget, _⟩ := I.pin (a, oe) (List.mem_append.mpr (.inl List.mem_cons_self))
      obtain ⟨fv, hv⟩ := hf
      have fin : ∀ od, PySem.W.InstAt s.heap a oe (He.ga X.K n) od → wpAny (model X.prog X.w) (X.suite a ((a, oe) :: pn)).A (call (.builtin "isinstance") [.ref a, .ref (He.ga X.K c)]) (DEP (X.suite a ((a, oe) :: pn)) pins σv H S Q) (X.suite a ((a, oe) :: pn)).xe s := fun od J =>
        PySem.W.kia_one (kitx_excO C) I.kIn J kit (fun z => nomatch z) fun tk => ⟨.bl b, .bl b, H, S, I.kept (t' := tk) fun _ _ z => z, r, Gx.refl, rfl, rfl, q⟩
      cases d with
      | none =>
        refine fin none ?_
        obtain ⟨oc, od, oda, osl⟩ := oe
        obtain ⟨h1, h2⟩ := hz
        dsimp only at h1 h2 hv
        subst h1 h2 hv
        exact ⟨hget, rfl, rfl, trivial⟩
      | some dd =>
        obtain ⟨fs, efs⟩ := hxd dd rfl
        obtain ⟨fv2, e2, _, _⟩ := r dd _ efs
        have hx : ObjOk X.prog X.w H s.heap dd (.xd fv2) := I.hok dd _ e2
        obtain ⟨mA, hns, hr⟩ := hx
        obtain ⟨od, ho, hl⟩ := lookIn_ns hns
        refine fin (some od) ⟨hget, hz.1, by unfold PySem.W.notCls; rw [hv] <;> rfl, by rw [hz.2]; exact ho⟩
theorem de_isE (so : SubOk X.K X.mg sub) (hmc : X.mg c = some (cv X.K c)) (hmI : X.mg "isinstance" = none) (hz : Zc (cv X.K n) d oe) (hf : ∃ vs, oe.data = .fields vs) (he : DE (X.suite a ((a, oe) :: pn)) B e te) (hgc : Gl X c := by rfl) (hgI : Gl X "isinstance" := by rfl)
    (hdb : (c == ("__debug__" : Str)) = false := by decide) (hs1 : starEach [e, .Name c p2] X.env = (false, eval e X.env) :: starEach [.Name c p2] X.env := by rfl) (hs2 : starEach [.Name c p2] X.env = (false, eval (.Name c p2) X.env) :: starEach [] X.env := by rfl) (hpl : (backTo pos (starEach [.Name c p2] X.env)).any (·.1) = false := by rfl) :
    DE (X.suite a ((a, oe) :: pn)) B (.Call (.Name "isinstance" p) [e, .Name c p2] [] pos) (dIsE sub a n d c te) := by
  have hn : DE (X.suite a ((a, oe) :: pn)) B (.Name c p2) (dC (.loc (He.ga X.K c))) := de_glob (X := X.suite a ((a, oe) :: pn)) (v := .ref (He.ga X.K c)) hgc hmc rfl (fun _ => rfl) hdb
  refine (de_callB (X := X.suite a ((a, oe) :: pn)) (call_isEO so hz hf) hgI hmI rfl (da_cons he.mo (da_cons hn da_nil hs2) hs1) (by decide) (by decide) hs1 hpl).wk fun σ S Q h => ?_
  refine ⟨_, h, fun x S1 hx => ?_⟩
  obtain ⟨rfl, h2, h3⟩ := hx
  split at h3
  · rename_i b hb
    exact ⟨c, b, rfl, h2, hb, h3⟩
  · exact h3.elim
/-- str of an int -/
def rStrI : List D → Store → DQ → Prop
  | [.int i], S, Q => i.natAbs.log2 < 1920 ∧ Q (.str (toString i)) S
  | _, _, _ => False
theorem call_strI : DCallR X (.type "str") rStrI := DCallR.of call_str_int fun H S vs ds Q r p q => by
  match ds, q with
  | [.int i], q =>
    obtain ⟨v, r2, rfl, p1, p2⟩ := p
    cases (show v = .int i from p1)
    cases (show r2 = [] from p2)
    exact ⟨i, rfl, q.1, .str (toString i), S, r, Gx.refl, rfl, q.2⟩
end
/-! ### an own exception with one field -/
section
variable {X : Cx} {e : Expr} {es : List Expr} {ta : TA} {x : Str} {C0 : Addr} {mc : Value} {p1 p2 pos : Pos}
theorem pe_tinit {pl : Sem Bool} (hg : Gl X x) (hm : X.mg x = some (.ref C0)) (rd : PySem.W.readsIn X.K C0 mc = true) (ga : PySem.W.specialIn X.K (.ref C0) "__getattribute__" = some (some (.builtin "type.__getattribute__")))
    (vV : PySem.W.findCls X.K (.ref C0) mc "__init__" = some (.val (.builtin "ValueError.__init__"))) (ha : PA X (e :: es) ta) (hdb : (x == ("__debug__" : Str)) = false := by decide)
    (hc : eval (.Call (.Attribute (.Name x p1) "__init__" p2) (e :: es) [] pos) X.env = (do
      let ov ← eval (.Name x p1) X.env
      standAt p2.atName
      let (f, first) ← holding [ov] (getMethod ov "__init__" pl)
      callWith pos f first (backTo pos (starEach (e :: es) X.env)) (backToKw pos (keywordEach [] X.env))) := by rfl)
    (he : starEach (e :: es) X.env = (false, eval e X.env) :: starEach es X.env := by rfl) (hpl : (backTo pos (starEach es X.env)).any (·.1) = false := by rfl) :
    PE X (.Call (.Attribute (.Name x p1) "__init__" p2) (e :: es) [] pos) (tVeI X.K ta) := by
  refine ⟨fun pins s σ H Q I h => ?_⟩
  refine PySem.W.methodCall_KW (ld_glob I hg hm ?_ hdb) hc
  refine PySem.W.method_cls I.kIn ga (PySem.W.cls_value I.kIn rd vV (by decide +kernel) ?_)
  show wpAny _ _ (callWith pos (Value.builtin "ValueError.__init__") [] (backTo pos (starEach (e :: es) X.env)) []) _ _ _
  refine PyProof.Rows.callWith_method1 (thn (ha.run pos pins _ σ H _ (I.tok _) h) fun us s1 ⟨vs, H1, I1, r1, a, C, ws, ev, hl, T, ea, q⟩ => ?_) he hpl
  subst ev
  cases r1 with
  | @cons _ u0 _ ur ra rw' =>
    obtain rfl : u0 = Value.ref a := ra
    have hlen : ur.length ≤ sizeLine := by
      rw [← Paired.length rw', sizeLine_eq]
      omega
    exact oinit_ok T I1 ea hlen fun s' J => ⟨.non, H1, J, rfl, q⟩
end
def spInit (C : Addr) (fl : Str) : Sp := fun vs H Q _ => ∃ a y, vs = [.ref a, y] ∧ H a = some (exo a C none) ∧ ∀ dx, H dx = none → dx ≠ a → Q .non (upd (upd H dx (exd dx [(fl, y)])) a (exo a C (some dx)))
def tInit (K : PySem.W.Frag) (fl m : Str) : TS := tSeq (tDrop (tVeI K (tCons (tVar 0) (tCons (fun _ H Q => Q (.str m) H) tNil)))) (tOst K fl (tVar 0) (tVar 1))
theorem rd_init {K : PySem.W.Frag} {C : Addr} {fl m : Str} {vs : List V} {H : Hp} {Q : VK} {E : XK} (T : OexC K C) (hno : PySem.W.findIn K (.ref C) fl = some none) (h : spInit C fl vs H Q E) : tInit K fl m { nx := fun _ H' => Q .non H', rt := Q } (start ["self", fl] vs) H := by
  obtain ⟨a, y, rfl, ea, q⟩ := h
  refine ⟨.ref a, rfl, ⟨a, C, [.str m], rfl, by simp, T, ea, ?_⟩⟩
  exact ⟨y, rfl, .ref a, rfl, a, C, rfl, T, hno, .inl ⟨ea, fun dx hn hne => q dx hn hne⟩⟩
structure HasX (P : Program) (w : World) (K : PySem.W.Frag) (mg : Str → Option Value) (base : Heap) (x fl : Str) : Prop where
  ex : ∃ fI fd, OexC K (He.ga K x) ∧ PySem.W.findIn K (.ref (He.ga K x)) "__init__" = some (some (.ref fI)) ∧ PySem.W.typeIn K (.ref fI) = some (.type "function") ∧ FnOk P w K mg base (L2.CX P w) 1 fI fd ["self", fl] (spInit (He.ga K x) fl) ∧ Binds K fd ["self", fl] [] ∧ mg x = some (.ref (He.ga K x))
def dRaiseX (n fl : Str) (te : DTE) (W : DWX) : DTS := fun _ σ S => te σ S fun v S1 => ∀ dx, S1 dx = none → W n (some dx) σ (put S1 dx (.xd [(fl, v)]))
theorem upd_del {H : Hp} {a dx : Addr} {C : Addr} {o u v : HO} (ha : H a = none) (hd : dx ≠ a) : upd (del (upd (upd (upd H a o) dx u) a v) a) dx w = upd H dx w := by
  funext b
  by_cases hb : b = dx
  · subst hb; rw [upd_same, upd_same]
  · rw [upd_ne hb, upd_ne hb]
    by_cases hba : b = a
    · subst hba; rw [del_same, ha]
    · rw [del_ne hba, upd_ne hba, upd_ne hb, upd_ne hba]
theorem ds_raiseX {X : Cx} {B : Hp × Store} {W : DWX} {x fl : Str} {e : Expr} {te : DTE} {k : Nat} {p pos pos' : Pos} (h : HasX X.prog X.w X.K X.mg X.base x fl) (hr : Room k X.A) (hk : 2 ≤ k) (hc : X.calm = true) (tk : DTakes X B W) (he : DE X B e te) (hg : Gl X x := by rfl)
    (hdb : (x == ("__debug__" : Str)) = false := by decide) (hs : starEach [e] X.env = (false, eval e X.env) :: starEach [] X.env := by rfl) (hpl : (backTo pos (starEach [] X.env)).any (·.1) = false := by rfl) :
    DS X B (.Raise (some (.Call (.Name x p) [e] [] pos)) none pos') (dRaiseX x fl te W) := by
  obtain ⟨fI, fd, T, iC, tI, F1, hb, hm⟩ := h.ex
  refine ⟨fun pins s σv H σ S D I hw => ?_⟩
  refine thn ((ps_raise hc tk (pmk_oex (ds := []) (dvs := []) T iC tI F1 (hr.mono hk) hb .nil passL hg hm (pa_cons he.pe pa_nil hs) hdb hs hpl)).run pins s σv H { nx := fun _ _ => False, rt := fun _ _ => False, bk := fun _ _ => False, ct := fun _ _ => False } I.inv
    ⟨σ, S, _, I.sl, I.st, I.bs, hw, fun v S1 y H1 q py r1 g1 => ⟨by simp, fun a na => ⟨a, y, rfl, upd_same, fun dx hn hne => ⟨rfl, dx, [(fl, y)], upd_same, by rw [upd_ne hne, upd_same], by rw [upd_ne hne] at hn; exact hn, ?_⟩⟩⟩⟩) fun f s' q => ?_
  · rw [upd_ne hne] at hn
    rw [upd_del (C := 0) na hne]
    have hS : S1 dx = none := r1.free hn
    have tx : Tx H1 (upd H1 dx (.xd [(fl, y)])) := Tx.new hn
    refine ⟨x, σ, put S1 dx (.xd [(fl, v)]), rfl, (I.sl.mono (g1.tx I.st)).mono tx, r1.new hn ⟨[(fl, y)], upd_same, rfl, y, [], rfl, py.mono tx, rfl⟩, (I.bs.trans g1).trans (Gx.new hn), q dx hS⟩
  · cases f with
    | next => obtain ⟨_, _, _, z⟩ := q; exact z.elim
    | brk => obtain ⟨_, _, _, z⟩ := q; exact z.elim
    | cont => obtain ⟨_, _, _, z⟩ := q; exact z.elim
    | ret u => obtain ⟨_, _, _, _, _, z⟩ := q; exact z.elim
/-! ### suites -/
theorem hs_of {X : Cx} {B : Hp × Store} {suite : List Stmt} {ts : DHs} (h : ∀ (a : Addr) (oe : Obj) (n : Str) (d : Option Addr) (pn : List (Addr × Obj)), Zc (cv X.K n) d oe → (∃ vs, oe.data = .fields vs) → DSs (X.suite a ((a, oe) :: pn)) B suite (ts a n d)) :
    ∀ (a : Addr) (oe : Obj) (cls : Value) (d : Option Addr) (pn : List (Addr × Obj)), Zc cls d oe → (∃ vs, oe.data = .fields vs) → PSs (X.suite a ((a, oe) :: pn)) suite (hsOf X.prog X.w X.K B ts a cls d) := fun a oe cls d pn hz hf =>
  ⟨fun pins s σ H D I ⟨n, e, q⟩ => by
    subst e
    exact (h a oe n d pn hz hf).pss.run pins s σ H D I q⟩
/-! ### checks of a class -/
def excB (K : PySem.W.Frag) (C : Addr) : Bool := decide (PySem.W.findIn K (.ref C) "__getattribute__" = some (some (.builtin "BaseException.__getattribute__"))) && (decide (PySem.W.findIn K (.ref C) "__getattr__" = some none) && (decide (PySem.W.subIn K (.ref C) (.type "BaseException") = some true) && (PySem.W.hasDictIn K C &&
  (decide (PySem.W.findIn K (.ref C) "__class__" = some (some (.builtin "object.__class__"))) && (decide (PySem.W.specialIn K (.builtin "object.__class__") "__get__" = some (some (.builtin "getset_descriptor.__get__"))) && (decide (PySem.W.takesIn K (.builtin "object.__class__") = some true) && decide (PySem.W.mroIn K C (.type "object") = some true)))))))
theorem excB_ok {K : PySem.W.Frag} {C : Addr} (h : excB K C = true) : ExcC K C := by
  unfold excB at h
  simp only [Bool.and_eq_true, decide_eq_true_eq] at h
  obtain ⟨h1, h2, h3, h4, h5, h6, h7, h8⟩ := h
  exact ⟨h1, h2, h3, h4, h5, h6, h7, h8⟩
def oexB (K : PySem.W.Frag) (C : Addr) (fl : Str) : Bool := (match K.lookup C with
  | some ⟨.type "type", _, .cls cd, sl⟩ => (match cd.mro, sl.toList with
    | .ref C' :: bm, [_, _, _, _, some (.builtin n), _] => C' == C && (n == "ValueError.__new__" && (!cd.hasDel && (cd.hasDict && PySem.HandSPX.refsVE bm)))
    | _, _ => false)
  | _ => false) && (decide (PySem.W.findIn K (.ref C) "__setattr__" = some (some (.builtin "object.__setattr__"))) && (decide (PySem.W.subIn K (.ref C) (.type "BaseException") = some true) && (decide (PySem.W.typeIn K (.ref C) = some (.type "type")) && (PySem.W.keepIn K (.ref C) &&
  (decide (PySem.W.findIn K (.ref C) fl = some none) && (decide (PySem.W.findIn K (.ref C) "__init__" = some (some (.ref (He.ma K C "__init__")))) && decide (PySem.W.typeIn K (.ref (He.ma K C "__init__")) = some (.type "function"))))))))
theorem oexB_ok {K : PySem.W.Frag} {C : Addr} {fl : Str} (h : oexB K C fl = true) : OexC K C ∧ PySem.W.findIn K (.ref C) fl = some none ∧ PySem.W.findIn K (.ref C) "__init__" = some (some (.ref (He.ma K C "__init__"))) ∧ PySem.W.typeIn K (.ref (He.ma K C "__init__")) = some (.type "function") := by
  unfold oexB at h
  simp only [Bool.and_eq_true, decide_eq_true_eq] at h
  obtain ⟨q, h1, h2, h3, h4, h5, h6, h7⟩ := h
  refine ⟨⟨?_, h1, h2, h3, h4⟩, h5, h6, h7⟩
  split at q
  · rename_i dd cd sl ho
    split at q
    · rename_i C' bm k0 k1 k2 k3 n k5 hm hs
      simp only [Bool.and_eq_true, beq_iff_eq, Bool.not_eq_true'] at q
      obtain ⟨rfl, rfl, hdel, hdict, ht⟩ := q
      obtain ⟨nm, bs, mro, ns, qn, hd, sn, sub, ab, col, del⟩ := cd
      dsimp only at hm hdel hdict
      subst hm hdel hdict
      have hsl : sl = #[k0, k1, k2, k3, some (.builtin "ValueError.__new__"), k5] := by
        obtain ⟨l⟩ := sl
        simp only at hs
        rw [hs]
      subst hsl
      exact ⟨nm, qn, ns, bs, bm, sn, sub, ab, col, dd, k0, k1, k2, k3, k5, ho, ht⟩
    · cases q
  · cases q
def baseB (K : PySem.W.Frag) (C : Addr) : Bool := PySem.W.readsIn K C (.type "type") && (decide (PySem.W.specialIn K (.ref C) "__getattribute__" = some (some (.builtin "type.__getattribute__"))) && (match PySem.W.findCls K (.ref C) (.type "type") "__init__" with | some (.val v) => decide (v = .builtin "ValueError.__init__") | _ => false))
theorem baseB_ok {K : PySem.W.Frag} {C : Addr} (h : baseB K C = true) : PySem.W.readsIn K C (.type "type") = true ∧ PySem.W.specialIn K (.ref C) "__getattribute__" = some (some (.builtin "type.__getattribute__")) ∧ PySem.W.findCls K (.ref C) (.type "type") "__init__" = some (.val (.builtin "ValueError.__init__")) := by
  unfold baseB at h
  simp only [Bool.and_eq_true, decide_eq_true_eq] at h
  obtain ⟨h1, h2, h3⟩ := h
  refine ⟨h1, h2, ?_⟩
  split at h3
  · rename_i v hv
    rw [of_decide_eq_true h3] at hv
    exact hv
  · cases h3
/-- the table of the classes at hand -/
def subT (eN : List Str) (n c : Str) : Option Bool := if eN.contains n && eN.contains c then some (decide (n = c) || decide (c = "TornError")) else none
def subB (eN : List Str) (K : PySem.W.Frag) : Bool := eN.all fun n => excB K (He.ga K n) && eN.all fun c => decide (PySem.W.kitOne K (.ref (He.ga K n)) (.ref (He.ga K c)) = some (decide (n = c) || decide (c = "TornError"))) && decide (PySem.W.exmOne K (.ref (He.ga K n)) (.ref (He.ga K c)) = some (decide (n = c) || decide (c = "TornError")))
theorem subB_ok {eN : List Str} {K : PySem.W.Frag} {mg : Str → Option Value} (h : subB eN K = true) : SubOk K mg (subT eN) := ⟨fun n c b e => by
  unfold subT at e
  split at e
  · rename_i hm
    simp only [Bool.and_eq_true, List.contains_iff_mem] at hm
    cases e
    have h1 := List.all_eq_true.mp h n hm.1
    rw [Bool.and_eq_true] at h1
    have h2 := List.all_eq_true.mp h1.2 c hm.2
    simp only [Bool.and_eq_true, decide_eq_true_eq] at h2
    exact ⟨excB_ok h1.1, h2.1, h2.2⟩
  · cases e⟩
theorem SubOk.cvOk {K : PySem.W.Frag} {mg : Str → Option Value} {sub : Str → Str → Option Bool} (so : SubOk K mg sub) (c : Str) : CvOk K sub c := fun n b e => (so.ok n c b e).2.2
end DL
namespace DL
open PySem PySem.Spec PyProof.Rows L2
def dXfN (c : Str) (a : Addr) (n : Str) (d : Option Addr) (f : Str) (te : DTE) : DTE := fun σ S Q => n = c ∧ dXf a d f te σ S Q
theorem de_xfN {X : Cx} {B : Hp × Store} {a : Addr} {oe : Obj} {n c : Str} {d : Option Addr} {pn : List (Addr × Obj)} {e : Expr} {te : DTE} {pos : Pos} {f : Str} (T : XfC X.K (He.ga X.K c) ∧ PySem.W.findIn X.K (.ref (He.ga X.K c)) f = some none)
    (hz : Zc (cv X.K n) d oe) (hf : ∃ vs, oe.data = .fields vs) (he : DE (X.suite a ((a, oe) :: pn)) B e te) (hb : attributeBase e f X.env (eval e X.env) = eval e X.env := by rfl) :
    DE (X.suite a ((a, oe) :: pn)) B (.Attribute e f pos) (dXfN c a n d f te) := ⟨fun pins s σv H σ S Q I ⟨e, h⟩ => by
  subst e
  exact (de_xf T.1 T.2 hz hf he hb).run pins s σv H σ S Q I h⟩
def dTry (sub : Str → Str → Option Bool) (tb : DWX → DTS) (l : List (Str × Option Nat × DHs)) (Wout : DWX) : DTS := fun D σ S => tb (dMany sub Wout D l) D σ S
end DL

namespace DL
open PySem PySem.Spec PyProof.Rows L2
/-! ### a Hook with the interpreter's statics, and a check of one's own -/
def asY (g : Addr → Option Obj) (n : Nat) : List Addr := He.asD g n ++ [cStatics]
def obsY (n : Nat) (fa : List He.Fa) (fn : List He.DefD) (ex : PySem.W.Frag → Bool) (g : Addr → Option Obj) : He.AlD × Bool := (He.obsD fa fn (He.frG g (asY g n)), ex (He.frG g (asY g n)))
def hookY (n : Nat) (fa : List He.Fa) (fn : List He.DefD) (ex : PySem.W.Frag → Bool) : PySem.W.Hook where
  α := He.AlD × Bool
  obs := fun s => obsY n fa fn ex s.heap.get?
  val := fun _ => (He.valD fn, true)
  says := fun _ h => ∃ K : PySem.W.Frag, K.In h ∧ He.SaysD fa fn K ∧ ex K = true
  of := fun _ _ e => ⟨_, He.frG_in, congrArg (fun z : He.AlD × Bool => z.1) e, congrArg (fun z : He.AlD × Bool => z.2) e⟩
  keeps := fun _ _ _ ⟨K, hK, c⟩ k => ⟨K, PySem.W.Frag.In.keeps hK k, c⟩
theorem obsY_eq {n : Nat} {fa : List He.Fa} {fn : List He.DefD} {ex : PySem.W.Frag → Bool} {g : Addr → Option Obj} {s : Shared} (h : ∀ a, g a = s.heap.get? a) : obsY n fa fn ex g = (hookY n fa fn ex).obs s := by
  have e : g = s.heap.get? := funext h
  rw [e] <;> rfl
end DL

namespace DL
open PySem PySem.Spec PyProof.Rows L2
/-! ### a list times an int -/
def rRepD : DR2 := fun x y S Q => match x, y with
  | .loc a, .int k => (match S a with
    | some (.lst xs) => 0 ≤ k ∧ k ≤ 1000 ∧ xs.length * k.toNat ≤ 10000 ∧ ∀ p, S p = none → Q (.loc p) (put S p (.lst (List.replicate k.toNat xs).flatten))
    | _ => False)
  | _, _ => False
theorem Rps.rep {H : Hp} {ds : List D} {vs : List V} (h : Rps H ds vs) : ∀ k : Nat, Rps H (List.replicate k ds).flatten (List.replicate k vs).flatten
  | 0 => rfl
  | k + 1 => by
    rw [List.replicate_succ, List.replicate_succ, List.flatten_cons, List.flatten_cons]
    exact h.append (Rps.rep h k)
theorem op_repD {X : Cx} : DOpR X (binaryOp .Mult) rRepD := by
  intro pins s σv H S vx vy x y v u Q I r rx ry px py q
  cases x with
  | loc a =>
    cases y with
    | int k =>
      cases (show vx = .ref a from px)
      cases (show vy = .int k from py)
      have q : (match S a with
        | some (.lst xs) => 0 ≤ k ∧ k ≤ 1000 ∧ xs.length * k.toNat ≤ 10000 ∧ ∀ p, S p = none → Q (.loc p) (put S p (.lst (List.replicate k.toNat xs).flatten))
        | _ => False) := q
      split at q
      · rename_i xs ea
        obtain ⟨k0, k1, hl, q⟩ := q
        obtain ⟨xv, h1, h2⟩ := r.inj_lst ea
        refine thn (op_rep (X := X) pins s σv H _ _ v u (fun z H' => ∃ d S', RelS X.prog X.w X.K H' S' ∧ Gx H S H' S' ∧ Rp H' d z ∧ Q d S') I rx ry
          ⟨a, k, xv, rfl, rfl, h1, by omega, by omega, by rw [h2.length, sizeLine_eq]; omega, fun p hp => ⟨.loc p, put S p (.lst (List.replicate k.toNat xs).flatten), ?_, Gx.new hp, rfl, q p (r.free hp)⟩⟩) fun w s' ⟨z, H', J, rz, d, S', a1, a2, a3, a4⟩ => ⟨z, d, H', S', J, a1, a2, rz, a3, a4⟩
        exact r.new hp ⟨_, upd_same, (h2.rep k.toNat).mono (Tx.new hp)⟩
      · exact q.elim
    | _ => exact q.elim
  | _ => exact q.elim
end DL

namespace DL
open PySem PySem.Spec PyProof.Rows L2
/-! ### t[::-1] -/
section
open HT
variable {prog : Program} {w : World} {A : Around} {E : Value → Shared → Prop} {s : Shared}
theorem places_rev (n : Nat) : Builtin.Slice.slicePlaces ((n : Int) - 1) (-1) (-1) = n := by
  unfold Builtin.Slice.slicePlaces
  have h1 : ¬ ((-1 : Int) > 0) := by omega
  simp only [h1, if_false]
  by_cases h : n = 0
  · subst h; simp
  · have h2 : (n : Int) - 1 > -1 := by omega
    simp only [h2, if_true]
    rw [show (- -1 : Int) = 1 from rfl, Int.ediv_one]
    omega
theorem adjust_rev (n : Nat) : Builtin.Slice.sliceAdjust none none (-1) (n : Int) = ((n : Int) - 1, -1) := by
  unfold Builtin.Slice.sliceAdjust
  simp
theorem pick_rev (its : List Value) : ((List.range its.length).filterMap fun (m : Nat) => its.toArray[(((its.length : Nat) : Int) - 1 + (m : Int) * -1).toNat]?).toArray = its.reverse.toArray := by
  have e : (fun (m : Nat) => its.toArray[(((its.length : Nat) : Int) - 1 + (m : Int) * -1).toNat]?) = (fun (i : Nat) => its[i]?) ∘ fun m => its.length - 1 - m := by
    funext m
    have : (((its.length : Nat) : Int) - 1 + (m : Int) * -1).toNat = its.length - 1 - m := by omega
    rw [this, List.getElem?_toArray]
    rfl
  rw [e, ← List.filterMap_map]
  congr 1
  have e2 : (List.range its.length).map (fun m => its.length - 1 - m) = (List.range its.length).reverse := by
    apply List.ext_getElem?
    intro i
    by_cases hi : i < its.length
    · rw [List.getElem?_map, List.getElem?_range hi, List.getElem?_reverse (by simpa using hi), List.length_range, List.getElem?_range (by omega)]
      rfl
    · rw [List.getElem?_eq_none (by simp; omega), List.getElem?_eq_none (by simp; omega)]
  rw [e2, List.filterMap_reverse]
  congr 1
  have e3 : ∀ (l pre : List Value), (List.range' pre.length l.length).filterMap (fun (i : Nat) => (pre ++ l)[i]?) = l := fun l => by
    induction l with
    | nil => intro pre; simp
    | cons a l ih =>
      intro pre
      rw [List.length_cons, List.range'_succ, List.filterMap_cons]
      have h0 : (pre ++ a :: l)[pre.length]? = some a := by simp
      rw [h0]
      have := ih (pre ++ [a])
      rw [List.length_append, List.length_singleton, List.append_assoc, List.singleton_append] at this
      simp only [this]
  have := e3 its []
  simpa [List.range_eq_range'] using this
theorem sliceApplied_rev {sl : Addr} {vl vu vs : Value} {n : Nat} {Q : Int × Int × Nat → Shared → Prop} (hs : s.heap.IsSliceOf sl vl vu vs) (pl : IsPart vl none) (pu : IsPart vu none) (ps : IsPart vs (some (-1)))
    (h : Q ((n : Int) - 1, -1, n) s) : wpAny (model prog w) A (Builtin.Slice.sliceApplied (.ref sl) (pure (n : Int))) Q E s := by
  obtain ⟨os, hos, hcs, hds⟩ := id hs
  unfold Builtin.Slice.sliceApplied Builtin.Slice.sliceFields
  refine wpAny_bind (wpAny_bind (wpAny_field hos hds (x := vl) rfl (wpAny_bind (wpAny_field hos hds (x := vu) rfl (wpAny_bind (wpAny_field hos hds (x := vs) rfl (wpAny_pure ?_)))))))
  refine wpAny_bind (slicePart_ ps ?_)
  show wpAny _ _ (if ((-1 : Int) == 0) = true then _ else _) _ _ s
  rw [if_neg (by decide)]
  refine wpAny_bind (slicePart_ pl (wpAny_bind (slicePart_ pu (wpAny_bind (wpAny_pure ?_)))))
  show wpAny _ _ (match Builtin.Slice.sliceAdjust none none (-1) (n : Int) with | (lo, hi) => pure (lo, (-1 : Int), Builtin.Slice.slicePlaces lo hi (-1))) _ _ s
  rw [adjust_rev]
  show wpAny _ _ (pure ((n : Int) - 1, (-1 : Int), Builtin.Slice.slicePlaces ((n : Int) - 1) (-1) (-1))) _ _ s
  rw [places_rev]
  exact wpAny_pure h
theorem getItem_tuple_rev {t sl : Addr} {its : List Value} {vl vu vs : Value} {Q : Value → Shared → Prop} (ht : IsTup s.heap t its.toArray) (hs : s.heap.IsSliceOf sl vl vu vs) (pl : IsPart vl none) (pu : IsPart vu none) (ps : IsPart vs (some (-1)))
    (h : Q (.ref s.heap.objs.size) { s with heap := s.heap.push { cls := .type "tuple", data := .seq its.reverse.toArray } })
    (hsz : its.length ≤ sizeLine) : wpAny (model prog w) A (getItem (.ref t) (.ref sl)) Q E s := by
  have htake : sizeOk (.seq its.reverse.toArray) := by
    show its.reverse.toArray.size ≤ sizeLine
    rw [List.size_toArray, List.length_reverse]; exact hsz
  obtain ⟨os, hos, hcs, hds⟩ := id hs
  have hTs : s.TypeIs (.ref sl) "slice" := ⟨os, hos, hcs⟩
  unfold getItem
  try with_reducible refine wpAny_holding ?_
  first | refine wpAny_bind (wpAny_pure ?_) | skip
  refine wpAny_bind (wpAny_sequenceKey ht.typeIs (by decide) ?_)
  refine wpAny_bind (wpAny_callSpecial?_slot (name := Str.ofString "__getitem__") ht.typeIs PyProof.Rows.slot_tuple_getitem
    (wpAny_call_entry PyProof.Rows.slot_tuple_getitem ht.typeIs entry_tuple_getitem ?_ (args_tuple_getitem _ _)))
  show wpAny _ _ (Builtin.Tuple.tupleItemsOf (.ref t) >>= _) _ _ s
  refine wpAny_bind (tupleItemsOf_ ht ?_)
  refine wpAny_bind (wpAny_typeOf hTs ?_)
  rw [if_pos (by decide)]
  refine wpAny_bind (sliceApplied_rev hs pl pu ps ?_)
  show wpAny _ _ (if (((its.toArray.size : Int) - 1 == 0 && (-1 : Int) == 1 && its.toArray.size == its.toArray.size)) = true then _ else _) _ _ s
  rw [if_neg (by rw [show ((-1 : Int) == 1) = false from rfl, Bool.and_false, Bool.false_and]; exact Bool.false_ne_true)]
  rw [List.size_toArray, pick_rev]
  first
    | exact wpAny_bind (m := Builtin.Tuple.tupleExact _) (wpAny_newObj_type (wpAny_pure ⟨_, rfl, wpAny_pure h⟩) htake)
    | exact wpAny_bind (m := Builtin.Tuple.tupleExact _) (wpAny_newObj_type (wpAny_bind (wpAny_pure (wpAny_pure ⟨_, rfl, wpAny_pure h⟩))) htake)
    | exact wpAny_bind (wpAny_bind (m := Builtin.Tuple.tupleExact _) (wpAny_newObj_type (wpAny_pure (wpAny_pure ⟨_, rfl, wpAny_pure h⟩)) htake))
    | exact wpAny_bind (wpAny_bind (m := Builtin.Tuple.tupleExact _) (wpAny_newObj_type (wpAny_pure ⟨_, rfl, wpAny_pure h⟩) htake))
end
theorem Rps.reverse {H : Hp} : ∀ {ds : List D} {vs : List V}, Rps H ds vs → Rps H ds.reverse vs.reverse
  | [], vs, h => by cases (show vs = [] from h); exact rfl
  | d :: ds, vs, h => by
    obtain ⟨v, r, rfl, p, h⟩ := h
    rw [List.reverse_cons, List.reverse_cons]
    exact (Rps.reverse h).append ⟨v, [], rfl, p, rfl⟩
def dRev (te : DTE) : DTE := fun σ S Q => te σ S fun x S1 => match x with
  | .tup ds => Q (.tup ds.reverse) S1
  | _ => False
theorem de_rev {X : Cx} {B : Hp × Store} {e : Expr} {te : DTE} {k : Nat} {p1 p2 p3 pos : Pos} (he : DE X B e te) : DE X B (.Subscript e (.Slice none none (some (.UnaryOp .USub (.Constant (.int 1) k p1) p2)) p3) pos) (dRev te) := by
  refine ⟨fun pins s σv H σ S Q I h => ?_⟩
  refine Subscript_ (thn (he.run pins s σv H σ S _ I h) fun v s1 ⟨x, d, H1, S1, I1, r1, t1, rx, px, q1⟩ => ?_)
  cases d with
  | tup ds =>
    obtain ⟨a, xs, rfl, h1, h2⟩ := px
    cases rx
    have hst : PO X (some (.UnaryOp .USub (.Constant (.int 1) k p1) p2)) (tPart (tUn (rU fun i => .int (-i)) (tC (.int 1)))) := po_some (pe_un un_neg pe_int)
    refine wpAny_Slice (thn (po_none.run pins s1 σv H1 (fun o H2 => o = none ∧ H2 = H1) I1 ⟨rfl, rfl⟩) fun vl s2 ⟨l, H2, I2, pl, el, e2⟩ => ?_)
    subst el e2
    refine thn (po_none.run pins s2 σv H2 (fun o H3 => o = none ∧ H3 = H2) I2 ⟨rfl, rfl⟩) fun vu s3 ⟨u, H3, I3, pu, eu, e3⟩ => ?_
    subst eu e3
    refine thn (hst.run pins s3 σv H3 (fun o H4 => o = some (-1) ∧ H4 = H3) I3 ⟨1, rfl, -1, rfl, rfl, rfl⟩) fun vs s4 ⟨o, H4, I4, ps, eo, e4⟩ => ?_
    subst eo e4
    have I5 : Inv X pins σv H4 { s4 with heap := s4.heap.push { cls := .type "slice", data := .fields #[vl, vu, vs] } } := I4.kept (t' := s4.toks) fun b ob q => Heap.get?_push_of_some _ q
    obtain ⟨its, r, ht, hz⟩ := I5.tuple (xs := xs) (.of h1)
    have hlen := r.length
    show wpAny (model X.prog X.w) X.A (subscriptTail e (.Slice none none (some (.UnaryOp .USub (.Constant (.int 1) k p1) p2)) p3) (.ref a) (.ref s4.heap.objs.size)) _ X.xe { s4 with heap := s4.heap.push { cls := .type "slice", data := .fields #[vl, vu, vs] } }
    refine tail_any (ops := [.ref a, .ref s4.heap.objs.size]) ht.typeIs (PyProof.Rows.slot_tuple_getitem.lookup) ?_ (by with_unfolding_all rfl)
    refine getItem_tuple_rev ht (Heap.IsSliceOf.new _ vl vu vs) pl pu ps ?_ (by omega)
    have hp : H4 (s4.heap.push { cls := .type "slice", data := .fields #[vl, vu, vs] }).objs.size = none := I5.hok.fresh (Nat.le_refl _)
    have I6 := I5.laid (t' := s4.toks) (o := .tup xs.reverse) (fun b ob q => Heap.get?_push_of_some _ q) (Nat.le_refl _) (h' := (s4.heap.push { cls := .type "slice", data := .fields #[vl, vu, vs] }).push { cls := .type "tuple", data := .seq its.reverse.toArray })
      ⟨by rw [List.length_reverse]; exact hz, _, r.reverse, ⟨_, Heap.get?_push_size _ rfl, rfl, 0, rfl⟩⟩
    exact ⟨.ref _, .tup ds.reverse, _, S1, I6, r1.grow hp, t1.trans (Gx.grow hp), rfl, ⟨_, xs.reverse, rfl, upd_same, h2.reverse.mono (Tx.new hp)⟩, q1⟩
  | _ => exact q1.elim
end DL

namespace DL
open PySem PySem.Spec PyProof.Rows L2
/-! ### xs.extend(t) -/
section
open PySem.P in
theorem ext_tuple (l : Addr) (items : Array Value) (n : Nat) (b : Addr) (items2 : Array Value) (n2 : Nat) (dd : Option Addr) (sl : Array (Option Value)) (hs0 : ¬(!items.isEmpty && Builtin.List.listTooLong (items.size + items2.size)) = true) (hs1 : items.size ≤ sizeLine) (hs2 : items.size + items2.size ≤ sizeLine + 1) :
    Meets (Builtin.«list.extend» ⟨[.ref l, .ref b], []⟩) (fun _ R s => s.heap.get? l = some { cls := .type "list", dict := none, data := .seq items n, slots := #[] } ∧ s.heap.get? b = some { cls := .type "tuple", dict := dd, data := .seq items2 n2, slots := sl } ∧ R (.ok (.ret Value.none)) { s with heap := s.heap.update l (Obj.mapSeq fun x => x ++ items2), toks := s.toks }) :=
  .of_wp fun prog w A R s h => by
    obtain ⟨hp, g, d, tk, os⟩ := s; obtain ⟨hl, hb, h⟩ := h; have f1 := AutoSeq1.idx_int; have f2 := AutoSeq1.sub_tuple_tuple; have f3 := AutoSeq1.sub_list_list; have f4 := AutoSeq1.sub_tuple_list; have f5 := AutoSeq1.sub_list_tuple;
    have hz' : (items ++ items2).size ≤ sizeLine + 1 := by rw [Array.size_append]; exact hs2
    wp_walk using (wpAny_updateSeq hl rfl (hz := hs1) (_hz' := hz')), wpAny_loadPart' hl, wpAny_loadPart' hb; exact ⟨_, rfl, h⟩
end
def rExtD : D → List D → Store → DQ → Prop
  | .loc a, [.tup ys], S, Q => (match S a with
    | some (.lst ds) => ds.length + ys.length ≤ 10000 ∧ Q .non (put S a (.lst (ds ++ ys)))
    | _ => False)
  | _, _, _, _ => False
section
variable {X : Cx}
theorem mt_extD : DMtR X "list.extend" rExtD := by
  intro pins s σv H S x xs d ds v us Q I r rx rv px pv q
  cases d with
  | loc a =>
    cases ds with
    | nil => exact q.elim
    | cons y ds =>
      cases y with
      | tup ys =>
        cases ds with
        | cons _ _ => exact q.elim
        | nil =>
          have q : (match S a with | some (.lst ds) => ds.length + ys.length ≤ 10000 ∧ Q .non (put S a (.lst (ds ++ ys))) | _ => False) := q
          split at q
          · rename_i zs es
            obtain ⟨hl, q⟩ := q
            obtain ⟨yv, _, rfl, p1, p2⟩ := pv
            cases (show _ = [] from p2)
            cases (show x = .ref a from px)
            obtain ⟨b, yvs, rfl, hb, hys⟩ := p1
            obtain ⟨zv, h1, h2⟩ := r a _ es
            cases rx
            obtain ⟨u, rfl, ru⟩ := rv.one
            cases ru
            obtain ⟨z, its, n, rr, hl1, e⟩ := I.lstM h1
            obtain ⟨its2, r2, ⟨o2, e2, c2, n2, d2⟩, hz2⟩ := I.tuple (xs := yvs) (.of hb)
            obtain ⟨oc, od, oda, osl⟩ := o2
            dsimp only at c2 d2
            subst c2 d2
            have k1 := h2.length
            have k2 := hys.length
            have k3 := r2.length
            have hsz : its.toArray.size + its2.toArray.size ≤ sizeLine := by rw [List.size_toArray, List.size_toArray, sizeLine_eq]; omega
            have hlong : ¬ (!its.toArray.isEmpty && Builtin.List.listTooLong (its.toArray.size + its2.toArray.size)) = true := by
              rw [notLongL hsz, Bool.and_false]
              exact Bool.false_ne_true
            refine call_meets PySem.F.slot_list_extend ⟨_, e, rfl⟩ PySem.F.entry_list_extend (PySem.F.args_list_extend_2 _ _)
              (ext_tuple a its.toArray n b its2.toArray n2 od osl hlong (by rw [List.size_toArray] at hsz ⊢; omega) (by omega)) ⟨e, e2, ?_⟩
            exact ⟨.non, .non, _, _, I.lset (its' := its ++ its2) (t' := s.toks) h1 e (by simp) (rr.append r2) (by rw [List.length_append, sizeLine_eq]; omega), r.writeL es (h2.append hys), Gx.write es, rfl, rfl, q⟩
          · exact q.elim
      | _ => cases ds <;> exact q.elim
  | _ => exact q.elim
variable {B : Hp × Store} {o e : Expr} {to : DTE} {t : DTA} {apos cpos : Pos}
theorem m_ext (ho : DE X B o to) (ha : DA X B [e] t) (hbase : attributeBase o "extend" X.env (eval o X.env) = eval o X.env := by rfl)
    (hfew : ((backTo cpos (starEach [e] X.env)).all (fun x => !x.1) && (backToKw cpos (keywordEach [] X.env)).all (fun x => x.1.isSome) && decide ([e].length + ([] : List Keyword).length + (if ([] : List Keyword).isEmpty then 0 else 1) < 30)) = true := by rfl)
    (hline : (apos.endLine == cpos.line) = true := by rfl) (hs : starEach [e] X.env = (false, eval e X.env) :: starEach [] X.env := by rfl) (hplain : (backTo cpos (starEach [] X.env)).any (·.1) = false := by rfl) :
    DE X B (.Call (.Attribute o "extend" apos) [e] [] cpos) (dBM "list" rExtD to t) := de_bm PySem.F.plainAttrs_list PySem.F.slot_list_extend PySem.F.type_list_extend mt_extD ho ha hbase hfew hline hs hplain
end
/-! ### xs[::-1] -/
def dRevL (te : DTE) : DTE := fun σ S Q => te σ S fun x S1 => match x with
  | .loc a => (match S1 a with
    | some (.lst ds) => ∀ p, S1 p = none → Q (.loc p) (put S1 p (.lst ds.reverse))
    | _ => False)
  | _ => False
theorem de_revL {X : Cx} {B : Hp × Store} {e : Expr} {te : DTE} {k : Nat} {p1 p2 p3 pos : Pos} (he : DE X B e te) : DE X B (.Subscript e (.Slice none none (some (.UnaryOp .USub (.Constant (.int 1) k p1) p2)) p3) pos) (dRevL te) := by
  refine ⟨fun pins s σv H σ S Q I h => ?_⟩
  refine thn ((pe_revL he.pe).run pins s σv H (fun v H' => ∃ d S', RelS X.prog X.w X.K H' S' ∧ Gx H S H' S' ∧ Rp H' d v ∧ Q d S') I.inv ⟨σ, S, _, I.sl, I.st, I.bs, h, fun x S1 v H1 q p r g => ?_⟩) fun u s' ⟨v, H', J, r, d, S', a, b, c, q⟩ => ⟨v, d, H', S', J, a, b, r, c, q⟩
  cases x with
  | loc a =>
    cases (show v = .ref a from p)
    have q : (match S1 a with | some (.lst ds) => ∀ p, S1 p = none → Q (.loc p) (put S1 p (.lst ds.reverse)) | _ => False) := q
    split at q
    · rename_i ds es
      obtain ⟨xs, h1, h2⟩ := r a _ es
      exact ⟨a, xs, rfl, .of h1, fun p hp => ⟨.loc p, put S1 p (.lst ds.reverse), r.newL hp h2.reverse, g.trans (Gx.new hp), rfl, q p (r.free hp)⟩⟩
    · exact q.elim
  | _ => exact q.elim
end DL

namespace DL
open PySem PySem.Spec PyProof.Rows L2
/-! ### plain data are told apart -/
mutual
theorem pd_inj : ∀ (n m : Nat) (a b : D), a.pl n = true → b.pl m = true → a.pd = b.pd → a = b
  | n, m, .non, b, h, h', e => by
    cases b with
    | non => rfl
    | loc _ => cases m <;> simp [D.pl] at h'
    | ty _ => cases m <;> simp [D.pl] at h'
    | _ => simp [D.pd] at e
  | n, m, .int i, b, h, h', e => by
    cases b with
    | int j => simp [D.pd] at e; rw [e]
    | _ => simp [D.pd] at e
  | n, m, .str i, b, h, h', e => by
    cases b with
    | str j => simp [D.pd] at e; rw [e]
    | _ => simp [D.pd] at e
  | n + 1, m, .tup ds, b, h, h', e => by
    cases b with
    | tup es =>
      cases m with
      | zero => simp [D.pl] at h'
      | succ m =>
        simp [D.pd] at e
        rw [pds_inj n m ds es (by simpa [D.pl] using h) (by simpa [D.pl] using h') e]
    | _ => simp [D.pd] at e
  | 0, _, .tup _, _, h, _, _ => by simp [D.pl] at h
  | n, _, .bl _, _, h, _, _ => by cases n <;> simp [D.pl] at h
  | n, _, .loc _, _, h, _, _ => by cases n <;> simp [D.pl] at h
  | n, _, .ty _, _, h, _, _ => by cases n <;> simp [D.pl] at h
theorem pds_inj : ∀ (n m : Nat) (a b : List D), (∀ d ∈ a, d.pl n = true) → (∀ d ∈ b, d.pl m = true) → D.pds a = D.pds b → a = b
  | n, m, [], [], _, _, _ => rfl
  | n, m, x :: a, y :: b, h, h', e => by
    simp [D.pds] at e
    rw [pd_inj n m x y (h x (by simp)) (h' y (by simp)) e.1, pds_inj n m a b (fun d hd => h d (List.mem_cons_of_mem _ hd)) (fun d hd => h' d (List.mem_cons_of_mem _ hd)) e.2]
  | n, m, [], _ :: _, _, _, e => by simp [D.pds] at e
  | n, m, _ :: _, [], _, _, e => by simp [D.pds] at e
end
/-! ### min of a list -/
def minF (x : D) (xs : List D) : D := xs.foldl (fun a y => if D.lt y a then y else a) x
theorem minF_pd (x : D) (xs : List D) : PySem.W.minD x.pd (xs.map D.pd) = (minF x xs).pd := by
  unfold PySem.W.minD minF
  induction xs generalizing x with
  | nil => rfl
  | cons y ys ih =>
    rw [List.map_cons, List.foldl_cons, List.foldl_cons]
    have : (if PySem.W.dataLt y.pd x.pd = true then y.pd else x.pd) = (if D.lt y x = true then y else x).pd := by
      unfold D.lt
      split <;> rfl
    rw [this]
    exact ih _
theorem minF_mem (x : D) (xs : List D) : minF x xs ∈ x :: xs := by
  unfold minF
  induction xs generalizing x with
  | nil => simp
  | cons y ys ih =>
    rw [List.foldl_cons]
    have := ih (if D.lt y x = true then y else x)
    rcases List.mem_cons.mp this with h | h
    · rw [h]
      split <;> simp
    · exact List.mem_cons_of_mem _ (List.mem_cons_of_mem _ h)
def minOk (ys : List D) : Prop := (∀ d ∈ ys, ∀ e ∈ ys, PySem.W.alike d.pd e.pd = true) ∧ ∀ d ∈ ys, d.pl 8 = true ∧ isN d = false
def rMinL : List D → Store → DQ → Prop := fun ds S Q => match ds with
  | [.loc a] => (match S a with
    | some (.lst (x :: xs)) => minOk (x :: xs) ∧ Q (minF x xs) S
    | _ => False)
  | _ => False
section
variable {X : Cx}
theorem reads_all2 {pins : List (Addr × Obj)} {σv : L2.St} {H : Hp} {s : Shared} (I : Inv X pins σv H s) : ∀ {ds : List D} {vs : List V} {us : List Value}, (∀ d ∈ ds, d.pl 8 = true) → Rps H ds vs → Vals vs us → ∃ as, ReadsAll s.heap us (D.pds ds) as
  | [], vs, us, _, p, r => by
    cases (show vs = [] from p)
    cases r
    exact ⟨_, .nil⟩
  | d :: ds, vs, us, h, p, r => by
    obtain ⟨v, vr, rfl, p1, p2⟩ := p
    cases r with
    | cons r1 r2 =>
      obtain ⟨as, ra⟩ := reads_of I d v _ (pl_pure 8 d (h d (by simp))) p1 r1
      obtain ⟨bs, rb⟩ := reads_all2 I (fun x hx => h x (List.mem_cons_of_mem _ hx)) p2 r2
      exact ⟨_, .cons ra rb⟩
theorem depthAll_le2 : ∀ (ds : List D), (∀ d ∈ ds, d.pl 8 = true) → PyData.depthAll (D.pds ds) ≤ 8
  | [], _ => by simp [D.pds, PyData.depthAll]
  | d :: ds, h => by
    have h1 := pl_depth 8 d (h d (by simp))
    have h2 := depthAll_le2 ds fun x hx => h x (List.mem_cons_of_mem _ hx)
    simp only [D.pds, PyData.depthAll]
    omega
theorem call_minLD (hc : X.calm = true) (hu : X.A.units + 64 < cLine) : DCallR X (.builtin "min") rMinL := by
  intro pins s σv H S xs ds us Q I r rv pv q
  cases ds with
  | nil => exact q.elim
  | cons d ds =>
    cases d with
    | loc a =>
      cases ds with
      | cons _ _ => exact q.elim
      | nil =>
        have q : (match S a with | some (.lst (x :: xs)) => minOk (x :: xs) ∧ Q (minF x xs) S | _ => False) := q
        split at q
        · rename_i y ys es
          obtain ⟨ok, q⟩ := q
          obtain ⟨x, _, rfl, p1, p2⟩ := pv
          cases (show _ = [] from p2)
          obtain ⟨u, rfl, ru⟩ := vals1 rv
          cases (show x = .ref a from p1)
          cases ru
          obtain ⟨xv, h1, h2⟩ := r a _ es
          obtain ⟨its, r', pl, hz⟩ := I.list (.of h1)
          obtain ⟨as, ra⟩ := reads_all2 I (fun d hd => (ok.2 d hd).1) h2 r'
          have ra' : ReadsAll s.heap its.toArray.toList (y.pd :: ys.map D.pd) as := by
            rw [D.pds_map] at ra
            simpa using ra
          refine PySem.W.min_list_data (I.ok.hd hc) pl.isList ra' ⟨fun a ha b hb => ?_, fun a ha => ?_⟩ ?_ fun i v h' tk bs hv hr hk => ?_
          · rw [← List.map_cons] at ha hb
            obtain ⟨a', ha', rfl⟩ := List.mem_map.mp ha
            obtain ⟨b', hb', rfl⟩ := List.mem_map.mp hb
            exact ok.1 a' ha' b' hb'
          · rw [← List.map_cons] at ha
            obtain ⟨a', ha', rfl⟩ := List.mem_map.mp ha
            obtain ⟨k1, k2⟩ := ok.2 a' ha'
            cases a' with
            | non => simp [isN] at k2
            | loc _ => simp [D.pl] at k1
            | ty _ => simp [D.pl] at k1
            | _ => simp [D.pd]
          · have := depthAll_le2 (y :: ys) fun d hd => (ok.2 d hd).1
            rw [D.pds_map] at this
            have : PyData.depthAll (y.pd :: ys.map D.pd) ≤ 8 := this
            omega
          · have I1 : Inv X pins σv H { s with heap := h', toks := tk } := I.kept hk
            have hit : its[i]? = some v := by simpa using hv
            have hlt : i < its.length := by
              rcases Nat.lt_or_ge i its.length with h | h
              · exact h
              · rw [List.getElem?_eq_none h] at hit; cases hit
            have hlen := r'.length
            have hlen2 := h2.length
            have hyi : (y :: ys)[i]? = some ((y :: ys)[i]'(by omega)) := List.getElem?_eq_getElem _
            generalize hgg : ((y :: ys)[i]'(by omega)) = yi at hyi
            obtain ⟨w, hw, pw⟩ := h2.get hyi
            obtain ⟨u', hu', rw'⟩ := Vals.get r' hw
            rw [hit] at hu'
            cases hu'
            have hmem : yi ∈ y :: ys := List.mem_of_getElem? hyi
            obtain ⟨cs, rc⟩ := reads_of I1 yi w v (pl_pure 8 yi (ok.2 yi hmem).1) pw rw'
            have e1 := (Reads.unique rc _ _ hr).1
            rw [minF_pd] at e1
            have e2 := pd_inj 8 8 yi (minF y ys) (ok.2 yi hmem).1 (ok.2 _ (minF_mem y ys)).1 e1
            subst e2
            exact ⟨w, _, H, S, I1, r, Gx.refl, rw', pw, q⟩
        · exact q.elim
    | _ => cases ds <;> exact q.elim
end
end DL

namespace DL
open PySem PySem.Spec PyProof.Rows L2
/-! ### d.get(k, x) -/
section
variable {X : Cx}
variable {B : Hp × Store} {o e e2 : Expr} {to : DTE} {t : DTA} {apos cpos : Pos}
theorem m_getK (hu : X.A.units + 64 < cLine) (ho : DE X B o to) (ha : DA X B [e, e2] t) (hbase : attributeBase o "get" X.env (eval o X.env) = eval o X.env := by rfl)
    (hfew : ((backTo cpos (starEach [e, e2] X.env)).all (fun x => !x.1) && (backToKw cpos (keywordEach [] X.env)).all (fun x => x.1.isSome) && decide ([e, e2].length + ([] : List Keyword).length + (if ([] : List Keyword).isEmpty then 0 else 1) < 30)) = true := by rfl)
    (hline : (apos.endLine == cpos.line) = true := by rfl) (hs : starEach [e, e2] X.env = (false, eval e X.env) :: starEach [e2] X.env := by rfl) (hplain : (backTo cpos (starEach [e2] X.env)).any (·.1) = false := by rfl) :
    DE X B (.Call (.Attribute o "get" apos) [e, e2] [] cpos) (dBM "dict" rGetK to t) := de_bm PySem.F.plainAttrs_dict PySem.F.slot_dict_get PySem.F.type_dict_get (mt_getK hu) ho ha hbase hfew hline hs hplain
end
/-! ### sorted(d.items()) -/
def pairD (p : D × D) : D := .tup [p.1, p.2]
def layT (H : Hp) (l : List (Addr × List V)) : Hp := fun b => match l.lookup b with | some xs => some (.tup xs) | none => H b
theorem layT_in {H : Hp} {l : List (Addr × List V)} {b : Addr} {xs : List V} (h : l.lookup b = some xs) : layT H l b = some (.tup xs) := by unfold layT; rw [h]
theorem layT_out {H : Hp} {l : List (Addr × List V)} {b : Addr} (h : l.lookup b = none) : layT H l b = H b := by unfold layT; rw [h]
theorem lookup_mem {l : List (Addr × List V)} {b : Addr} {xs : List V} (h : l.lookup b = some xs) : (b, xs) ∈ l := by
  induction l with
  | nil => cases h
  | cons p l ih =>
    obtain ⟨c, ys⟩ := p
    rw [List.lookup_cons] at h
    by_cases hb : (b == c) = true
    · rw [hb] at h
      cases h
      rw [beq_iff_eq.mp hb]
      exact List.mem_cons_self
    · rw [Bool.eq_false_iff.mpr hb] at h
      exact List.mem_cons_of_mem _ (ih h)
theorem lookup_of {l : List (Addr × List V)} (hn : (l.map (·.1)).Nodup) {b : Addr} {xs : List V} (h : (b, xs) ∈ l) : l.lookup b = some xs := by
  induction l with
  | nil => simp at h
  | cons p l ih =>
    obtain ⟨c, ys⟩ := p
    rw [List.map_cons, List.nodup_cons] at hn
    rw [List.lookup_cons]
    rcases List.mem_cons.mp h with h | h
    · cases h; simp
    · have hne : (b == c) = false := by
        rw [Bool.eq_false_iff]
        intro z
        exact hn.1 (List.mem_map.mpr ⟨(b, xs), h, beq_iff_eq.mp z⟩)
      rw [hne]
      exact ih hn.2 h
theorem lay_tups {X : Cx} {pins : List (Addr × Obj)} {σv : L2.St} {H : Hp} {s : Shared} {h' : Heap} {tk : Nat} (I : Inv X pins σv H s) (hk : ∀ b o, s.heap.get? b = some o → h'.get? b = some o) (l : List (Addr × List V)) (hfr : ∀ p ∈ l, s.heap.objs.size ≤ p.1)
    (hl : ∀ p ∈ l, p.2.length ≤ sizeLine ∧ ∃ its : List Value, Vals p.2 its ∧ IsTup h' p.1 its.toArray) : Inv X pins σv (layT H l) { s with heap := h', toks := tk } := by
  have hno : ∀ {b : Addr} {o : HO}, H b = some o → l.lookup b = none := fun {b o} e => by
    cases h : l.lookup b with
    | none => rfl
    | some xs =>
      have := hfr _ (lookup_mem h)
      rw [I.hok.fresh this] at e
      cases e
  have hold : ∀ {b : Addr} {o : HO}, H b = some o → layT H l b = some o := fun {b o} e => by rw [layT_out (hno e)]; exact e
  have Un1 : Un X.fs [] H (layT H l) s.heap h' := {
    keep := fun b o q n _ _ => hk b o q
    slot := fun b o q n _ _ => ⟨o.slots, hk b o q⟩
    free := fun b o q n _ => by
      have : l.lookup b = none := by
        cases h : l.lookup b with
        | none => rfl
        | some xs =>
          have h1 := hfr _ (lookup_mem h)
          have h2 := Heap.lt_size q
          exact absurd h2 (Nat.not_lt.mpr h1)
      rw [layT_out this]; exact n
    there := fun b o q _ => ⟨o, hk b o q⟩
    tups := fun b xs q => hold q
    frzs := fun b o v q => hold q
    tbls := fun b ps q => ⟨#[], by rw [hold q]; simp⟩ }
  refine I.un (t' := tk) Un1 fun b o q => ?_
  cases h : l.lookup b with
  | some xs =>
    rw [layT_in h] at q
    cases q
    exact hl _ (lookup_mem h)
  | none =>
    rw [layT_out h] at q
    exact (I.hok b o q).stay (fun c v hc z => hk c v z) (fun c hc => hold hc) (fun c xs hc => hold hc)
theorem layT_old {X : Cx} {pins : List (Addr × Obj)} {σv : L2.St} {H : Hp} {s : Shared} (I : Inv X pins σv H s) {l : List (Addr × List V)} (hfr : ∀ p ∈ l, s.heap.objs.size ≤ p.1) {b : Addr} {o : HO} (e : H b = some o) : layT H l b = some o := by
  have : l.lookup b = none := by
    cases h : l.lookup b with
    | none => rfl
    | some xs =>
      have := hfr _ (lookup_mem h)
      rw [I.hok.fresh this] at e
      cases e
  rw [layT_out this]; exact e
theorem exists_list {α β : Type} : ∀ (as : List α) (P : Nat → α → β → Prop), (∀ j a, as[j]? = some a → ∃ x, P j a x) → ∃ xs : List β, xs.length = as.length ∧ ∀ j a, as[j]? = some a → ∃ x, xs[j]? = some x ∧ P j a x
  | [], P, _ => ⟨[], rfl, fun j a h => by simp at h⟩
  | a :: as, P, h => by
    obtain ⟨x, hx⟩ := h 0 a rfl
    obtain ⟨xs, hl, hxs⟩ := exists_list as (fun j => P (j + 1)) fun j b hb => h (j + 1) b (by simpa using hb)
    refine ⟨x :: xs, by simp [hl], fun j b hb => ?_⟩
    cases j with
    | zero =>
      simp at hb
      subst hb
      exact ⟨x, rfl, hx⟩
    | succ j =>
      obtain ⟨y, h1, h2⟩ := hxs j b (by simpa using hb)
      exact ⟨y, by simpa using h1, h2⟩
def dSortI (to : DTE) : DTE := fun σ S Q => to σ S fun x S1 => match x with
  | .loc a => (match S1 a with
    | some (.dic _ kvs) => sortOk (kvs.map pairD) ∧ ∀ p, S1 p = none → Q (.loc p) (put S1 p (.lst (dsort (kvs.map pairD))))
    | _ => False)
  | _ => False
section
variable {X : Cx} {B : Hp × Store} {o : Expr} {to : DTE} {apos cpos p pos : Pos}
theorem de_sortI (hc : X.calm = true) (hu : X.A.units + 64 < cLine) (hm : X.mg "sorted" = none) (ho : DE X B o to) (hg : Gl X "sorted" := by rfl) (hbase : attributeBase o "items" X.env (eval o X.env) = eval o X.env := by rfl) (hline : (apos.endLine == cpos.line) = true := by rfl)
    (hs : starEach [.Call (.Attribute o "items" apos) [] [] cpos] X.env = (false, eval (.Call (.Attribute o "items" apos) [] [] cpos) X.env) :: starEach [] X.env := by rfl) (hpl : (backTo pos (starEach [] X.env)).any (·.1) = false := by rfl) :
    DE X B (.Call (.Name "sorted" p) [.Call (.Attribute o "items" apos) [] [] cpos] [] pos) (dSortI to) := by
  refine ⟨fun pins s σv H σ S Q I h => ?_⟩
  refine wpAny_Call_Name_kw (ld_blt I.inv hg hm (show bootBuiltins "sorted" = some (.builtin "sorted") from boot_sorted) ?_ (by decide) (by decide))
  refine PyProof.Rows.callWith_builtin1 ?_ hs hpl
  rw [hs]
  show wpAny _ _ (spliced ((false, eval (.Call (.Attribute o "items" apos) [] [] cpos) X.env) :: backTo pos (starEach [] X.env))) _ _ s
  refine Calls.spliced_cons ?_
  refine wpAny_Call_method0_late hbase hline (thn (ho.run pins s σv H σ S _ I h) fun v s1 ⟨x, d, H1, S1, I1, r1, t1, rx, px, q1⟩ => ?_)
  cases d with
  | loc a =>
    have q1 : (match S1 a with | some (.dic _ kvs) => sortOk (kvs.map pairD) ∧ ∀ p, S1 p = none → Q (.loc p) (put S1 p (.lst (dsort (kvs.map pairD)))) | _ => False) := q1
    split at q1
    · rename_i n kvs es
      obtain ⟨ok, q⟩ := q1
      obtain ⟨h1, h2⟩ := tyD_is (T := "dict") I1 r1 rx px (by simp [tyD, es])
      refine ⟨"dict", "dict.items", PySem.F.plainAttrs_dict, PySem.F.slot_dict_items, PySem.F.type_dict_items, h1, h2, Calls.callWith_builtin rfl (PySem.evalArgs_none ?_)⟩
      cases (show x = .ref a from px)
      cases rx
      obtain ⟨ob, ys, hD⟩ := r1 a _ es
      obtain ⟨en, hd1, hd2⟩ := hD.es
      have hraw : s1.heap.DictRaw a en n := ⟨ob, (I1.hok a _ hD.at_).1, hD.exact_, hd1⟩
      have hsz : en.size = kvs.length := by rw [← Array.length_toList, hd2, List.length_map, paired_len hD.rel]
      have hh : X.A.handled = none := I1.ok.hd hc
      refine call_meetsIn PySem.F.slot_dict_items hraw.typeIs PySem.F.entry_dict_items (PySem.F.args_dict_items_1 _) (meets_dict_items_raw a hD.sys) ⟨⟨en, n, hraw⟩, ?_⟩
      have I2 : Inv X pins σv H1 { s1 with heap := s1.heap.push { cls := .type "dict_items", data := .fields #[.ref a] } } := I1.kept (t' := s1.toks) fun b ob q => Heap.get?_push_of_some _ q
      refine Calls.spliced_nil ?_
      refine Calls.call_function_entry kind_sorted plain_sorted entry_sorted (args_sorted1 _) ?_
      unfold Builtin.«sorted»
      refine wpAny_bind (m := checkCount "sorted" 1 1 _) (wpAny_pure ?_)
      refine wpAny_bind (PySem.W.dil_collect (A := X.A.in1) (es := en) (ep := n) hh ⟨_, Heap.get?_push_size _ rfl, rfl, rfl⟩ (hraw.push _) (by rw [hsz]; exact hD.len) fun h' tk as hk hlen hG => ?_)
      -- the pairs
      have hat : ∀ (j : Nat) (ad : Addr), as[j]? = some ad → ∃ (pp : D × D) (xx : NestedKey × Addr × Value) (vv : V), kvs[j]? = some pp ∧ ys[j]? = some xx ∧ h'.get? ad = some { cls := .type "tuple", data := .seq #[.ref xx.2.1, xx.2.2] } ∧ RelV vv xx.2.2 ∧ Rp H1 pp.1 (.ref xx.2.1) ∧ Rp H1 pp.2 vv := fun j ad hj => by
        obtain ⟨hjs, hget⟩ := hG.pairs j ad hj
        have hjk : j < kvs.length := by omega
        obtain ⟨xx, hx, q1, q2, q3, q4, q5, vv, q6, q7⟩ := paired_get hD.rel (List.getElem?_eq_getElem hjk)
        have e3 : en[j] = entryOfKey (nestedKind X.prog X.w) xx := by
          have e4 : en.toList[j]? = some (entryOfKey (nestedKind X.prog X.w) xx) := by rw [hd2, List.getElem?_map, hx]; rfl
          rw [Array.getElem?_toList, Array.getElem?_eq_getElem hjs] at e4
          exact Option.some.inj e4
        rw [e3] at hget
        exact ⟨_, xx, vv, List.getElem?_eq_getElem hjk, hx, hget, q6, q5, q7⟩
      obtain ⟨vss, hvl, hvs⟩ := exists_list as (fun j ad xs => ∃ (pp : D × D) (its : List Value), kvs[j]? = some pp ∧ Vals xs its ∧ IsTup h' ad its.toArray ∧ xs.length ≤ sizeLine ∧ Rps H1 [pp.1, pp.2] xs) fun j ad hj => by
        obtain ⟨pp, xx, vv, k1, k2, k3, k4, k5, k6⟩ := hat j ad hj
        exact ⟨[.ref xx.2.1, vv], pp, [.ref xx.2.1, xx.2.2], k1, .cons rfl (.cons k4 .nil), ⟨_, k3, rfl, 0, rfl⟩, (by rw [sizeLine_eq]; simp), _, _, rfl, k5, _, _, rfl, k6, rfl⟩
      have hz1 : (as.zip vss).map (·.1) = as := List.map_fst_zip (by omega)
      have hnd : ((as.zip vss).map (·.1)).Nodup := by rw [hz1]; exact hG.rise.imp fun h z => Nat.ne_of_lt h z
      have hmz : ∀ pz ∈ as.zip vss, ∃ j, as[j]? = some pz.1 ∧ vss[j]? = some pz.2 := fun pz hz => by
        obtain ⟨j, hj⟩ := List.mem_iff_getElem?.mp hz
        rw [List.getElem?_zip_eq_some] at hj
        exact ⟨j, hj.1, hj.2⟩
      have hfr : ∀ pz ∈ as.zip vss, (s1.heap.push { cls := .type "dict_items", data := .fields #[.ref a] }).objs.size ≤ pz.1 := fun pz hz => by
        obtain ⟨j, hj, _⟩ := hmz pz hz
        exact Nat.le_of_lt (hG.above _ (List.mem_of_getElem? hj))
      have I3 := lay_tups (tk := tk) I2 hk (as.zip vss) hfr fun pz hz => by
        obtain ⟨j, hj, hv⟩ := hmz pz hz
        obtain ⟨xs, e1, pp, its, _, k2, k3, k4, _⟩ := hvs j pz.1 hj
        rw [hv] at e1
        cases e1
        exact ⟨k4, its, k2, k3⟩
      have old : ∀ {b : Addr} {o : HO}, H1 b = some o → layT H1 (as.zip vss) b = some o := fun e => layT_old I2 hfr e
      have tx : Tx H1 (layT H1 (as.zip vss)) := fun b xs e => old e
      have rs : RelS X.prog X.w X.K (layT H1 (as.zip vss)) S1 := fun b m e => by
        obtain ⟨u, hu1, _⟩ := (r1 b m e).some
        exact (r1 b m e).mono tx (by rw [old hu1, hu1])
      have gx : Gx H1 S1 (layT H1 (as.zip vss)) S1 := fun b o e e' => ⟨old e, e'⟩
      refine wpAny_mono (sort_tail (s := { s1 with heap := h', toks := tk }) (its := as.map Value.ref) (ys := kvs.map pairD) (h' := h') (tk := tk) hu I3 rs (fun _ _ z => z) ?_ ok (by rw [List.length_map]; exact hD.len) q) (fun fin s' ⟨v, e, hh⟩ => ⟨v, e, (hh.tx gx).tx t1⟩) (fun _ _ z => z)
      refine each_at (by rw [List.length_map, List.length_map, hlen, hsz]) fun i u d eu ed => ?_
      rw [List.getElem?_map] at eu ed
      cases ha : as[i]? with
      | none => rw [ha] at eu; cases eu
      | some ad =>
        rw [ha] at eu
        cases eu
        obtain ⟨xs, e1, pp, its, k1, _, _, _, k5⟩ := hvs i ad ha
        rw [k1] at ed
        cases ed
        refine ⟨.ref ad, rfl, ad, xs, rfl, ?_, k5.mono tx⟩
        refine layT_in (lookup_of hnd ?_)
        exact List.mem_of_getElem? (i := i) (by rw [List.getElem?_zip_eq_some]; exact ⟨ha, e1⟩)
    · exact q1.elim
  | _ => exact q1.elim
end
end DL

namespace DL
open PySem PySem.Spec PyProof.Rows L2
/-! ### max of a list -/
def maxF (x : D) (xs : List D) : D := xs.foldl (fun a y => if D.lt a y then y else a) x
theorem maxF_pd (x : D) (xs : List D) : PySem.W.maxD x.pd (xs.map D.pd) = (maxF x xs).pd := by
  unfold PySem.W.maxD maxF
  induction xs generalizing x with
  | nil => rfl
  | cons y ys ih =>
    rw [List.map_cons, List.foldl_cons, List.foldl_cons]
    have : (if PySem.W.dataLt x.pd y.pd = true then y.pd else x.pd) = (if D.lt x y = true then y else x).pd := by
      unfold D.lt
      split <;> rfl
    rw [this]
    exact ih _
theorem maxF_mem (x : D) (xs : List D) : maxF x xs ∈ x :: xs := by
  unfold maxF
  induction xs generalizing x with
  | nil => simp
  | cons y ys ih =>
    rw [List.foldl_cons]
    have := ih (if D.lt x y = true then y else x)
    rcases List.mem_cons.mp this with h | h
    · rw [h]
      split <;> simp
    · exact List.mem_cons_of_mem _ (List.mem_cons_of_mem _ h)
def rMaxL : List D → Store → DQ → Prop := fun ds S Q => match ds with
  | [.loc a] => (match S a with
    | some (.lst (x :: xs)) => minOk (x :: xs) ∧ Q (maxF x xs) S
    | _ => False)
  | _ => False
section
variable {X : Cx}
theorem call_maxLD (hc : X.calm = true) (hu : X.A.units + 64 < cLine) : DCallR X (.builtin "max") rMaxL := by
  intro pins s σv H S xs ds us Q I r rv pv q
  cases ds with
  | nil => exact q.elim
  | cons d ds =>
    cases d with
    | loc a =>
      cases ds with
      | cons _ _ => exact q.elim
      | nil =>
        have q : (match S a with | some (.lst (x :: xs)) => minOk (x :: xs) ∧ Q (maxF x xs) S | _ => False) := q
        split at q
        · rename_i y ys es
          obtain ⟨ok, q⟩ := q
          obtain ⟨x, _, rfl, p1, p2⟩ := pv
          cases (show _ = [] from p2)
          obtain ⟨u, rfl, ru⟩ := vals1 rv
          cases (show x = .ref a from p1)
          cases ru
          obtain ⟨xv, h1, h2⟩ := r a _ es
          obtain ⟨its, r', pl, hz⟩ := I.list (.of h1)
          obtain ⟨as, ra⟩ := reads_all2 I (fun d hd => (ok.2 d hd).1) h2 r'
          have ra' : ReadsAll s.heap its.toArray.toList (y.pd :: ys.map D.pd) as := by
            rw [D.pds_map] at ra
            simpa using ra
          refine PySem.W.max_list_data (I.ok.hd hc) pl.isList ra' ⟨fun a ha b hb => ?_, fun a ha => ?_⟩ ?_ fun i v h' tk bs hv hr hk => ?_
          · rw [← List.map_cons] at ha hb
            obtain ⟨a', ha', rfl⟩ := List.mem_map.mp ha
            obtain ⟨b', hb', rfl⟩ := List.mem_map.mp hb
            exact ok.1 a' ha' b' hb'
          · rw [← List.map_cons] at ha
            obtain ⟨a', ha', rfl⟩ := List.mem_map.mp ha
            obtain ⟨k1, k2⟩ := ok.2 a' ha'
            cases a' with
            | non => simp [isN] at k2
            | loc _ => simp [D.pl] at k1
            | ty _ => simp [D.pl] at k1
            | _ => simp [D.pd]
          · have := depthAll_le2 (y :: ys) fun d hd => (ok.2 d hd).1
            rw [D.pds_map] at this
            have : PyData.depthAll (y.pd :: ys.map D.pd) ≤ 8 := this
            omega
          · have I1 : Inv X pins σv H { s with heap := h', toks := tk } := I.kept hk
            have hit : its[i]? = some v := by simpa using hv
            have hlt : i < its.length := by
              rcases Nat.lt_or_ge i its.length with h | h
              · exact h
              · rw [List.getElem?_eq_none h] at hit; cases hit
            have hlen := r'.length
            have hlen2 := h2.length
            have hyi : (y :: ys)[i]? = some ((y :: ys)[i]'(by omega)) := List.getElem?_eq_getElem _
            generalize hgg : ((y :: ys)[i]'(by omega)) = yi at hyi
            obtain ⟨w, hw, pw⟩ := h2.get hyi
            obtain ⟨u', hu', rw'⟩ := Vals.get r' hw
            rw [hit] at hu'
            cases hu'
            have hmem : yi ∈ y :: ys := List.mem_of_getElem? hyi
            obtain ⟨cs, rc⟩ := reads_of I1 yi w v (pl_pure 8 yi (ok.2 yi hmem).1) pw rw'
            have e1 := (Reads.unique rc _ _ hr).1
            rw [maxF_pd] at e1
            have e2 := pd_inj 8 8 yi (maxF y ys) (ok.2 yi hmem).1 (ok.2 _ (maxF_mem y ys)).1 e1
            subst e2
            exact ⟨w, _, H, S, I1, r, Gx.refl, rw', pw, q⟩
        · exact q.elim
    | _ => cases ds <;> exact q.elim
end
end DL

namespace DL
open PySem PySem.Spec PyProof.Rows L2
/-! ### a bool in a list of bools -/
def rInB : DR2 := fun x y S Q => match y with
  | .loc a => (match S a with
    | some (.lst ds) => x.isBl = true ∧ ds.all D.isBl = true ∧ Q (.bl (decide (x ∈ ds))) S
    | _ => False)
  | _ => False
theorem any_eqvB {d : D} (hd : d.isBl = true) : ∀ {ds : List D}, ds.all D.isBl = true → ((D.pds ds).any fun y => PyData.eqv y d.pd) = decide (d ∈ ds)
  | [], _ => by simp [D.pds]
  | x :: ds, h => by
    rw [List.all_cons, Bool.and_eq_true] at h
    rw [D.pds, List.any_cons, any_eqvB hd h.2]
    obtain ⟨p, rfl⟩ : ∃ p, x = .bl p := by have := h.1; cases x <;> simp_all [D.isBl]
    obtain ⟨q, rfl⟩ : ∃ q, d = .bl q := by cases d <;> simp_all [D.isBl]
    have e : PyData.eqv (D.bl p).pd (D.bl q).pd = decide (p = q) := by cases p <;> cases q <;> rfl
    rw [e]
    by_cases e1 : p = q <;> by_cases e2 : D.bl q ∈ ds <;> simp [e1, e2, eq_comm]
theorem bl_pure {d : D} (h : d.isBl = true) : d.pure = true ∧ d.pd.canLay0 = true ∧ d.pd.depth = 0 := by
  obtain ⟨q, rfl⟩ : ∃ q, d = .bl q := by cases d <;> simp_all [D.isBl]
  exact ⟨rfl, rfl, by simp [D.pd, PyData.depth]⟩
theorem op_inB {X : Cx} (hu : X.A.units + 64 < cLine) : DOpR X (compareOp .In) rInB := by
  intro pins s σv H S vx vy x y v u Q I r rx ry px py h
  cases y with
  | loc a =>
    cases (show vy = .ref a from py)
    cases (show u = .ref a from ry)
    have h : (match S a with
      | some (.lst ds) => x.isBl = true ∧ ds.all D.isBl = true ∧ Q (.bl (decide (x ∈ ds))) S
      | _ => False) := h
    split at h
    · rename_i ds ea
      obtain ⟨h1, h2, q⟩ := h
      obtain ⟨xs, k1, k2⟩ := r a _ ea
      have hall := List.all_eq_true.mp h2
      obtain ⟨as, ra⟩ := reads_of I x vx v (bl_pure h1).1 px rx
      obtain ⟨bs, rb⟩ := reads_lst I k1 k2 ((D.pures_iff ds).mpr fun d hd => (bl_pure (hall d hd)).1)
      refine SeqAt.in_list_reads rb ra (canLayAll_of fun d hd => (bl_pure (hall d hd)).2.1) (bl_pure h1).2.1 (by rw [(bl_pure h1).2.2]; omega) ?_
      rw [any_eqvB h1 h2]
      exact ⟨.bl _, .bl _, H, S, I, r, Gx.refl, rfl, rfl, q⟩
    · exact h.elim
  | _ => exact h.elim
end DL

namespace DL
open PySem PySem.Spec PyProof.Rows L2

/-! ### stores that grow -/
def Ext (S S' : Store) : Prop := ∀ a o, S a = some o → S' a = some o
theorem Ext.refl (S : Store) : Ext S S := fun _ _ h => h
theorem Ext.trans {S S1 S2 : Store} (a : Ext S S1) (b : Ext S1 S2) : Ext S S2 := fun c o h => b c o (a c o h)
theorem Ext.new {S : Store} {p : Addr} {o : MO} (h : S p = none) : Ext S (put S p o) := fun a u e => by
  rw [put_ne (fun z => by rw [z, h] at e; cases e)]; exact e
/-- all but what lies at a -/
def ExtX (a : Addr) (S S' : Store) : Prop := ∀ b o, b ≠ a → S b = some o → S' b = some o
theorem ExtX.of {S S' : Store} {a : Addr} (h : Ext S S') : ExtX a S S' := fun b o _ e => h b o e
theorem ExtX.trans {a : Addr} {S S1 S2 : Store} (x : ExtX a S S1) (y : ExtX a S1 S2) : ExtX a S S2 := fun c o n h => y c o n (x c o n h)
theorem ExtX.put {S : Store} {a : Addr} {o : MO} : ExtX a S (put S a o) := fun b u n e => by rw [put_ne n]; exact e
theorem ExtX.ext {S S' : Store} {a : Addr} (h : ExtX a S S') (n : S a = none) : Ext S S' := fun b o e => h b o (fun z => by rw [z, n] at e; cases e) e

/-! ### slots -/
@[simp] theorem dVar_zero {d : D} {σ : DSt} {S : Store} {Q : DQ} : dVar 0 (some d :: σ) S Q = Q d S := rfl
@[simp] theorem dVar_succ {i : Nat} {x : Option D} {σ : DSt} {S : Store} {Q : DQ} : dVar (i + 1) (x :: σ) S Q = dVar i σ S Q := rfl

/-! ### list comprehensions that only make new things -/
theorem lcL_pure {g : DTG} {tt : DTT} {te : DTE} {vs : List Nat} {σ : DSt} {G : Store → Prop} {Q : List D → Store → Prop} (f : D → Option D) : ∀ (ds acc : List D) (S : Store), (∀ S', Ext S S' → G S') →
    (∀ x ∈ ds, ∀ S', Ext S S' → ∀ K : Option D → Store → Prop, (∀ S'', Ext S' S'' → K (f x) S'') → g x (dwipe σ vs) S' fun σ2 S2 => tt σ2 S2 fun b S3 => if b = true then te σ2 S3 fun y S4 => K (some y) S4 else K none S3) →
    (∀ S', Ext S S' → Q (acc ++ ds.filterMap f) S') → lcL g tt te vs σ G Q ds acc S
  | [], acc, S, hG, hs, hQ => ⟨hG S (Ext.refl S), by have := hQ S (Ext.refl S); simpa using this⟩
  | x :: r, acc, S, hG, hs, hQ => by
    refine ⟨hG S (Ext.refl S), ?_⟩
    have key := hs x List.mem_cons_self S (Ext.refl S) (fun o S4 => match o with | some y => lcL g tt te vs σ G Q r (acc ++ [y]) S4 | none => lcL g tt te vs σ G Q r acc S4) fun S'' e => by
      have hG' : ∀ S', Ext S'' S' → G S' := fun S' e' => hG S' (e.trans e')
      have hs' : ∀ z ∈ r, ∀ S', Ext S'' S' → ∀ K : Option D → Store → Prop, (∀ S'', Ext S' S'' → K (f z) S'') → g z (dwipe σ vs) S' fun σ2 S2 => tt σ2 S2 fun b S3 => if b = true then te σ2 S3 fun y S4 => K (some y) S4 else K none S3 := fun z hz S' e' => hs z (List.mem_cons_of_mem _ hz) S' (e.trans e')
      cases hf : f x with
      | none => exact lcL_pure f r acc S'' hG' hs' fun S' e' => by have := hQ S' (e.trans e'); rwa [List.filterMap_cons_none hf] at this
      | some y => exact lcL_pure f r (acc ++ [y]) S'' hG' hs' fun S' e' => by have := hQ S' (e.trans e'); rw [List.filterMap_cons_some hf] at this; simpa using this
    exact key
/-- a list comprehension, whole -/
theorem dLc_pure {ti : DTI} {g : DTG} {tt : DTT} {te : DTE} {vs : List Nat} {σ : DSt} {S S1 : Store} {Q : DQ} {G : Store → Prop} {ds : List D} (f : D → Option D)
    (hi : ∀ R : List D → (Store → Prop) → Store → Prop, R ds G S1 → ti σ S R) (hG : ∀ S', Ext S1 S' → G S')
    (hs : ∀ x ∈ ds, ∀ S', Ext S1 S' → ∀ K : Option D → Store → Prop, (∀ S'', Ext S' S'' → K (f x) S'') → g x (dwipe σ vs) S' fun σ2 S2 => tt σ2 S2 fun b S3 => if b = true then te σ2 S3 fun y S4 => K (some y) S4 else K none S3)
    (hQ : ∀ S' p, Ext S1 S' → S' p = none → Q (.loc p) (put S' p (.lst (ds.filterMap f)))) : dLc ti g tt te vs σ S Q :=
  hi _ (lcL_pure f ds [] S1 hG hs fun S' e p hp => by have := hQ S' p e hp; simpa using this)

/-! ### dicts of keys -/
def dT (ks : List D) : List (D × D) := ks.map fun k => (k, .bl true)
def addK (ks : List D) (k : D) : List D := if k ∈ ks then ks else ks ++ [k]
theorem dget_dT (ks : List D) (k : D) : dget (dT ks) k = if k ∈ ks then some (.bl true) else none := by
  induction ks with
  | nil => rfl
  | cons x ks ih =>
    show ((((x, D.bl true) :: dT ks).find? fun p => decide (p.1 = k)).map (·.2)) = _
    rw [List.find?_cons]
    by_cases h : x = k
    · subst h; simp
    · have h' : k ≠ x := fun z => h z.symm
      have : decide (x = k) = false := decide_eq_false h
      simp only [this]
      have e : (Option.map (·.2) (List.find? (fun p => decide (p.1 = k)) (dT ks))) = dget (dT ks) k := rfl
      rw [e, ih]
      simp [h']
theorem dT_map (ks : List D) (k : D) : (dT ks).map (fun p => if p.1 = k then (p.1, D.bl true) else p) = dT ks := by
  unfold dT
  rw [List.map_map]
  congr 1
  funext x
  simp
theorem dput_dT (ks : List D) (k : D) : dput (dT ks) k (.bl true) = dT (addK ks k) := by
  unfold dput addK
  rw [dget_dT]
  by_cases h : k ∈ ks
  · rw [if_pos h, if_pos h]
    exact dT_map ks k
  · rw [if_neg h, if_neg h]
    simp [dT]
theorem dT_keys (ks : List D) : (dT ks).map (·.1) = ks := by
  induction ks with
  | nil => rfl
  | cons x ks ih => show x :: (dT ks).map (·.1) = x :: ks; rw [ih]
theorem dT_len (ks : List D) : (dT ks).length = ks.length := by simp [dT]
theorem addK_nodup {ks : List D} {k : D} (h : ks.Nodup) : (addK ks k).Nodup := by
  unfold addK
  split
  · exact h
  · rename_i hk
    rw [List.nodup_append]
    exact ⟨h, by simp, fun a ha b hb => by rw [List.mem_singleton] at hb; subst hb; exact fun e => hk (e ▸ ha)⟩
theorem mem_addK {ks : List D} {k x : D} : x ∈ addK ks k ↔ x ∈ ks ∨ x = k := by
  unfold addK
  split
  · rename_i h
    constructor
    · exact .inl
    · rintro (h' | rfl)
      · exact h'
      · exact h
  · simp
theorem mem_foldK {x : D} : ∀ {l ks : List D}, x ∈ l.foldl addK ks ↔ x ∈ ks ∨ x ∈ l
  | [], ks => by simp
  | y :: l, ks => by rw [List.foldl_cons, mem_foldK, mem_addK]; simp [or_assoc]
theorem foldK_nodup : ∀ {l ks : List D}, ks.Nodup → (l.foldl addK ks).Nodup
  | [], _, h => h
  | y :: l, ks, h => by rw [List.foldl_cons]; exact foldK_nodup (addK_nodup h)
theorem foldK_id : ∀ {l ks : List D}, (ks ++ l).Nodup → l.foldl addK ks = ks ++ l
  | [], ks, _ => by simp
  | y :: l, ks, h => by
    rw [List.foldl_cons]
    have hy : y ∉ ks := fun z => by
      rw [List.nodup_append] at h
      exact h.2.2 y z y List.mem_cons_self rfl
    have e : addK ks y = ks ++ [y] := by unfold addK; rw [if_neg hy]
    rw [e, foldK_id (by simpa using h)]
    simp
theorem foldK_len : ∀ {l ks : List D}, (l.foldl addK ks).length ≤ ks.length + l.length
  | [], ks => by simp
  | y :: l, ks => by
    rw [List.foldl_cons]
    have h1 := foldK_len (l := l) (ks := addK ks y)
    have h2 : (addK ks y).length ≤ ks.length + 1 := by unfold addK; split <;> simp
    simp; omega
/-- a dict comprehension with value True -/
theorem dcL_pure {g : DTG} {tt : DTT} {tk tv : DTE} {vs : List Nat} {σ : DSt} {G : Store → Prop} {Q : List (D × D) → Store → Prop} (f : D → Option D) : ∀ (ds ks : List D) (S : Store), (∀ S', Ext S S' → G S') → ks.length + ds.length ≤ 9000 →
    (∀ x ∈ ds, ∀ k, f x = some k → isKeyB k = true) →
    (∀ x ∈ ds, ∀ S', Ext S S' → ∀ K : Option (D × D) → Store → Prop, (∀ S'', Ext S' S'' → K ((f x).map fun k => (k, .bl true)) S'') → g x (dwipe σ vs) S' fun σ2 S2 => tt σ2 S2 fun b S3 => if b = true then tk σ2 S3 fun k S4 => tv σ2 S4 fun v S5 => K (some (k, v)) S5 else K none S3) →
    (∀ S', Ext S S' → Q (dT ((ds.filterMap f).foldl addK ks)) S') → dcL g tt tk tv vs σ G Q ds (dT ks) S
  | [], ks, S, hG, hl, hk, hs, hQ => ⟨hG S (Ext.refl S), hQ S (Ext.refl S)⟩
  | x :: r, ks, S, hG, hl, hk, hs, hQ => by
    refine ⟨hG S (Ext.refl S), ?_⟩
    have key := hs x List.mem_cons_self S (Ext.refl S) (fun o S4 => match o with | some p => isKeyB p.1 = true ∧ (dT ks).length < 10000 ∧ dcL g tt tk tv vs σ G Q r (dput (dT ks) p.1 p.2) S4 | none => dcL g tt tk tv vs σ G Q r (dT ks) S4) fun S'' e => by
      have hG' : ∀ S', Ext S'' S' → G S' := fun S' e' => hG S' (e.trans e')
      have hk' : ∀ z ∈ r, ∀ k, f z = some k → isKeyB k = true := fun z hz => hk z (List.mem_cons_of_mem _ hz)
      have hs' : ∀ z ∈ r, ∀ S', Ext S'' S' → ∀ K : Option (D × D) → Store → Prop, (∀ S'', Ext S' S'' → K ((f z).map fun k => (k, .bl true)) S'') → g z (dwipe σ vs) S' fun σ2 S2 => tt σ2 S2 fun b S3 => if b = true then tk σ2 S3 fun k S4 => tv σ2 S4 fun v S5 => K (some (k, v)) S5 else K none S3 := fun z hz S' e' => hs z (List.mem_cons_of_mem _ hz) S' (e.trans e')
      simp only [List.length_cons] at hl
      cases hf : f x with
      | none => exact dcL_pure f r ks S'' hG' (by omega) hk' hs' fun S' e' => by have := hQ S' (e.trans e'); rwa [List.filterMap_cons_none hf] at this
      | some k =>
        have hl' : (addK ks k).length ≤ ks.length + 1 := by unfold addK; split <;> simp
        refine ⟨hk x List.mem_cons_self k hf, by rw [dT_len]; omega, ?_⟩
        show dcL g tt tk tv vs σ G Q r (dput (dT ks) k (.bl true)) S''
        rw [dput_dT]
        exact dcL_pure f r (addK ks k) S'' hG' (by omega) hk' hs' fun S' e' => by have := hQ S' (e.trans e'); rwa [List.filterMap_cons_some hf, List.foldl_cons] at this
    exact key
/-- whole -/
theorem dDc_pure {ti : DTI} {g : DTG} {tt : DTT} {tk tv : DTE} {vs : List Nat} {σ : DSt} {S S1 : Store} {Q : DQ} {G : Store → Prop} {ds : List D} (f : D → Option D)
    (hi : ∀ R : List D → (Store → Prop) → Store → Prop, R ds G S1 → ti σ S R) (hG : ∀ S', Ext S1 S' → G S') (hl : ds.length ≤ 9000) (hk : ∀ x ∈ ds, ∀ k, f x = some k → isKeyB k = true)
    (hs : ∀ x ∈ ds, ∀ S', Ext S1 S' → ∀ K : Option (D × D) → Store → Prop, (∀ S'', Ext S' S'' → K ((f x).map fun k => (k, .bl true)) S'') → g x (dwipe σ vs) S' fun σ2 S2 => tt σ2 S2 fun b S3 => if b = true then tk σ2 S3 fun k S4 => tv σ2 S4 fun v S5 => K (some (k, v)) S5 else K none S3)
    (hQ : ∀ S' p n, Ext S1 S' → S' p = none → Q (.loc p) (put S' p (.dic n (dT ((ds.filterMap f).foldl addK []))))) : dDc ti (dcR1 g tt tk tv vs) σ S Q :=
  hi _ (dcL_pure f ds [] S1 hG (by simpa using hl) hk hs fun S' e p n hp => hQ S' p n e hp)

/-! ### promises -/
/-- a value, new things at most -/
def spV (rel : List D → Store → D → Prop) : DSp := fun args S Q _ => ∃ v, rel args S v ∧ ∀ S', Ext S S' → Q v S'
/-- a new list -/
def spL (rel : List D → Store → List D → Prop) : DSp := fun args S Q _ => ∃ ds, rel args S ds ∧ ∀ S' p, Ext S S' → S p = none → S' p = some (.lst ds) → Q (.loc p) S'
/-- a new dict of keys -/
def spK (rel : List D → Store → List D → Prop) : DSp := fun args S Q _ => ∃ ks, rel args S ks ∧ ∀ S' p n, Ext S S' → S p = none → S' p = some (.dic n (dT ks)) → Q (.loc p) S'

/-! ### encodings -/
abbrev Fd := Int × Int
abbrev Bd := Bool × Int × Int
def wd (r : Bool) : Str := if r then "right" else "down"
def eF (f : Fd) : D := .tup [.int f.1, .int f.2]
def eB (b : Bd) : D := .tup [.str (wd b.1), .int b.2.1, .int b.2.2]
def eT (t : List Bd) : D := .tup (t.map eB)
def eS (fs : List Fd) (ps : List Bd) : D := .tup [.tup (fs.map eF), .tup (ps.map eB)]
theorem wd_inj {a b : Bool} (h : wd a = wd b) : a = b := by
  cases a <;> cases b <;> first | rfl | (exfalso; revert h; decide)
theorem eF_inj {a b : Fd} (h : eF a = eF b) : a = b := by
  unfold eF at h
  injection h with h
  simp at h
  exact Prod.ext h.1 h.2
theorem eB_inj {a b : Bd} (h : eB a = eB b) : a = b := by
  unfold eB at h
  injection h with h
  simp at h
  exact Prod.ext (wd_inj h.1) (Prod.ext h.2.1 h.2.2)
theorem map_inj' {α β : Type} {f : α → β} (hf : ∀ a b, f a = f b → a = b) : ∀ {l m : List α}, l.map f = m.map f → l = m
  | [], [], _ => rfl
  | a :: l, b :: m, h => by
    simp at h
    rw [hf _ _ h.1, map_inj' hf h.2]
  | [], _ :: _, h => by simp at h
  | _ :: _, [], h => by simp at h
theorem eT_inj {a b : List Bd} (h : eT a = eT b) : a = b := by
  unfold eT at h
  injection h with h
  exact map_inj' (fun _ _ => eB_inj) h
theorem mem_eF {f : Fd} {l : List Fd} : eF f ∈ l.map eF ↔ f ∈ l := by
  rw [List.mem_map]
  exact ⟨fun ⟨g, h1, h2⟩ => eF_inj h2 ▸ h1, fun h => ⟨f, h, rfl⟩⟩
theorem mem_eB {f : Bd} {l : List Bd} : eB f ∈ l.map eB ↔ f ∈ l := by
  rw [List.mem_map]
  exact ⟨fun ⟨g, h1, h2⟩ => eB_inj h2 ▸ h1, fun h => ⟨f, h, rfl⟩⟩
theorem mem_eT {f : List Bd} {l : List (List Bd)} : eT f ∈ l.map eT ↔ f ∈ l := by
  rw [List.mem_map]
  exact ⟨fun ⟨g, h1, h2⟩ => eT_inj h2 ▸ h1, fun h => ⟨f, h, rfl⟩⟩
theorem key_F (f : Fd) : isKeyB (eF f) = true := rfl
theorem key_B (b : Bd) : isKeyB (eB b) = true := rfl
theorem isK_F (f : Fd) : ((eF f).isK && decide ((eF f).dep ≤ 8) && (eF f).isTup) = true := rfl
theorem isK_B (b : Bd) : ((eB b).isK && decide ((eB b).dep ≤ 8) && (eB b).isTup) = true := rfl
theorem pl_F (f : Fd) : (eF f).pl 8 = true := rfl
theorem strOk_wd (r : Bool) : PyData.strOk (wd r) = true := by cases r <;> decide +kernel
theorem pl_B' (n : Nat) (b : Bd) : (eB b).pl (n + 1) = true := by
  show ([D.str (wd b.1), .int b.2.1, .int b.2.2].all (D.pl n)) = true
  simp [D.pl, strOk_wd]
theorem pl_F' (n : Nat) (b : Fd) : (eF b).pl (n + 1) = true := by
  show ([D.int b.1, .int b.2].all (D.pl n)) = true
  simp [D.pl]
theorem pl_B (b : Bd) : (eB b).pl 8 = true := pl_B' 7 b
theorem pl_Bs (n : Nat) (l : List Bd) : (l.map eB).all (D.pl (n + 1)) = true := by
  rw [List.all_map, List.all_eq_true]; exact fun b _ => pl_B' n b
theorem pl_Fs (n : Nat) (l : List Fd) : (l.map eF).all (D.pl (n + 1)) = true := by
  rw [List.all_map, List.all_eq_true]; exact fun b _ => pl_F' n b
theorem pl_T (n : Nat) (t : List Bd) : (eT t).pl (n + 2) = true := pl_Bs n t
theorem pl_Ts (n : Nat) (l : List (List Bd)) : (l.map eT).all (D.pl (n + 2)) = true := by
  rw [List.all_map, List.all_eq_true]; exact fun b _ => pl_T n b
end DL

namespace DL
open PySem PySem.Spec PyProof.Rows L2

/-! ### order -/
theorem lt_irr (a : D) : D.lt a a = false := PyProof.Rows.lex_irrefl _
theorem lt_tr {a b c : D} (h1 : D.lt a b = true) (h2 : D.lt b c = true) : D.lt a c = true := PyProof.Rows.lex_trans _ _ _ h1 h2
theorem lt_as {a b : D} (h1 : D.lt a b = true) : D.lt b a = false := by
  cases h : D.lt b a with
  | false => rfl
  | true => have := lt_tr h1 h; rw [lt_irr] at this; cases this
theorem le_tot (a b : D) : (D.le a b || D.le b a) = true := by
  unfold D.le
  cases h : D.lt b a with
  | false => rfl
  | true => rw [lt_as h]; rfl
theorem le_tr {a b c : D} (h1 : D.le a b = true) (h2 : D.le b c = true) : D.le a c = true := by
  unfold D.le at *
  cases h : D.lt c a with
  | false => rfl
  | true =>
    rcases PyProof.Rows.lex_negTrans _ (PySem.W.keyToks b.pd) _ h with k | k
    · have : D.lt c b = true := k
      rw [this] at h2; cases h2
    · have : D.lt b a = true := k
      rw [this] at h1; cases h1
/-- an encoding that order tells apart -/
def OInj {α : Type} (e : α → D) : Prop := ∀ a b, PySem.W.keyToks (e a).pd = PySem.W.keyToks (e b).pd → a = b
theorem le_anti {α : Type} {e : α → D} (h : OInj e) {a b : α} (h1 : D.le (e a) (e b) = true) (h2 : D.le (e b) (e a) = true) : a = b := by
  unfold D.le at *
  exact h a b (PyProof.Rows.lex_total (O := PyProof.Rows.itemOrd) _ _ (by simpa using h2 : D.lt (e a) (e b) = false) (by simpa using h1 : D.lt (e b) (e a) = false))
theorem lt_of_le_ne {α : Type} {e : α → D} (h : OInj e) {a b : α} (h1 : D.le (e a) (e b) = true) (hn : a ≠ b) : D.lt (e a) (e b) = true := by
  cases k : D.lt (e a) (e b) with
  | true => rfl
  | false => exact (hn (le_anti h h1 (by unfold D.le; rw [k]; rfl))).elim
theorem le_of_lt {a b : D} (h : D.lt a b = true) : D.le a b = true := by unfold D.le; rw [lt_as h]; rfl
section
variable {α : Type} (e : α → D)
def srt (l : List α) : List α := l.mergeSort fun a b => D.le (e a) (e b)
variable {e}
theorem dsort_map (l : List α) : dsort (l.map e) = (srt e l).map e := by
  unfold dsort srt
  exact (List.map_mergeSort (f := e) (r := fun a b => D.le (e a) (e b)) (s := D.le) (fun _ _ _ _ => rfl)).symm
theorem srt_perm (l : List α) : (srt e l).Perm l := List.mergeSort_perm _ _
theorem srt_pw (l : List α) : (srt e l).Pairwise fun a b => D.le (e a) (e b) = true := List.pairwise_mergeSort (le := fun a b => D.le (e a) (e b)) (fun a b c h1 h2 => le_tr h1 h2) (fun a b => le_tot (e a) (e b)) l
theorem mem_srt {l : List α} {a : α} : a ∈ srt e l ↔ a ∈ l := (srt_perm l).mem_iff
theorem srt_nodup {l : List α} (h : l.Nodup) : (srt e l).Nodup := (srt_perm l).nodup_iff.mpr h
theorem srt_len (l : List α) : (srt e l).length = l.length := (srt_perm l).length_eq
theorem pw_uniq (h : OInj e) {l m : List α} (p : l.Perm m) (hl : l.Pairwise fun a b => D.le (e a) (e b) = true) (hm : m.Pairwise fun a b => D.le (e a) (e b) = true) : l = m :=
  List.Perm.eq_of_pairwise (fun a b _ _ h1 h2 => le_anti h h1 h2) hl hm p
theorem srt_eq (h : OInj e) {l m : List α} (p : l.Perm m) : srt e l = srt e m := pw_uniq h (((srt_perm l).trans p).trans (srt_perm m).symm) (srt_pw l) (srt_pw m)
theorem srt_id (h : OInj e) {l : List α} (hl : l.Pairwise fun a b => D.le (e a) (e b) = true) : srt e l = l := pw_uniq h (srt_perm l) (srt_pw l) hl
/-- rising -/
def Ris (e : α → D) (l : List α) : Prop := l.Pairwise fun a b => D.lt (e a) (e b) = true
theorem Ris.le {l : List α} (h : Ris e l) : l.Pairwise fun a b => D.le (e a) (e b) = true := List.Pairwise.imp (fun h => le_of_lt h) h
theorem Ris.nodup {l : List α} (h : Ris e l) : l.Nodup := List.Pairwise.imp (fun {a b} h z => by rw [z, lt_irr] at h; cases h) h
theorem ris_srt (h : OInj e) {l : List α} (hn : l.Nodup) : Ris e (srt e l) := by
  have h1 := srt_pw (e := e) l
  have h2 : (srt e l).Nodup := srt_nodup hn
  unfold Ris
  exact List.Pairwise.imp (fun h' => lt_of_le_ne h h'.1 h'.2) (h1.and h2)
theorem Ris.uniq (h : OInj e) {l m : List α} (hl : Ris e l) (hm : Ris e m) (hx : ∀ a, a ∈ l ↔ a ∈ m) : l = m := by
  refine pw_uniq h ?_ hl.le hm.le
  exact (List.perm_ext_iff_of_nodup hl.nodup hm.nodup).mpr hx
theorem Ris.filter {l : List α} (h : Ris e l) (p : α → Bool) : Ris e (l.filter p) := List.Pairwise.filter _ h
end
theorem oinj_F : OInj eF := fun a b h => by
  obtain ⟨x, y⟩ := a
  obtain ⟨x', y'⟩ := b
  simp [eF, D.pd, D.pds, PySem.W.keyToks, PySem.W.keyToksAll] at h
  rw [h.1, h.2]
theorem cps_wd {a b : Bool} (h : (wd a).cps.toList = (wd b).cps.toList) : a = b := wd_inj (PySem.W.str_of_cps h)
theorem oinj_B : OInj eB := fun a b h => by
  obtain ⟨r, x, y⟩ := a
  obtain ⟨r', x', y'⟩ := b
  simp only [eB, D.pd, D.pds, PySem.W.keyToks, PySem.W.keyToksAll, List.cons_append, List.nil_append, List.cons.injEq, Sum.inl.injEq, Sum.inr.injEq, true_and, and_true] at h
  rw [cps_wd h.1, h.2.1, h.2.2]
theorem oinj_T : OInj eT := fun a b h => by
  induction a generalizing b with
  | nil =>
    cases b with
    | nil => rfl
    | cons y b => simp [eT, D.pd, D.pds, PySem.W.keyToks, PySem.W.keyToksAll] at h
  | cons x a ih =>
    cases b with
    | nil => simp [eT, D.pd, D.pds, PySem.W.keyToks, PySem.W.keyToksAll] at h
    | cons y b =>
      have h : PySem.W.keyToksAll ((eB x).pd :: D.pds (a.map eB)) = PySem.W.keyToksAll ((eB y).pd :: D.pds (b.map eB)) := by simpa [eT, D.pd, D.pds, PySem.W.keyToks] using h
      rw [PySem.W.toks_all_cons, PySem.W.toks_all_cons] at h
      injection h with _ h
      have hl : (PySem.W.keyToks (eB x).pd).length = (PySem.W.keyToks (eB y).pd).length := by
        simp [eB, D.pd, D.pds, PySem.W.keyToks, PySem.W.keyToksAll]
      have := List.append_inj h hl
      rw [oinj_B x y this.1, ih b (by simpa [eT, D.pd, PySem.W.keyToks] using this.2)]
end DL

namespace DL
open PySem PySem.Spec PyProof.Rows L2

/-- the reading of a def keeps its promise -/
abbrev Rd (n : List Str) (t : DWX → DTS) (sp : DSp) : Prop := ∀ {args : List D} {S : Store} {Q : DQ} {Ed : DXK}, sp args S Q Ed → t (fun cls od _ S' => Ed cls od S') { nx := fun _ S' => Q .non S', rt := Q } (dstart n args) S
abbrev Ln (n : Nat) (sp : DSp) : Prop := ∀ args S Q E, sp args S Q E → args.length = n

/-! ### is_within -/
def isW : D → Int → Int → Bool
  | .int i, a, b => decide (a ≤ i) && decide (i ≤ b)
  | _, _, _ => false
def sp_is_within : DSp := spV fun args S v => ∃ d a b, args = [d, .int a, .int b] ∧ (tyName d S).isSome = true ∧ v = .bl (isW d a b)
def n_is_within : List Str := ["thing", "low", "high"]
def t_is_within (W : DWX) : DTS := (dRet (dAndV (dCB rIsiD (dCons (dVar 0) (dCons (dC (.ty "int")) dNil))) (dAndV (dNotV (dCB rIsiD (dCons (dVar 0) (dCons (dC (.ty "bool")) dNil)))) (dChain (rI2 fun i j => .bl (decide (i ≤ j))) (rI2 fun i j => .bl (decide (i ≤ j))) (dVar 1) (dVar 0) (dVar 2)))))
theorem len_is_within : Ln 3 sp_is_within := fun _ _ _ _ ⟨_, ⟨_, _, _, h, _⟩, _⟩ => by rw [h]; rfl
theorem rd_is_within : Rd n_is_within t_is_within sp_is_within := fun {args S Q Ed} h => by
  obtain ⟨v, ⟨d, a, b, rfl, hd, rfl⟩, hQ⟩ := h
  have hq := hQ S (Ext.refl S)
  cases d with
  | int i =>
    simp [t_is_within, n_is_within, isW] at hq ⊢
    by_cases h1 : a ≤ i
    · simp [h1] at hq ⊢; exact hq
    · simp [h1] at hq ⊢; exact hq
  | loc p =>
    simp only [tyName] at hd
    cases e : S p with
    | none => rw [e] at hd; cases hd
    | some o =>
      cases o with
      | lst ds => simp [t_is_within, n_is_within, isW, e] at hq ⊢; exact hq
      | _ => rw [e] at hd; cases hd
  | ty n => cases hd
  | _ => simp [t_is_within, n_is_within, isW] at hq ⊢; exact hq

/-! ### loops -/
theorem forL_inv {g : DTG} {tb : DTS} {E : DEnds} {G : Store → Prop} (Inv : List D → DSt → Store → Prop) (hnil : ∀ σ S, Inv [] σ S → G S ∧ E.nx σ S)
    (hcons : ∀ x r σ S, Inv (x :: r) σ S → G S ∧ ∀ N : DSt → Store → Prop, (∀ σ' S', Inv r σ' S' → N σ' S') → g x σ S fun σ' S' => tb { E with nx := N, ct := N, bk := E.nx } σ' S') : ∀ ds σ S, Inv ds σ S → forL g tb E G ds σ S
  | [], σ, S, h => hnil σ S h
  | x :: r, σ, S, h => ⟨(hcons x r σ S h).1, (hcons x r σ S h).2 _ fun σ' S' h' => forL_inv Inv hnil hcons r σ' S' h'⟩
theorem whileN_inv {c : DTT} {tb : DTS} {E : DEnds} (Inv : Nat → DSt → Store → Prop)
    (h : ∀ n σ S, Inv n σ S → ∀ N : DSt → Store → Prop, (∀ m σ' S', m < n → Inv m σ' S' → N σ' S') → c σ S fun b S1 => if b = true then tb { E with nx := N, ct := N, bk := E.nx } σ S1 else E.nx σ S1) {n : Nat} {σ : DSt} {S : Store} (h0 : Inv n σ S) : dWhile c tb E σ S := by
  have key : ∀ k n σ S, n < k → Inv n σ S → whileN c tb E k σ S := fun k => by
    induction k with
    | zero => intro n σ S hn; omega
    | succ k ih => intro n σ S hn hi; exact h n σ S hi _ fun m σ' S' hm hi' => ih m σ' S' (by omega) hi'
  exact ⟨n + 1, key (n + 1) n σ S (by omega) h0⟩
theorem dFor_inv {ti : DTI} {g : DTG} {tb : DTS} {E : DEnds} {σ : DSt} {S S1 : Store} {G : Store → Prop} {ds : List D} (hi : ∀ R : List D → (Store → Prop) → Store → Prop, R ds G S1 → ti σ S R) (Inv : List D → DSt → Store → Prop) (h0 : Inv ds σ S1) (hnil : ∀ σ S, Inv [] σ S → G S ∧ E.nx σ S)
    (hcons : ∀ x r σ S, Inv (x :: r) σ S → G S ∧ ∀ N : DSt → Store → Prop, (∀ σ' S', Inv r σ' S' → N σ' S') → g x σ S fun σ' S' => tb { E with nx := N, ct := N, bk := E.nx } σ' S') : dFor ti g tb E σ S :=
  hi _ (forL_inv Inv hnil hcons ds σ S1 h0)

/-! ### is_field, is_border -/
theorem tyName_ext {d : D} {S S' : Store} (e : Ext S S') (h : (tyName d S).isSome = true) : tyName d S' = tyName d S := by
  cases d with
  | loc a =>
    simp only [tyName] at h ⊢
    cases q : S a with
    | none => rw [q] at h; cases h
    | some o =>
      rw [e a o q]
  | _ => rfl
/-- a thing that may be looked at: its class, its items' classes are known -/
def okT (S : Store) (d : D) : Prop := (tyName d S).isSome = true ∧ ∀ ds, d = .tup ds → ∀ x ∈ ds, (tyName x S).isSome = true
theorem okT.ext {S S' : Store} {d : D} (h : okT S d) (e : Ext S S') : okT S' d := ⟨by rw [tyName_ext e h.1]; exact h.1, fun ds hd x hx => by rw [tyName_ext e (h.2 ds hd x hx)]; exact h.2 ds hd x hx⟩
def isFd : D → Bool
  | .tup [a, b] => isW a 0 7 && isW b 0 7
  | _ => false
def sp_is_field : DSp := spV fun args S v => ∃ d, args = [d] ∧ okT S d ∧ v = .bl (isFd d)
def n_is_field : List Str := ["thing", "one"]
def t_is_field (W : DWX) : DTS := (dSeq (dIfS (dOr (dNot (dTr (dCB rIsiD (dCons (dVar 0) (dCons (dC (.ty "tuple")) dNil))))) (dB (dOp rNeD (dCB rLenD (dCons (dVar 0) dNil)) (dC (.int 2))))) (dRet (dC (.bl false))) dNext)
  (dRet (dNotV (dLc (dIter (dVar 0)) (gN 1) (dNot (dTr (dCall sp_is_within W0 (dCons (dVar 1) (dCons (dC (.int 0)) (dCons (dC (.int 7)) dNil)))))) (dVar 1) [1]))))
theorem len_is_field : Ln 1 sp_is_field := fun _ _ _ _ ⟨_, ⟨_, h, _⟩, _⟩ => by rw [h]; rfl
theorem rd_is_field : Rd n_is_field t_is_field sp_is_field := fun {args S Q Ed} h => by
  obtain ⟨v, ⟨d, rfl, hd, rfl⟩, hQ⟩ := h
  cases d with
  | tup ds =>
    by_cases hl : (ds.length : Int) = 2
    · obtain ⟨a, b, rfl⟩ : ∃ a b, ds = [a, b] := by
        match ds, hl with
        | [a, b], _ => exact ⟨a, b, rfl⟩
        | [], h => simp at h
        | [_], h => simp at h
        | _ :: _ :: _ :: _, h => simp at h; omega
      simp [t_is_field, n_is_field]
      refine dLc_pure (fun x => if isW x 0 7 then none else some x) (ds := [a, b]) (G := fun _ => True) (S1 := S) (fun R h => h) (fun _ _ => trivial) (fun x hx S' e K hK => ?_) (fun S' p e hp => ?_)
      · simp
        refine ⟨_, ⟨x, 0, 7, rfl, ?_, rfl⟩, fun S2 e2 => ?_⟩
        · have := hd.2 _ rfl x hx
          rw [tyName_ext e this]; exact this
        · have := hK S2 e2
          cases hw : isW x 0 7 <;> simp [hw] at this ⊢ <;> exact this
      · simp only [put_same]
        have := hQ (put S' p (.lst (List.filterMap (fun x => if isW x 0 7 = true then none else some x) [a, b]))) (e.trans (Ext.new hp))
        cases h1 : isW a 0 7 <;> cases h2 : isW b 0 7 <;> simp [isFd, h1, h2, List.filterMap_cons] at this ⊢ <;> exact this
    · have hf : isFd (.tup ds) = false := by
        match ds, hl with
        | [], _ => rfl
        | [_], _ => rfl
        | [_, _], h => simp at h
        | _ :: _ :: _ :: _, _ => rfl
      have := hQ S (Ext.refl S)
      rw [hf] at this
      simp [t_is_field, n_is_field, hl]
      exact this
  | loc p =>
    have hd := hd.1
    simp only [tyName] at hd
    cases e : S p with
    | none => rw [e] at hd; cases hd
    | some o =>
      cases o with
      | lst ds => have := hQ S (Ext.refl S); simp [t_is_field, n_is_field, isFd, e] at this ⊢; exact this
      | _ => rw [e] at hd; cases hd
  | ty n => cases hd.1
  | _ => have := hQ S (Ext.refl S); simp [t_is_field, n_is_field, isFd] at this ⊢; exact this
end DL

namespace DL
open PySem PySem.Spec PyProof.Rows L2

/-! ### is_border -/
def isBd : D → Bool
  | .tup [.str w, a, b] => (decide (w = "right") || decide (w = "down")) && (isW a 0 7 && isW b 0 7)
  | _ => false
def okB (S : Store) (d : D) : Prop := okT S d ∧ ∀ w r, d = .tup (.str w :: r) → PyData.strOk w = true
theorem okB.ext {S S' : Store} {d : D} (h : okB S d) (e : Ext S S') : okB S' d := ⟨h.1.ext e, h.2⟩
def sp_is_border : DSp := spV fun args S v => ∃ d, args = [d] ∧ okB S d ∧ v = .bl (isBd d)
def n_is_border : List Str := ["thing"]
def t_is_border (W : DWX) : DTS := (dSeq (dIfS (dOr (dNot (dTr (dCB rIsiD (dCons (dVar 0) (dCons (dC (.ty "tuple")) dNil))))) (dOr (dB (dOp rNeD (dCB rLenD (dCons (dVar 0) dNil)) (dC (.int 3)))) (dNot (dTr (dCB rIsiD (dCons (dOp rIxD (dVar 0) (dC (.int 0))) (dCons (dC (.ty "str")) dNil))))))) (dRet (dC (.bl false))) dNext)
  (dRet (dAndV (dOp rInD (dOp rIxD (dVar 0) (dC (.int 0))) (dTup (dCons (dC (.str "right")) (dCons (dC (.str "down")) dNil)))) (dCall sp_is_field W (dCons (dSl (dVar 0) (dPart (dC (.int 1))) dNo) dNil)))))
theorem len_is_border : Ln 1 sp_is_border := fun _ _ _ _ ⟨_, ⟨_, h, _⟩, _⟩ => by rw [h]; rfl
theorem cutD_1 (a : D) (r : List D) : cutD (a :: r) (some 1) none = r := by
  have e1 : HT.sIx (a :: r).length 0 (some 1) = 1 := by simp [HT.sIx]
  have e2 : HT.sIx (a :: r).length (a :: r).length none = (a :: r).length := by simp [HT.sIx]
  unfold cutD
  rw [e1, e2]
  simp
theorem atI_nn {ds : List D} {i : Int} (h : 0 ≤ i) : atI ds i = ds[i.toNat]? := by
  unfold atI ixN
  by_cases h2 : i < (ds.length : Int)
  · simp [h, h2]
  · have : ds[i.toNat]? = none := List.getElem?_eq_none (by omega)
    simp [h2, this]
    intro a ha
    omega
theorem strOk_right : PyData.strOk "right" = true := strOk_wd true
theorem strOk_down : PyData.strOk "down" = true := strOk_wd false
theorem rd_is_border : Rd n_is_border t_is_border sp_is_border := fun {args S Q Ed} h => by
  obtain ⟨v, ⟨d, rfl, hd, rfl⟩, hQ⟩ := h
  have hq := hQ S (Ext.refl S)
  cases d with
  | tup ds =>
    by_cases hl : (ds.length : Int) = 3
    · obtain ⟨a, b, c, rfl⟩ : ∃ a b c, ds = [a, b, c] := by
        match ds, hl with
        | [a, b, c], _ => exact ⟨a, b, c, rfl⟩
        | [], h => simp at h
        | [_], h => simp at h
        | [_, _], h => simp at h
        | _ :: _ :: _ :: _ :: _, h => simp at h; omega
      have ha := hd.1.2 _ rfl a List.mem_cons_self
      have e0 : atI [a, b, c] 0 = some a := atI_nn (by decide)
      cases a with
      | str w =>
        have hw := hd.2 w _ rfl
        simp [t_is_border, n_is_border, rIxD, e0, D.pl, inOk, hw, inV, strOk_right, strOk_down]
        by_cases h1 : w = "right"
        · subst h1
          rw [cutD_1]
          refine ⟨_, ⟨_, rfl, ⟨rfl, fun ds hd' x hx => ?_⟩, rfl⟩, fun S' e => ?_⟩
          · cases hd'
            exact hd.1.2 _ rfl x (List.mem_cons_of_mem _ hx)
          · have := hQ S' e
            simpa [isBd, isFd] using this
        · by_cases h2 : w = "down"
          · subst h2
            rw [cutD_1]
            refine ⟨_, ⟨_, rfl, ⟨rfl, fun ds hd' x hx => ?_⟩, rfl⟩, fun S' e => ?_⟩
            · cases hd'
              exact hd.1.2 _ rfl x (List.mem_cons_of_mem _ hx)
            · have := hQ S' e
              simpa [isBd, isFd] using this
          · simp [h1, h2, isBd] at hq ⊢
            exact hq
      | loc p =>
        simp only [tyName] at ha
        cases e : S p with
        | none => rw [e] at ha; cases ha
        | some o =>
          cases o with
          | lst ds => simp [t_is_border, n_is_border, rIxD, e0, e, isBd] at hq ⊢; exact hq
          | _ => rw [e] at ha; cases ha
      | ty n => cases ha
      | _ => simp [t_is_border, n_is_border, rIxD, e0, isBd] at hq ⊢; exact hq
    · have hf : isBd (.tup ds) = false := by
        unfold isBd
        split
        · exfalso; simp_all
        · rfl
      rw [hf] at hq
      simp [t_is_border, n_is_border, hl]
      exact hq
  | loc p =>
    have hd := hd.1.1
    simp only [tyName] at hd
    cases e : S p with
    | none => rw [e] at hd; cases hd
    | some o =>
      cases o with
      | lst ds => simp [t_is_border, n_is_border, isBd, e] at hq ⊢; exact hq
      | _ => rw [e] at hd; cases hd
  | ty n => cases hd.1.1
  | _ => simp [t_is_border, n_is_border, isBd] at hq ⊢; exact hq

/-! ### fields_at -/
def fst' (b : Bd) : Fd := b.2
def oth (b : Bd) : Fd := if b.1 then (b.2.1 + 1, b.2.2) else (b.2.1, b.2.2 + 1)
def sp_fields_at : DSp := spV fun args _ v => ∃ b, args = [eB b] ∧ v = .tup [eF (fst' b), eF (oth b)]
def n_fields_at : List Str := ["border", "word", "x", "y"]
def t_fields_at (W : DWX) : DTS := (dSeq (dAsg (dVar 0) (gT 3 (gsCons (gN 1) (gsCons (gN 2) (gsCons (gN 3) gsNil)))))
  (dRet (dTup (dCons (dTup (dCons (dVar 2) (dCons (dVar 3) dNil))) (dCons (dIf (dB (dOp rEqD (dVar 1) (dC (.str "right")))) (dTup (dCons (dOp rCatD (dVar 2) (dC (.int 1))) (dCons (dVar 3) dNil))) (dTup (dCons (dVar 2) (dCons (dOp rCatD (dVar 3) (dC (.int 1))) dNil)))) dNil)))))
theorem len_fields_at : Ln 1 sp_fields_at := fun _ _ _ _ ⟨_, ⟨_, h, _⟩, _⟩ => by rw [h]; rfl
theorem wd_t : wd true = ("right" : Str) := rfl
theorem wd_f : wd false = ("down" : Str) := rfl
theorem down_ne : ¬ (("down" : Str) = "right") := by decide
theorem rd_fields_at : Rd n_fields_at t_fields_at sp_fields_at := fun {args S Q Ed} h => by
  obtain ⟨v, ⟨⟨r, x, y⟩, rfl, rfl⟩, hQ⟩ := h
  have hq := hQ S (Ext.refl S)
  cases r with
  | false => simp [t_fields_at, n_fields_at, eB, eF, wd_f, fst', oth, down_ne] at hq ⊢; exact hq
  | true => simp [t_fields_at, n_fields_at, eB, eF, wd_t, fst', oth] at hq ⊢; exact hq

/-! ### rises -/
def risD (ds : List D) : Bool := (ds.zip ds.tail).all fun p => D.lt p.1 p.2
def sp_rises : DSp := spV fun args _ v => ∃ ds, args = [.tup ds] ∧ ds.length ≤ 10000 ∧ (∀ x ∈ ds, ∀ y ∈ ds, ordOk x y = true) ∧ v = .bl (risD ds)
def n_rises : List Str := ["thing", "one", "other"]
def t_rises (W : DWX) : DTS := (dRet (dNotV (dLc (dZip (dCons (dVar 0) (dCons (dSl (dVar 0) (dPart (dC (.int 1))) dNo) dNil))) (gT 2 (gsCons (gN 1) (gsCons (gN 2) gsNil))) (dB (dOp rGeD (dVar 1) (dVar 2))) (dC (.int 1)) [1, 2])))
theorem len_rises : Ln 1 sp_rises := fun _ _ _ _ ⟨_, ⟨_, h, _⟩, _⟩ => by rw [h]; rfl
theorem cutD_1' (ds : List D) : cutD ds (some 1) none = ds.tail := by
  cases ds with
  | nil => rfl
  | cons a r => rw [cutD_1]; rfl
def rF : D → Option D
  | .tup [a, b] => if D.lt a b = true then none else some (.int 1)
  | _ => none
theorem rd_rises : Rd n_rises t_rises sp_rises := fun {args S Q Ed} h => by
  obtain ⟨v, ⟨ds, rfl, hl, ho, rfl⟩, hQ⟩ := h
  simp [t_rises, n_rises]
  refine dLc_pure rF (ds := zipD ds ds.tail) (G := fun _ => True) (S1 := S) (fun R h => ?_) (fun _ _ => trivial) (fun x hx S' e K hK => ?_) (fun S' p e hp => ?_)
  · simp [dZip, cutD_1', hl]; exact h
  · obtain ⟨⟨a, b⟩, hm, rfl⟩ := List.mem_map.mp hx
    have hab := List.of_mem_zip hm
    have := hK S' (Ext.refl S')
    simp [rGeD, ho a hab.1 b (List.mem_of_mem_tail hab.2)]
    cases hc : D.lt a b <;> simp [hc, rF] at this ⊢ <;> exact this
  · simp only [put_same]
    have key : (List.filterMap rF (zipD ds ds.tail)).isEmpty = risD ds := by
      unfold zipD risD
      rw [List.filterMap_map]
      generalize ds.zip ds.tail = l
      induction l with
      | nil => rfl
      | cons p l ih =>
        rw [List.filterMap_cons, List.all_cons]
        cases hc : D.lt p.1 p.2 <;> simp [hc, rF] at ih ⊢
        exact ih
    simp [key]
    exact hQ _ (e.trans (Ext.new hp))
theorem risD_iff {α : Type} {e : α → D} {l : List α} : risD (l.map e) = true ↔ Ris e l := by
  unfold risD Ris
  induction l with
  | nil => simp
  | cons a l ih =>
    cases l with
    | nil => simp
    | cons b l =>
      have ih' : (((b :: l).map e).zip (List.tail ((b :: l).map e))).all (fun p => D.lt p.1 p.2) = true ↔ List.Pairwise (fun a b => D.lt (e a) (e b) = true) (b :: l) := ih
      have e1 : (((a :: b :: l).map e).zip (List.tail ((a :: b :: l).map e))).all (fun p => D.lt p.1 p.2) = (D.lt (e a) (e b) && (((b :: l).map e).zip (List.tail ((b :: l).map e))).all (fun p => D.lt p.1 p.2)) := rfl
      rw [e1, Bool.and_eq_true, ih']
      constructor
      · rintro ⟨h1, h2⟩
        refine List.pairwise_cons.mpr ⟨fun c hc => ?_, h2⟩
        rcases List.mem_cons.mp hc with rfl | hc
        · exact h1
        · exact lt_tr h1 ((List.pairwise_cons.mp h2).1 c hc)
      · intro h
        exact ⟨(List.pairwise_cons.mp h).1 b List.mem_cons_self, (List.pairwise_cons.mp h).2⟩
theorem ord_F (a b : Fd) : ordOk (eF a) (eF b) = true := by
  unfold ordOk
  rw [pl_F, pl_F]
  rfl
theorem ord_B (a b : Bd) : ordOk (eB a) (eB b) = true := by
  unfold ordOk
  rw [pl_B, pl_B]
  rfl
theorem ords_F (l : List Fd) : ∀ x ∈ l.map eF, ∀ y ∈ l.map eF, ordOk x y = true := fun x hx y hy => by
  obtain ⟨a, _, rfl⟩ := List.mem_map.mp hx
  obtain ⟨b, _, rfl⟩ := List.mem_map.mp hy
  exact ord_F a b
theorem ords_B (l : List Bd) : ∀ x ∈ l.map eB, ∀ y ∈ l.map eB, ordOk x y = true := fun x hx y hy => by
  obtain ⟨a, _, rfl⟩ := List.mem_map.mp hx
  obtain ⟨b, _, rfl⟩ := List.mem_map.mp hy
  exact ord_B a b
theorem sort_F (l : List Fd) : sortOk (l.map eF) := by
  refine ⟨fun d hd e he => ?_, fun d hd => ?_, .inl fun d hd => ?_⟩
  · obtain ⟨a, _, rfl⟩ := List.mem_map.mp hd
    obtain ⟨b, _, rfl⟩ := List.mem_map.mp he
    rfl
  · obtain ⟨a, _, rfl⟩ := List.mem_map.mp hd
    exact pl_F a
  · obtain ⟨a, _, rfl⟩ := List.mem_map.mp hd
    exact ⟨_, _, rfl⟩
theorem sort_B (l : List Bd) : sortOk (l.map eB) := by
  refine ⟨fun d hd e he => ?_, fun d hd => ?_, .inl fun d hd => ?_⟩
  · obtain ⟨a, _, rfl⟩ := List.mem_map.mp hd
    obtain ⟨b, _, rfl⟩ := List.mem_map.mp he
    rfl
  · obtain ⟨a, _, rfl⟩ := List.mem_map.mp hd
    exact pl_B a
  · obtain ⟨a, _, rfl⟩ := List.mem_map.mp hd
    exact ⟨_, _, rfl⟩
end DL

namespace DL
open PySem PySem.Spec PyProof.Rows L2

theorem eF_eq (x y : Int) : D.tup [.int x, .int y] = eF (x, y) := rfl
theorem eB_t (x y : Int) : D.tup [.str "right", .int x, .int y] = eB (true, x, y) := rfl
theorem eB_f (x y : Int) : D.tup [.str "down", .int x, .int y] = eB (false, x, y) := rfl
theorem eB_w (r : Bool) (x y : Int) : D.tup [.str (wd r), .int x, .int y] = eB (r, x, y) := rfl
theorem put_get {S : Store} {p q : Addr} {o u : MO} (h : S q = none) (hp : S p = some o) : put S q u p = some o := by
  rw [put_ne (fun z => by rw [z, h] at hp; cases hp)]; exact hp
/-! ### borders_of -/
def rawB (r : Bool) (fs : List Fd) : List Bd := (fs.filter fun f => decide (oth (r, f) ∈ fs)).map fun f => (r, f)
def bordersOf (fs : List Fd) : List Bd := srt eB (rawB false fs ++ rawB true fs)
def sp_borders_of : DSp := spL fun args _ ds => ∃ fs : List Fd, args = [.tup (fs.map eF)] ∧ fs.length ≤ 1000 ∧ ds = (bordersOf fs).map eB
def n_borders_of : List Str := ["fields", "some", "found", "word", "x", "y", "field"]
def l_borders_of_1 (W : DWX) : DTS := (dFor (dIter (dVar 0)) (gT 2 (gsCons (gN 4) (gsCons (gN 5) gsNil))) (dIfS (dB (dOp rInD (dOp rIxD (dCall sp_fields_at W (dCons (dTup (dCons (dVar 3) (dCons (dVar 4) (dCons (dVar 5) dNil)))) dNil)) (dC (.int 1))) (dVar 1))) (dDrop (dBM "list" rAppD (dVar 2) (dCons (dTup (dCons (dVar 3) (dCons (dVar 4) (dCons (dVar 5) dNil)))) dNil))) dNext))
def l_borders_of_2 (W : DWX) : DTS := (dFor (dIter (dTup (dCons (dC (.str "down")) (dCons (dC (.str "right")) dNil)))) (gN 3) (l_borders_of_1 W))
def t_borders_of (W : DWX) : DTS := (dSeq (dAsg (dDc (dIter (dVar 0)) (dcR1 (gN 6) dYes (dVar 6) (dC (.bl true)) [6])) (gN 1))
  (dSeq (dAsg (dLst dNil) (gN 2))
  (dSeq (l_borders_of_2 W)
  (dRet (dCB rSortD (dCons (dVar 2) dNil))))))
theorem len_borders_of : Ln 1 sp_borders_of := fun _ _ _ _ ⟨_, ⟨_, h, _⟩, _⟩ => by rw [h]; rfl
theorem foldF {fs : List Fd} {f : Fd} : eF f ∈ (fs.map eF).foldl addK [] ↔ f ∈ fs := by
  rw [mem_foldK, mem_eF]; simp
theorem Ext.free {S S' : Store} {p : Addr} (e : Ext S S') (h : S' p = none) : S p = none := by
  cases q : S p with
  | none => rfl
  | some o => rw [e p o q] at h; cases h
theorem Ext.putN {S S' : Store} {p : Addr} {o : MO} (e : Ext S S') (h : S p = none) : Ext S (put S' p o) := fun b u q => by
  rw [put_ne (fun z => by rw [z, h] at q; cases q)]; exact e b u q
theorem get_put {S : Store} {p q : Addr} {o u : MO} (h : S p = some o) (n : p ≠ q) : put S q u p = some o := by rw [put_ne n]; exact h
theorem ne_get {S : Store} {p q : Addr} {o u : MO} (h : S p = some o) (k : S q = some u) (n : o ≠ u) : p ≠ q := fun z => by rw [z, k] at h; exact n (Option.some.inj h).symm
theorem inner_borders_of {W : DWX} {S0 : Store} {fs : List Fd} {p1 p2 : Addr} {n1 : Nat} (r : Bool) (acc : List Bd) (a b c : Option D) (S : Store) (E : DEnds) (hacc : acc.length + fs.length ≤ 5000) (hp2 : S0 p2 = none) (he : Ext S0 S) (h1 : S p1 = some (.dic n1 (dT ((fs.map eF).foldl addK [])))) (h2 : S p2 = some (.lst (acc.map eB)))
    (hE : ∀ a b S', Ext S0 S' → S' p1 = some (.dic n1 (dT ((fs.map eF).foldl addK []))) → S' p2 = some (.lst ((acc ++ rawB r fs).map eB)) → E.nx [some (.tup (fs.map eF)), some (.loc p1), some (.loc p2), some (.str (wd r)), a, b, c] S') :
    l_borders_of_1 W E [some (.tup (fs.map eF)), some (.loc p1), some (.loc p2), some (.str (wd r)), a, b, c] S := by
  unfold l_borders_of_1
  refine dFor_inv (ds := fs.map eF) (G := fun _ => True) (S1 := S) (fun R h => h) (fun rest σ S' => ∃ done gs a b, rest = gs.map eF ∧ fs = done ++ gs ∧ σ = [some (.tup (fs.map eF)), some (.loc p1), some (.loc p2), some (.str (wd r)), a, b, c] ∧ Ext S0 S' ∧ S' p1 = some (.dic n1 (dT ((fs.map eF).foldl addK []))) ∧
    S' p2 = some (.lst ((acc ++ (done.filter fun f => decide (oth (r, f) ∈ fs)).map fun f => (r, f)).map eB))) ⟨[], fs, a, b, rfl, rfl, rfl, he, h1, by simpa using h2⟩ ?_ ?_
  · rintro σ S' ⟨done, gs, a, b, e1, e2, rfl, e3, e4, e5⟩
    have : gs = [] := by cases gs with | nil => rfl | cons _ _ => simp at e1
    subst this
    rw [List.append_nil] at e2
    subst e2
    exact ⟨trivial, hE a b S' e3 e4 e5⟩
  · rintro x rest σ S' ⟨done, gs, a, b, e1, e2, rfl, e3, e4, e5⟩
    refine ⟨trivial, fun N hN => ?_⟩
    cases gs with
    | nil => simp at e1
    | cons f gs =>
      obtain ⟨x', y'⟩ := f
      simp only [List.map_cons, List.cons.injEq] at e1
      obtain ⟨rfl, rfl⟩ := e1
      have hno : (done ++ (x', y') :: gs).length ≤ 5000 := by rw [← e2]; omega
      simp [eF]
      refine ⟨_, ⟨(r, x', y'), rfl, rfl⟩, fun S2 e => ?_⟩
      have f1 := e _ _ e4
      have f2 := e _ _ e5
      have hix : atI [eF (fst' (r, x', y')), eF (oth (r, x', y'))] 1 = some (eF (oth (r, x', y'))) := atI_nn (by decide)
      simp [rIxD, hix, inOk, f1, inV, dget_dT, isK_F]
      by_cases ho : oth (r, x', y') ∈ fs
      · have hm : eF (oth (r, x', y')) ∈ List.foldl addK [] (fs.map eF) := foldF.mpr ho
        simp [hm, rAppD, tyD, f2]
        have hfl : (done.filter fun f => decide (oth (r, f) ∈ fs)).length ≤ done.length := List.length_filter_le _ _
        simp at hno
        refine ⟨by omega, hN _ _ ⟨done ++ [(x', y')], gs, some (.int x'), some (.int y'), rfl, by rw [e2]; simp, rfl, (e3.trans e).putN hp2, get_put f1 (ne_get f1 f2 (by simp)), ?_⟩⟩
        rw [put_same]
        simp [List.filter_append, ho, eB]
      · have hm : ¬ eF (oth (r, x', y')) ∈ List.foldl addK [] (fs.map eF) := fun z => ho (foldF.mp z)
        simp [hm]
        refine hN _ _ ⟨done ++ [(x', y')], gs, some (.int x'), some (.int y'), rfl, by rw [e2]; simp, rfl, e3.trans e, f1, ?_⟩
        rw [f2]
        simp [List.filter_append, ho]
theorem rd_borders_of : Rd n_borders_of t_borders_of sp_borders_of := fun {args S Q Ed} h => by
  obtain ⟨ds, ⟨fs, rfl, hl, rfl⟩, hQ⟩ := h
  simp only [t_borders_of, n_borders_of, dSeq, dAsg]
  refine dDc_pure (fun x => some x) (ds := fs.map eF) (G := fun _ => True) (S1 := S) (fun R h => h) (fun _ _ => trivial) (by simp; omega) (fun x hx k hk => ?_) (fun x hx S' e K hK => ?_) (fun S1 p1 n1 e1 hp1 => ?_)
  · cases hk
    obtain ⟨f, _, rfl⟩ := List.mem_map.mp hx
    exact key_F f
  · simp
    exact hK S' (Ext.refl S')
  · have hks : (List.filterMap (fun x => some x) (fs.map eF)).foldl addK [] = (fs.map eF).foldl addK [] := by rw [List.filterMap_some]
    rw [hks]
    have e1' := e1.trans (Ext.new (o := .dic n1 (dT ((fs.map eF).foldl addK []))) hp1)
    have g1 : put S1 p1 (.dic n1 (dT ((fs.map eF).foldl addK []))) p1 = some (.dic n1 (dT ((fs.map eF).foldl addK []))) := put_same
    generalize put S1 p1 (.dic n1 (dT ((fs.map eF).foldl addK []))) = S2 at e1' g1
    simp
    intro p2 hp2
    have hp2S := e1'.free hp2
    have e2 := e1'.trans (Ext.new (o := .lst []) hp2)
    have f1 := Ext.new (o := .lst []) hp2 _ _ g1
    have f2 : put S2 p2 (.lst []) p2 = some (.lst []) := put_same
    generalize put S2 p2 (.lst []) = S3 at e2 f1 f2
    refine ⟨trivial, inner_borders_of false [] none none none S3 _ (by simp; omega) hp2S e2 f1 f2 fun a b S4 e4 q1 q2 => ⟨trivial, ?_⟩⟩
    have hlen : (rawB false fs).length ≤ fs.length := by unfold rawB; rw [List.length_map]; exact List.length_filter_le _ _
    refine inner_borders_of true (rawB false fs) a b none S4 _ (by omega) hp2S e4 q1 (by simpa using q2) fun a b S5 e5 q3 q4 => ⟨trivial, ?_⟩
    simp [rSortD, q4]
    rw [← List.map_append]
    refine ⟨sort_B _, fun p hp => ?_⟩
    rw [dsort_map]
    exact hQ _ p (e5.trans (Ext.new hp)) (e5.free hp) put_same
end DL

namespace DL
open PySem PySem.Spec PyProof.Rows L2
@[simp] theorem isK_F1 (f : Fd) : (eF f).isK = true := rfl
@[simp] theorem isK_F2 (f : Fd) : (eF f).dep = 1 := rfl
@[simp] theorem isK_F3 (f : Fd) : (eF f).isTup = true := rfl
@[simp] theorem isK_B1 (f : Bd) : (eB f).isK = true := rfl
@[simp] theorem isK_B2 (f : Bd) : (eB f).dep = 1 := rfl
@[simp] theorem isK_B3 (f : Bd) : (eB f).isTup = true := rfl

/-! ### what hangs together -/
def Adj (hs : List Bd) (f g : Fd) : Prop := ∃ b ∈ hs, (fst' b = f ∧ oth b = g) ∨ (fst' b = g ∧ oth b = f)
theorem Adj.symm {hs : List Bd} {f g : Fd} (h : Adj hs f g) : Adj hs g f := let ⟨b, hb, h⟩ := h; ⟨b, hb, h.symm⟩
inductive Reach (hs : List Bd) (f : Fd) : Fd → Prop
  | refl : Reach hs f f
  | step {g h : Fd} : Reach hs f g → Adj hs g h → Reach hs f h
theorem Reach.trans {hs : List Bd} {f g h : Fd} (a : Reach hs f g) (b : Reach hs g h) : Reach hs f h := by
  induction b with
  | refl => exact a
  | step _ k ih => exact .step ih k
theorem Reach.symm {hs : List Bd} {f g : Fd} (a : Reach hs f g) : Reach hs g f := by
  induction a with
  | refl => exact .refl
  | step _ k ih => exact Reach.trans (.step .refl k.symm) ih
theorem Reach.mono {hs hs' : List Bd} {f g : Fd} (m : ∀ b ∈ hs, b ∈ hs') (a : Reach hs f g) : Reach hs' f g := by
  induction a with
  | refl => exact .refl
  | step _ k ih => exact .step ih (let ⟨b, hb, k⟩ := k; ⟨b, m b hb, k⟩)
open Classical in
noncomputable def lotOf (fs : List Fd) (hs : List Bd) (f : Fd) : List Fd := fs.filter fun g => decide (Reach hs f g)
theorem mem_lotOf {fs : List Fd} {hs : List Bd} {f g : Fd} : g ∈ lotOf fs hs f ↔ g ∈ fs ∧ Reach hs f g := by
  classical
  unfold lotOf
  rw [List.mem_filter]
  simp
def eL (l : List Fd) : D := .tup (l.map eF)
/-- a set that is closed is the lot -/
theorem lot_is {fs : List Fd} {hs : List Bd} {f : Fd} {fd : List Fd} (hr : Ris eF fs) (hn : fd.Nodup) (hin : ∀ g ∈ fd, g ∈ fs) (hf : f ∈ fd) (hre : ∀ g ∈ fd, Reach hs f g) (hcl : ∀ g ∈ fd, ∀ h, Adj hs g h → h ∈ fd) : srt eF fd = lotOf fs hs f := by
  refine Ris.uniq oinj_F (ris_srt oinj_F hn) (hr.filter _) fun g => ?_
  rw [mem_srt]
  show g ∈ fd ↔ g ∈ lotOf fs hs f
  rw [mem_lotOf]
  constructor
  · exact fun h => ⟨hin g h, hre g h⟩
  · rintro ⟨hx, h⟩
    clear hx
    induction h with
    | refl => exact hf
    | step _ k ih => exact hcl _ ih _ k

/-! ### the neighbours -/
structure NearAt (S : Store) (pn : Addr) (fs : List Fd) (nk : List (Fd × Addr)) (adj : Fd → List Fd) : Prop where
  at_ : ∃ n, S pn = some (.dic n (nk.map fun p => (eF p.1, .loc p.2)))
  keys : nk.map (·.1) = fs
  nd : (nk.map (·.2)).Nodup
  each : ∀ p ∈ nk, S p.2 = some (.lst ((adj p.1).map eF))
theorem NearAt.ext {S S' : Store} {pn : Addr} {fs : List Fd} {nk : List (Fd × Addr)} {adj : Fd → List Fd} (h : NearAt S pn fs nk adj) (e : Ext S S') : NearAt S' pn fs nk adj :=
  ⟨let ⟨n, q⟩ := h.at_; ⟨n, e _ _ q⟩, h.keys, h.nd, fun p hp => e _ _ (h.each p hp)⟩
theorem NearAt.put {S : Store} {pn a : Addr} {fs : List Fd} {nk : List (Fd × Addr)} {adj : Fd → List Fd} {o : MO} (h : NearAt S pn fs nk adj) (h1 : a ≠ pn) (h2 : ∀ p ∈ nk, p.2 ≠ a) : NearAt (put S a o) pn fs nk adj :=
  ⟨let ⟨n, q⟩ := h.at_; ⟨n, get_put q (Ne.symm h1)⟩, h.keys, h.nd, fun p hp => get_put (h.each p hp) (h2 p hp)⟩
theorem NearAt.find {S : Store} {pn : Addr} {fs : List Fd} {nk : List (Fd × Addr)} {adj : Fd → List Fd} (h : NearAt S pn fs nk adj) {f : Fd} (hf : f ∈ fs) : ∃ a, (f, a) ∈ nk ∧ dget (nk.map fun p => (eF p.1, .loc p.2)) (eF f) = some (.loc a) := by
  rw [← h.keys] at hf
  have := h.keys
  clear this
  clear h
  induction nk with
  | nil => simp at hf
  | cons p nk ih =>
    unfold dget
    rw [List.map_cons, List.find?_cons]
    by_cases hp : p.1 = f
    · subst hp
      simp
    · have hn : decide (eF p.1 = eF f) = false := decide_eq_false fun z => hp (eF_inj z)
      simp only [hn]
      rw [List.map_cons, List.mem_cons] at hf
      rcases hf with hf | hf
      · exact (hp hf.symm).elim
      · obtain ⟨a, h1, h2⟩ := ih hf
        exact ⟨a, List.mem_cons_of_mem _ h1, h2⟩

/-! ### lot_from -/
def sp_lot_from : DSp := fun args S Q _ => ∃ (fs : List Fd) (hs : List Bd) (f : Fd) (pn ps : Addr) (n : Nat) (nk : List (Fd × Addr)) (adj : Fd → List Fd) (sn0 sn : List Fd), args = [eF f, .loc pn, .loc ps] ∧ NearAt S pn fs nk adj ∧ S ps = some (.dic n (dT (sn.map eF))) ∧ Ris eF fs ∧ fs.length ≤ 1000 ∧
  f ∈ fs ∧ (∀ g h, h ∈ adj g ↔ Adj hs g h) ∧ (∀ g h, Adj hs g h → h ∈ fs) ∧ (∀ g, g ∈ sn ↔ g ∈ sn0 ∨ g = f) ∧ f ∉ sn0 ∧ (∀ g ∈ sn0, ∀ h, Adj hs g h → h ∈ sn0) ∧ sn.Nodup ∧ (∀ g ∈ sn, g ∈ fs) ∧
  ∀ (S' : Store) (sn' : List Fd) (n' : Nat), ExtX ps S S' → S' ps = some (.dic n' (dT (sn'.map eF))) → (∀ g, g ∈ sn' ↔ g ∈ sn0 ∨ g ∈ lotOf fs hs f) → sn'.Nodup → (∀ g ∈ sn', g ∈ fs) → Q (eL (lotOf fs hs f)) S'
def n_lot_from : List Str := ["field", "near", "seen", "waiting", "found", "here", "other"]
def l_lot_from_1 (W : DWX) : DTS := (dFor (dIter (dOp rIxD (dVar 1) (dVar 5))) (gN 6) (dIfS (dB (dOp rNinD (dVar 6) (dVar 2))) (dSeq (dSetIx (dVar 2) (dVar 6) (dC (.bl true)))
  (dDrop (dBM "list" rAppD (dVar 3) (dCons (dVar 6) dNil)))) dNext))
def l_lot_from_2 (W : DWX) : DTS := (dWhile (dTr (dVar 3)) (dSeq (dAsg (dBM0 "list" rPopD (dVar 3)) (gN 5))
  (dSeq (dDrop (dBM "list" rAppD (dVar 4) (dCons (dVar 5) dNil)))
  (l_lot_from_1 W))))
def t_lot_from (W : DWX) : DTS := (dSeq (dAsg (dLst (dCons (dVar 0) dNil)) (gN 3))
  (dSeq (dAsg (dLst dNil) (gN 4))
  (dSeq (l_lot_from_2 W)
  (dRet (dCB rTupD (dCons (dCB rSortD (dCons (dVar 4) dNil)) dNil))))))
theorem len_lot_from : Ln 3 sp_lot_from := fun _ _ _ _ ⟨_, _, _, _, _, _, _, _, _, _, h, _⟩ => by rw [h]; rfl
theorem len_le_of_nodup {α : Type} [DecidableEq α] : ∀ {l m : List α}, l.Nodup → (∀ a ∈ l, a ∈ m) → l.length ≤ m.length
  | [], _, _, _ => by simp
  | a :: l, m, hn, hs => by
    rw [List.nodup_cons] at hn
    have ha := hs a List.mem_cons_self
    have h1 := len_le_of_nodup (l := l) (m := m.erase a) hn.2 fun b hb => by
      refine (List.mem_erase_of_ne (fun z => hn.1 (by rw [← z]; exact hb))).mpr (hs b (List.mem_cons_of_mem _ hb))
    have h2 : (m.erase a).length = m.length - 1 := List.length_erase_of_mem ha
    have h3 : 0 < m.length := List.length_pos_of_mem ha
    simp; omega
theorem addK_eF (sn : List Fd) (g : Fd) (h : g ∉ sn) : addK (sn.map eF) (eF g) = (sn ++ [g]).map eF := by
  unfold addK
  rw [if_neg (fun z => h (mem_eF.mp z))]
  simp
structure LotSt (S0 : Store) (fs : List Fd) (hs : List Bd) (f : Fd) (sn0 : List Fd) (pn ps pw pf : Addr) (nk : List (Fd × Addr)) (adj : Fd → List Fd) (wt fd sn : List Fd) (S : Store) : Prop where
  near : NearAt S pn fs nk adj
  w : S pw = some (.lst (wt.map eF))
  d : S pf = some (.lst (fd.map eF))
  s : ∃ n, S ps = some (.dic n (dT (sn.map eF)))
  x : ExtX ps S0 S
  wf : S0 pw = none
  df : S0 pf = none
  wd' : pw ≠ pf
  wn : ∀ p ∈ nk, p.2 ≠ pw
  dn : ∀ p ∈ nk, p.2 ≠ pf
  mem : ∀ g, g ∈ sn ↔ g ∈ sn0 ∨ g ∈ fd ∨ g ∈ wt
  nd : (fd ++ wt).Nodup
  out : ∀ g ∈ fd ++ wt, g ∉ sn0
  snd' : sn.Nodup
  sin : ∀ g ∈ sn, g ∈ fs
  re : ∀ g ∈ fd ++ wt, Reach hs f g
  fin : f ∈ fd ++ wt
theorem LotSt.ps_ne {S0 : Store} {fs : List Fd} {hs : List Bd} {f : Fd} {sn0 : List Fd} {pn ps pw pf : Addr} {nk : List (Fd × Addr)} {adj : Fd → List Fd} {wt fd sn : List Fd} {S : Store} (h : LotSt S0 fs hs f sn0 pn ps pw pf nk adj wt fd sn S) : (∀ p ∈ nk, p.2 ≠ ps) ∧ ps ≠ pw ∧ ps ≠ pf := by
  obtain ⟨n, hs'⟩ := h.s
  exact ⟨fun p hp => ne_get (h.near.each p hp) hs' (by simp), ne_get hs' h.w (by simp), ne_get hs' h.d (by simp)⟩
theorem inner_lot_from {W : DWX} {S0 : Store} {fs : List Fd} {hs : List Bd} {f : Fd} {sn0 : List Fd} {pn ps pw pf : Addr} {nk : List (Fd × Addr)} {adj : Fd → List Fd} {wt fd sn : List Fd} {S : Store} {here : Fd} (hne : pn ≠ ps) (hl : fs.length ≤ 1000) (hadj : ∀ g h, h ∈ adj g ↔ Adj hs g h) (hin : ∀ g h, Adj hs g h → h ∈ fs)
    (hc : ∀ g ∈ sn0, ∀ h, Adj hs g h → h ∈ sn0) (hhere : here ∈ fd) (I : LotSt S0 fs hs f sn0 pn ps pw pf nk adj wt fd sn S) (hcl : ∀ g ∈ fd, g ≠ here → ∀ h, Adj hs g h → h ∈ sn) (o : Option D) (E : DEnds)
    (hE : ∀ o wt sn S, LotSt S0 fs hs f sn0 pn ps pw pf nk adj wt fd sn S → (∀ g ∈ fd, ∀ h, Adj hs g h → h ∈ sn) → E.nx [some (eF f), some (.loc pn), some (.loc ps), some (.loc pw), some (.loc pf), some (eF here), o] S) :
    l_lot_from_1 W E [some (eF f), some (.loc pn), some (.loc ps), some (.loc pw), some (.loc pf), some (eF here), o] S := by
  have hhf : here ∈ fs := I.sin here ((I.mem here).mpr (.inr (.inl hhere)))
  obtain ⟨a, ha, hget⟩ := I.near.find hhf
  obtain ⟨nn, hnear⟩ := I.near.at_
  have hlst := I.near.each _ ha
  unfold l_lot_from_1
  refine dFor_inv (ds := (adj here).map eF) (G := fun S => S a = some (.lst ((adj here).map eF))) (S1 := S) (fun R h => ?_)
    (fun rest σ S' => ∃ done gs wt sn o, rest = gs.map eF ∧ adj here = done ++ gs ∧ σ = [some (eF f), some (.loc pn), some (.loc ps), some (.loc pw), some (.loc pf), some (eF here), o] ∧ LotSt S0 fs hs f sn0 pn ps pw pf nk adj wt fd sn S' ∧ (∀ g ∈ fd, g ≠ here → ∀ h, Adj hs g h → h ∈ sn) ∧ ∀ g ∈ done, g ∈ sn)
    ⟨[], adj here, wt, sn, o, rfl, rfl, rfl, I, hcl, by simp⟩ ?_ ?_
  · simp [hnear, hget, isK_F, hlst]
    exact h
  · rintro σ S' ⟨done, gs, wt, sn, o, e1, e2, rfl, I, hcl, hd⟩
    have : gs = [] := by cases gs with | nil => rfl | cons _ _ => simp at e1
    subst this
    rw [List.append_nil] at e2
    refine ⟨I.near.each _ ha, hE o wt sn S' I fun g hg h k => ?_⟩
    by_cases hgh : g = here
    · subst hgh
      exact hd h (e2 ▸ (hadj g h).mpr k)
    · exact hcl g hg hgh h k
  · rintro x rest σ S' ⟨done, gs, wt, sn, o, e1, e2, rfl, I, hcl, hd⟩
    refine ⟨I.near.each _ ha, fun N hN => ?_⟩
    cases gs with
    | nil => simp at e1
    | cons g gs =>
      simp only [List.map_cons, List.cons.injEq] at e1
      obtain ⟨rfl, rfl⟩ := e1
      obtain ⟨n, hsn⟩ := I.s
      obtain ⟨q1, q2, q3⟩ := I.ps_ne
      have hgA : Adj hs here g := (hadj here g).mp (by rw [e2]; simp)
      simp [hsn, isK_F, dget_dT, mem_eF]
      by_cases hg : g ∈ sn
      · simp [hg]
        refine hN _ _ ⟨done ++ [g], gs, wt, sn, some (eF g), rfl, by rw [e2]; simp, rfl, I, hcl, fun h hh => ?_⟩
        rcases List.mem_append.mp hh with hh | hh
        · exact hd h hh
        · rw [List.mem_singleton] at hh; subst hh; exact hg
      · have hlen : sn.length ≤ fs.length := len_le_of_nodup I.snd' I.sin
        have hwl : wt.length ≤ fs.length := len_le_of_nodup (List.nodup_append.mp I.nd).2.1 fun g hg => I.sin g ((I.mem g).mpr (.inr (.inr hg)))
        have hdp : dput (dT (sn.map eF)) (eF g) (.bl true) = dT ((sn ++ [g]).map eF) := by rw [dput_dT, addK_eF sn g hg]
        simp [hg, dT_len]
        refine ⟨by omega, fun n' => ?_⟩
        have hw' : put S' ps (.dic n' (dput (dT (sn.map eF)) (eF g) (.bl true))) pw = some (.lst (wt.map eF)) := get_put I.w (Ne.symm q2)
        simp [tyD, hw']
        refine ⟨by omega, hN _ _ ⟨done ++ [g], gs, wt ++ [g], sn ++ [g], some (eF g), rfl, by rw [e2]; simp, rfl, ?_, fun g' hg' hne' h k => List.mem_append_left _ (hcl g' hg' hne' h k), fun h hh => ?_⟩⟩
        · have hgo : g ∉ sn0 := fun z => hg ((I.mem g).mpr (.inl z))
          have hgd : g ∉ fd := fun z => hg ((I.mem g).mpr (.inr (.inl z)))
          have hgw : g ∉ wt := fun z => hg ((I.mem g).mpr (.inr (.inr z)))
          refine ⟨(I.near.put hne.symm q1).put (ne_get I.w (I.near.at_).choose_spec (by simp)) I.wn, ?_, ?_, ⟨n', ?_⟩, ?_, I.wf, I.df, I.wd', I.wn, I.dn, ?_, ?_, ?_, ?_, ?_, ?_, ?_⟩
          · rw [put_same]; simp
          · rw [put_ne I.wd'.symm]; exact get_put I.d (Ne.symm q3)
          · rw [put_ne q2, put_same, hdp]
          · intro b u hb e
            rw [put_ne (fun z => by rw [z, I.wf] at e; cases e), put_ne hb]
            exact I.x b u hb e
          · intro h
            rw [List.mem_append, I.mem h, List.mem_append]
            constructor
            · rintro ((k | k | k) | k)
              · exact .inl k
              · exact .inr (.inl k)
              · exact .inr (.inr (.inl k))
              · exact .inr (.inr (.inr k))
            · rintro (k | k | k | k)
              · exact .inl (.inl k)
              · exact .inl (.inr (.inl k))
              · exact .inl (.inr (.inr k))
              · exact .inr k
          · rw [← List.append_assoc, List.nodup_append]
            refine ⟨I.nd, by simp, fun a ha b hb => ?_⟩
            rw [List.mem_singleton] at hb
            subst hb
            intro z
            subst z
            rcases List.mem_append.mp ha with k | k
            · exact hgd k
            · exact hgw k
          · intro h hh
            rw [← List.append_assoc, List.mem_append, List.mem_singleton] at hh
            rcases hh with k | rfl
            · exact I.out h k
            · exact hgo
          · rw [List.nodup_append]
            refine ⟨I.snd', by simp, fun a ha b hb => ?_⟩
            rw [List.mem_singleton] at hb
            subst hb
            exact fun z => hg (z ▸ ha)
          · intro h hh
            rcases List.mem_append.mp hh with k | k
            · exact I.sin h k
            · rw [List.mem_singleton] at k; subst k; exact hin here h hgA
          · intro h hh
            rw [← List.append_assoc, List.mem_append, List.mem_singleton] at hh
            rcases hh with k | rfl
            · exact I.re h k
            · exact .step (I.re here (List.mem_append_left _ hhere)) hgA
          · rw [← List.append_assoc]; exact List.mem_append_left _ I.fin
        · rcases List.mem_append.mp hh with k | k
          · exact List.mem_append_left _ (hd h k)
          · exact List.mem_append_right _ k
end DL

namespace DL
open PySem PySem.Spec PyProof.Rows L2

theorem rd_lot_from : Rd n_lot_from t_lot_from sp_lot_from := fun {args S Q Ed} h => by
  obtain ⟨fs, hs, f, pn, ps, n, nk, adj, sn0, sn, rfl, hnear, hsn, hris, hl, hf, hadj, hin, hmem, hf0, hc, hsnd, hsin, hQ⟩ := h
  have hne : pn ≠ ps := by
    intro z
    obtain ⟨n', q⟩ := hnear.at_
    rw [z, hsn] at q
    simp only [Option.some.injEq, MO.dic.injEq] at q
    have hl' := q.2
    cases nk with
    | nil => have := hnear.keys; simp at this; rw [this] at hf; simp at hf
    | cons p nk =>
      cases sn with
      | nil => simp [dT] at hl'
      | cons g sn => simp [dT] at hl'
  simp [t_lot_from, n_lot_from]
  intro pw hpw pf hpf
  have e1 : Ext S (put S pw (.lst [eF f])) := Ext.new hpw
  have hpfS := e1.free hpf
  have hwf : pw ≠ pf := fun z => by rw [z] at hpf; simp [put_same] at hpf
  have e2 : Ext S (put (put S pw (.lst [eF f])) pf (.lst [])) := e1.trans (Ext.new hpf)
  have I0 : LotSt S fs hs f sn0 pn ps pw pf nk adj [f] [] sn (put (put S pw (.lst [eF f])) pf (.lst [])) := by
    refine ⟨hnear.ext e2, by rw [put_ne hwf, put_same]; rfl, by rw [put_same]; rfl, ⟨n, e2 _ _ hsn⟩, ExtX.of e2, hpw, hpfS, hwf, fun p hp => ?_, fun p hp => ?_, ?_, by simp, ?_, hsnd, hsin, ?_, by simp⟩
    · exact fun z => by have := hnear.each p hp; rw [z, hpw] at this; cases this
    · exact fun z => by have := hnear.each p hp; rw [z, hpfS] at this; cases this
    · intro g; rw [hmem g]; simp
    · intro g hg; simp at hg; subst hg; exact hf0
    · intro g hg; simp at hg; subst hg; exact .refl
  generalize put (put S pw (.lst [eF f])) pf (.lst []) = S1 at I0
  unfold l_lot_from_2
  refine whileN_inv (n := fs.length) (fun m σ S' => ∃ wt fd sn a b, σ = [some (eF f), some (.loc pn), some (.loc ps), some (.loc pw), some (.loc pf), a, b] ∧ m = fs.length - fd.length ∧ LotSt S fs hs f sn0 pn ps pw pf nk adj wt fd sn S' ∧ ∀ g ∈ fd, ∀ h, Adj hs g h → h ∈ sn) ?_ ⟨[f], [], sn, none, none, rfl, by simp, I0, by simp⟩
  rintro m σ S' ⟨wt, fd, sn, a, b, rfl, hm, I, hcl⟩ N hN
  simp [I.w]
  by_cases hw : wt = []
  · subst hw
    simp [rSortD, I.d]
    refine ⟨sort_F fd, fun p hp => ?_⟩
    rw [put_same, dsort_map]
    have hnd : fd.Nodup := by have := I.nd; rwa [List.append_nil] at this
    have hcl' : ∀ g ∈ fd, ∀ h, Adj hs g h → h ∈ fd := fun g hg h k => by
      rcases (I.mem h).mp (hcl g hg h k) with z | z | z
      · exact (I.out g (List.mem_append_left _ hg) (hc h z g k.symm)).elim
      · exact z
      · simp at z
    have hfd : f ∈ fd := by have := I.fin; rwa [List.append_nil] at this
    have hre : ∀ g ∈ fd, Reach hs f g := fun g hg => I.re g (List.mem_append_left _ hg)
    have hif : ∀ g ∈ fd, g ∈ fs := fun g hg => I.sin g ((I.mem g).mpr (.inr (.inl hg)))
    have hlot := lot_is hris hnd hif hfd hre hcl'
    rw [hlot]
    obtain ⟨n', hn'⟩ := I.s
    have hpne : ps ≠ p := fun z => by rw [z, hp] at hn'; cases hn'
    refine hQ _ sn n' (I.x.trans (ExtX.of (Ext.new hp))) (get_put hn' hpne) (fun g => ?_) I.snd' I.sin
    rw [I.mem g, mem_lotOf]
    constructor
    · rintro (k | k | k)
      · exact .inl k
      · exact .inr ⟨hif g k, hre g k⟩
      · simp at k
    · rintro (k | ⟨_, k⟩)
      · exact .inl k
      · refine .inr (.inl ?_)
        have key : ∀ g, Reach hs f g → g ∈ fd := fun g k => by
          induction k with
          | refl => exact hfd
          | step _ k ih => exact hcl' _ ih _ k
        exact key g k
  · obtain ⟨wt', here, rfl⟩ : ∃ wt' here, wt = wt' ++ [here] := ⟨wt.dropLast, wt.getLast hw, (List.dropLast_concat_getLast hw).symm⟩
    simp [tyD, I.w, put_ne I.wd'.symm, I.d]
    have hfl : (fd ++ (wt' ++ [here])).length ≤ fs.length := len_le_of_nodup I.nd fun g hg => I.sin g ((I.mem g).mpr (by rcases List.mem_append.mp hg with k | k; exact .inr (.inl k); exact .inr (.inr k)))
    simp at hfl
    refine ⟨by omega, ?_⟩
    have hhere : here ∈ sn := (I.mem here).mpr (.inr (.inr (by simp)))
    obtain ⟨q1, q2, q3⟩ := I.ps_ne
    obtain ⟨nn, hnn⟩ := I.near.at_
    refine inner_lot_from (S0 := S) (nk := nk) (wt := wt') (fd := fd ++ [here]) (sn := sn) hne hl hadj hin hc (by simp) ?_ (fun g hg hgh h k => ?_) b _ (fun o wt2 sn2 S2 I2 hcl2 => ?_)
    · refine ⟨(I.near.put (ne_get I.w hnn (by simp)) I.wn).put (ne_get I.d hnn (by simp)) I.dn, ?_, ?_, ?_, ?_, I.wf, I.df, I.wd', I.wn, I.dn, ?_, ?_, ?_, I.snd', I.sin, ?_, ?_⟩
      · rw [put_ne I.wd', put_same]
      · rw [put_same]; simp
      · obtain ⟨n', hn'⟩ := I.s
        exact ⟨n', by rw [put_ne q3, put_ne q2]; exact hn'⟩
      · intro c u hc' e
        rw [put_ne (fun z => by rw [z, I.df] at e; cases e), put_ne (fun z => by rw [z, I.wf] at e; cases e)]
        exact I.x c u hc' e
      · intro g
        rw [I.mem g]
        simp only [List.mem_append, List.mem_singleton]
        constructor
        · rintro (k | k | k | k)
          · exact .inl k
          · exact .inr (.inl (.inl k))
          · exact .inr (.inr k)
          · exact .inr (.inl (.inr k))
        · rintro (k | (k | k) | k)
          · exact .inl k
          · exact .inr (.inl k)
          · exact .inr (.inr (.inr k))
          · exact .inr (.inr (.inl k))
      · have := I.nd
        refine (List.Perm.nodup_iff ?_).mp this
        rw [List.append_assoc]
        exact List.Perm.append_left _ List.perm_append_comm
      · intro g hg
        refine I.out g ?_
        simp only [List.mem_append, List.mem_singleton] at hg ⊢
        rcases hg with (k | k) | k
        · exact .inl k
        · exact .inr (.inr k)
        · exact .inr (.inl k)
      · intro g hg
        refine I.re g ?_
        simp only [List.mem_append, List.mem_singleton] at hg ⊢
        rcases hg with (k | k) | k
        · exact .inl k
        · exact .inr (.inr k)
        · exact .inr (.inl k)
      · have := I.fin
        simp only [List.mem_append, List.mem_singleton] at this ⊢
        rcases this with k | k | k
        · exact .inl (.inl k)
        · exact .inr k
        · exact .inl (.inr k)
    · rcases List.mem_append.mp hg with hg | hg
      · exact hcl g hg h k
      · rw [List.mem_singleton] at hg; exact (hgh hg).elim
    · exact hN (fs.length - (fd ++ [here]).length) _ _ (by simp; omega) ⟨wt2, fd ++ [here], sn2, _, o, rfl, rfl, I2, hcl2⟩
end DL

namespace DL
open PySem PySem.Spec PyProof.Rows L2

/-! ### parts_of -/
open Classical in
noncomputable def partsG (fs : List Fd) (hs : List Bd) : List Fd → List (List Fd) → List (List Fd)
  | [], acc => acc
  | f :: r, acc => if ∃ l ∈ acc, f ∈ l then partsG fs hs r acc else partsG fs hs r (acc ++ [lotOf fs hs f])
noncomputable def parts (fs : List Fd) (hs : List Bd) : List (List Fd) := partsG fs hs fs []
theorem partsG_pos {fs : List Fd} {hs : List Bd} {f : Fd} {r : List Fd} {acc : List (List Fd)} (h : ∃ l ∈ acc, f ∈ l) : partsG fs hs (f :: r) acc = partsG fs hs r acc := by
  unfold partsG; rw [if_pos h]; cases r <;> rfl
theorem partsG_neg {fs : List Fd} {hs : List Bd} {f : Fd} {r : List Fd} {acc : List (List Fd)} (h : ¬ ∃ l ∈ acc, f ∈ l) : partsG fs hs (f :: r) acc = partsG fs hs r (acc ++ [lotOf fs hs f]) := by
  unfold partsG; rw [if_neg h]; cases r <;> rfl
/-- borders between fields of fs -/
def InF (fs : List Fd) (hs : List Bd) : Prop := ∀ b ∈ hs, fst' b ∈ fs ∧ oth b ∈ fs
def sp_parts_of : DSp := spL fun args S ds => ∃ (fs : List Fd) (hs : List Bd) (ph : Addr), args = [.tup (fs.map eF), .loc ph] ∧ S ph = some (.lst (hs.map eB)) ∧ Ris eF fs ∧ fs.length ≤ 1000 ∧ hs.length ≤ 1000 ∧ InF fs hs ∧ ds = (parts fs hs).map eL
def n_parts_of : List Str := ["fields", "hanging", "near", "border", "one", "other", "seen", "found", "field"]
def l_parts_of_1 (W : DWX) : DTS := (dFor (dIter (dVar 0)) (gN 8) (dIfS (dB (dOp rNinD (dVar 8) (dVar 6))) (dSeq (dSetIx (dVar 6) (dVar 8) (dC (.bl true)))
  (dDrop (dBM "list" rAppD (dVar 7) (dCons (dCall sp_lot_from W (dCons (dVar 8) (dCons (dVar 2) (dCons (dVar 6) dNil)))) dNil)))) dNext))
def l_parts_of_2 (W : DWX) : DTS := (dFor (dIter (dVar 1)) (gN 3) (dSeq (dAsg (dCall sp_fields_at W (dCons (dVar 3) dNil)) (gT 2 (gsCons (gN 4) (gsCons (gN 5) gsNil))))
  (dSeq (dDrop (dBM "list" rAppD (dOp rIxD (dVar 2) (dVar 4)) (dCons (dVar 5) dNil)))
  (dDrop (dBM "list" rAppD (dOp rIxD (dVar 2) (dVar 5)) (dCons (dVar 4) dNil))))))
def t_parts_of (W : DWX) : DTS := (dSeq (dAsg (dDc (dIter (dVar 0)) (dcR1 (gN 8) dYes (dVar 8) (dLst dNil) [8])) (gN 2))
  (dSeq (l_parts_of_2 W)
  (dSeq (dAsg dDict0 (gN 6))
  (dSeq (dAsg (dLst dNil) (gN 7))
  (dSeq (l_parts_of_1 W)
  (dRet (dVar 7)))))))
theorem len_parts_of : Ln 2 sp_parts_of := fun _ _ _ _ ⟨_, ⟨_, _, _, h, _⟩, _⟩ => by rw [h]; rfl
/-- near = {field: [] for field in fields} -/
theorem near_made {S0 : Store} {Q : DQ} {ph : Addr} (fs0 : List Fd) : ∀ (fs : List Fd) (nk : List (Fd × Addr)) (S : Store), (nk.map (·.1) ++ fs).Nodup → (nk.map (·.1) ++ fs) = fs0 → fs0.length ≤ 1000 → Ext S0 S → (nk.map (·.2)).Nodup → (∀ p ∈ nk, S p.2 = some (.lst []) ∧ S0 p.2 = none) →
    (∀ S' p nk, Ext S0 S' → S0 p = none → NearAt S' p fs0 nk (fun _ => []) → (∀ q ∈ nk, S0 q.2 = none) → Q (.loc p) S') →
    dcL (gN 8) dYes (dVar 8) (dLst dNil) [8] [some (.tup (fs0.map eF)), some (.loc ph), none, none, none, none, none, none, none] (fun _ => True) (dDcF Q) (fs.map eF) (nk.map fun p => (eF p.1, .loc p.2)) S
  | [], nk, S, hnd, hfs, hl, he, hna, hea, hQ => by
    refine ⟨trivial, fun p n hp => ?_⟩
    rw [List.append_nil] at hfs
    refine hQ _ p nk (he.trans (Ext.new hp)) (he.free hp) ⟨⟨n, put_same⟩, hfs, hna, fun q hq => ?_⟩ fun q hq => (hea q hq).2
    exact Ext.new hp _ _ (hea q hq).1
  | f :: fs, nk, S, hnd, hfs, hl, he, hna, hea, hQ => by
    refine ⟨trivial, ?_⟩
    simp
    intro a ha
    have hlen : (nk.map (·.1) ++ f :: fs).length ≤ 1000 := by rw [hfs]; exact hl
    simp at hlen
    refine ⟨rfl, by omega, ?_⟩
    have hfn : ∀ p ∈ nk, p.1 ≠ f := fun p hp z => by
      rw [List.nodup_append] at hnd
      exact hnd.2.2 p.1 (List.mem_map_of_mem hp) f List.mem_cons_self z
    have hget : dget (nk.map fun p => (eF p.1, D.loc p.2)) (eF f) = none := by
      unfold dget
      rw [Option.map_eq_none_iff, List.find?_eq_none]
      intro q hq
      obtain ⟨p, hp, rfl⟩ := List.mem_map.mp hq
      simp
      exact fun z => hfn p hp (eF_inj z)
    have e : dput (nk.map fun p => (eF p.1, D.loc p.2)) (eF f) (.loc a) = (nk ++ [(f, a)]).map fun p => (eF p.1, D.loc p.2) := by
      unfold dput
      rw [hget]
      simp
    rw [e]
    refine near_made fs0 fs (nk ++ [(f, a)]) _ (by simpa using hnd) (by simpa using hfs) hl (he.trans (Ext.new ha)) ?_ (fun p hp => ?_) hQ
    · rw [List.map_append, List.nodup_append]
      refine ⟨hna, by simp, fun b hb c hc z => ?_⟩
      simp at hc
      subst z; subst hc
      obtain ⟨p, hp, hb⟩ := List.mem_map.mp hb
      have := (hea p hp).1
      rw [hb, ha] at this; cases this
    · rcases List.mem_append.mp hp with hp | hp
      · exact ⟨Ext.new ha _ _ (hea p hp).1, (hea p hp).2⟩
      · simp at hp
        subst hp
        exact ⟨put_same, he.free ha⟩
/-- near[one].append(other) -/
theorem near_app {S : Store} {pn : Addr} {fs : List Fd} {nk : List (Fd × Addr)} {adj : Fd → List Fd} (h : NearAt S pn fs nk adj) {f g : Fd} {a : Addr} (ha : (f, a) ∈ nk) (hnd : fs.Nodup) :
    NearAt (put S a (.lst ((adj f ++ [g]).map eF))) pn fs nk (fun x => if x = f then adj f ++ [g] else adj x) := by
  obtain ⟨n, hn⟩ := h.at_
  refine ⟨⟨n, get_put hn (ne_get hn (h.each _ ha) (by simp))⟩, h.keys, h.nd, fun p hp => ?_⟩
  by_cases hpa : p.2 = a
  · have hpf : p = (f, a) := by
      have hN := h.nd
      clear h hn
      induction nk with
      | nil => simp at hp
      | cons q nk ih =>
        rw [List.map_cons, List.nodup_cons] at hN
        rcases List.mem_cons.mp hp with rfl | hp
        · rcases List.mem_cons.mp ha with z | ha
          · exact z.symm
          · exact (hN.1 (by rw [hpa]; exact List.mem_map.mpr ⟨_, ha, rfl⟩)).elim
        · rcases List.mem_cons.mp ha with z | ha
          · exact (hN.1 (by rw [← z, ← hpa]; exact List.mem_map.mpr ⟨_, hp, rfl⟩)).elim
          · exact ih ha hp hN.2
    subst hpf
    simp [put_same]
  · rw [put_ne hpa, h.each p hp]
    have : p.1 ≠ f := fun z => by
      have hk := h.keys
      rw [← hk] at hnd
      have hN := hnd
      clear hnd hk h hn
      induction nk with
      | nil => simp at hp
      | cons q nk ih =>
        rw [List.map_cons, List.nodup_cons] at hN
        rcases List.mem_cons.mp hp with rfl | hp
        · rcases List.mem_cons.mp ha with z' | ha
          · rw [← z'] at hpa; exact hpa rfl
          · exact hN.1 (by rw [z]; exact List.mem_map.mpr ⟨_, ha, rfl⟩)
        · rcases List.mem_cons.mp ha with z' | ha
          · exact hN.1 (by rw [← z', ← z]; exact List.mem_map.mpr ⟨_, hp, rfl⟩)
          · exact ih ha hp hN.2
    simp [this]
theorem adj_snoc {done : List Bd} {b : Bd} {f g : Fd} : Adj (done ++ [b]) f g ↔ Adj done f g ∨ (fst' b = f ∧ oth b = g) ∨ (fst' b = g ∧ oth b = f) := by
  unfold Adj
  constructor
  · rintro ⟨c, hc, h⟩
    rcases List.mem_append.mp hc with hc | hc
    · exact .inl ⟨c, hc, h⟩
    · rw [List.mem_singleton] at hc; subst hc; exact .inr h
  · rintro (⟨c, hc, h⟩ | h)
    · exact ⟨c, List.mem_append_left _ hc, h⟩
    · exact ⟨b, by simp, h⟩
theorem loop2_parts_of {W : DWX} {S0 : Store} {fs : List Fd} {hs : List Bd} {ph pn : Addr} {nk : List (Fd × Addr)} (hnd : fs.Nodup) (hl : hs.length ≤ 1000) (hin : InF fs hs) (hph0 : S0 ph = some (.lst (hs.map eB))) {S : Store} (he : Ext S0 S) (hN : NearAt S pn fs nk (fun _ => [])) (hpn : S0 pn = none) (hk : ∀ q ∈ nk, S0 q.2 = none) (E : DEnds)
    (hE : ∀ a b c adj S', Ext S0 S' → NearAt S' pn fs nk adj → (∀ g h, h ∈ adj g ↔ Adj hs g h) → E.nx [some (.tup (fs.map eF)), some (.loc ph), some (.loc pn), a, b, c, none, none, none] S') :
    l_parts_of_2 W E [some (.tup (fs.map eF)), some (.loc ph), some (.loc pn), none, none, none, none, none, none] S := by
  unfold l_parts_of_2
  refine dFor_inv (ds := hs.map eB) (G := fun S => S ph = some (.lst (hs.map eB))) (S1 := S) (fun R h => ?_)
    (fun rest σ S' => ∃ done gs a b c adj, rest = gs.map eB ∧ hs = done ++ gs ∧ σ = [some (.tup (fs.map eF)), some (.loc ph), some (.loc pn), a, b, c, none, none, none] ∧ Ext S0 S' ∧ NearAt S' pn fs nk adj ∧ (∀ g h, h ∈ adj g ↔ Adj done g h) ∧ ∀ g, (adj g).length ≤ 2 * done.length)
    ⟨[], hs, none, none, none, fun _ => [], rfl, rfl, rfl, he, hN, fun g h => by simp [Adj], by simp⟩ ?_ ?_
  · simp [he _ _ hph0]
    exact h
  · rintro σ S' ⟨done, gs, a, b, c, adj, e1, e2, rfl, e3, e4, e5, e6⟩
    have : gs = [] := by cases gs with | nil => rfl | cons _ _ => simp at e1
    subst this
    rw [List.append_nil] at e2
    subst e2
    exact ⟨e3 _ _ hph0, hE a b c adj S' e3 e4 e5⟩
  · rintro x rest σ S' ⟨done, gs, a, b, c, adj, e1, e2, rfl, e3, e4, e5, e6⟩
    refine ⟨e3 _ _ hph0, fun N hN => ?_⟩
    cases gs with
    | nil => simp at e1
    | cons bd gs =>
      simp only [List.map_cons, List.cons.injEq] at e1
      obtain ⟨rfl, rfl⟩ := e1
      have hbd := hin bd (by rw [e2]; simp)
      have hdl : done.length ≤ 1000 := by have := congrArg List.length e2; simp at this; omega
      simp
      refine ⟨_, ⟨bd, rfl, rfl⟩, fun S2 e => ?_⟩
      have e4 := e4.ext e
      obtain ⟨nn, hnn⟩ := e4.at_
      obtain ⟨a1, ha1, hg1⟩ := e4.find hbd.1
      obtain ⟨a2, ha2, hg2⟩ := e4.find hbd.2
      have hL1 := e4.each _ ha1
      have h6a := e6 (fst' bd)
      have h6b := e6 (oth bd)
      simp [hnn, hg1, tyD, hL1]
      refine ⟨by omega, ?_⟩
      have e5' := near_app (g := oth bd) e4 ha1 hnd
      rw [List.map_append] at e5'
      simp only [List.map_cons, List.map_nil] at e5'
      obtain ⟨n3, hn3⟩ := e5'.at_
      have hL2 := e5'.each _ ha2
      simp only at hL2
      simp [hn3, hg2, tyD, hL2]
      have e7 := near_app (g := fst' bd) e5' ha2 hnd
      rw [List.map_append] at e7
      simp only [List.map_cons, List.map_nil] at e7
      refine ⟨?_, hN _ _ ⟨done ++ [bd], gs, some (eB bd), some (eF (fst' bd)), some (eF (oth bd)), _, rfl, by rw [e2]; simp, rfl, ((e3.trans e).putN (hk _ ha1)).putN (hk _ ha2), e7, fun g h => ?_, fun g => ?_⟩⟩
      · split <;> first | omega | (simp; omega)
      · rw [adj_snoc, ← e5 g h]
        by_cases h1 : g = oth bd
        · subst h1
          by_cases h2 : oth bd = fst' bd
          · simp [h2, or_assoc, eq_comm]
          · have h2' : ¬ fst' bd = oth bd := fun z => h2 z.symm
            simp [h2, h2', eq_comm]
        · by_cases h2 : g = fst' bd
          · subst h2
            have h1' : ¬ oth bd = fst' bd := fun z => h1 z.symm
            simp [h1, h1', eq_comm]
          · have h1' : ¬ oth bd = g := fun z => h1 z.symm
            have h2' : ¬ fst' bd = g := fun z => h2 z.symm
            simp [h1, h2, h1', h2']
      · have h6 := e6 g
        simp only [List.length_append, List.length_cons, List.length_nil]
        split
        · split
          · simp; omega
          · simp; omega
        · split
          · simp; omega
          · omega
end DL

namespace DL
open PySem PySem.Spec PyProof.Rows L2

theorem NearAt.extX {S S' : Store} {pn ps : Addr} {fs : List Fd} {nk : List (Fd × Addr)} {adj : Fd → List Fd} (h : NearAt S pn fs nk adj) (e : ExtX ps S S') (h1 : pn ≠ ps) (h2 : ∀ p ∈ nk, p.2 ≠ ps) : NearAt S' pn fs nk adj :=
  ⟨let ⟨n, q⟩ := h.at_; ⟨n, e _ _ h1 q⟩, h.keys, h.nd, fun p hp => e _ _ (h2 p hp) (h.each p hp)⟩
theorem loop1_parts_of {W : DWX} {S0 : Store} {fs : List Fd} {hs : List Bd} {ph pn ps pf : Addr} {nk : List (Fd × Addr)} {adj : Fd → List Fd} (hris : Ris eF fs) (hl : fs.length ≤ 1000) (hin : InF fs hs) (hadj : ∀ g h, h ∈ adj g ↔ Adj hs g h) {S : Store} (he : Ext S0 S) (hN : NearAt S pn fs nk adj) (hnp : pn ≠ ps) (hps : S0 ps = none) (hpf : S0 pf = none) (hpfnk : ∀ p ∈ nk, p.2 ≠ pf) {n : Nat} (h1 : S ps = some (.dic n [])) (h2 : S pf = some (.lst [])) (a b c : Option D) (E : DEnds)
    (hE : ∀ o S', Ext S0 S' → S' pf = some (.lst ((parts fs hs).map eL)) → E.nx [some (.tup (fs.map eF)), some (.loc ph), some (.loc pn), a, b, c, some (.loc ps), some (.loc pf), o] S') :
    l_parts_of_1 W E [some (.tup (fs.map eF)), some (.loc ph), some (.loc pn), a, b, c, some (.loc ps), some (.loc pf), none] S := by
  have hAin : ∀ g h, Adj hs g h → h ∈ fs := fun g h ⟨b, hb, k⟩ => by
    rcases k with ⟨_, rfl⟩ | ⟨rfl, _⟩
    · exact (hin b hb).2
    · exact (hin b hb).1
  unfold l_parts_of_1
  refine dFor_inv (ds := fs.map eF) (G := fun _ => True) (S1 := S) (fun R h => h)
    (fun rest σ S' => ∃ (done gs : List Fd) (o : Option D) (n : Nat) (sn : List Fd) (acc : List (List Fd)), rest = gs.map eF ∧ fs = done ++ gs ∧ σ = [some (.tup (fs.map eF)), some (.loc ph), some (.loc pn), a, b, c, some (.loc ps), some (.loc pf), o] ∧ Ext S0 S' ∧ NearAt S' pn fs nk adj ∧ S' ps = some (.dic n (dT (sn.map eF))) ∧ S' pf = some (.lst (acc.map eL)) ∧
      (∀ g, g ∈ sn ↔ ∃ l ∈ acc, g ∈ l) ∧ sn.Nodup ∧ (∀ g ∈ sn, g ∈ fs) ∧ (∀ g ∈ sn, ∀ h, Adj hs g h → h ∈ sn) ∧ partsG fs hs gs acc = parts fs hs ∧ acc.length ≤ done.length)
    ⟨[], fs, none, n, [], [], rfl, rfl, rfl, he, hN, h1, h2, by simp, by simp, by simp, by simp, rfl, by simp⟩ ?_ ?_
  · rintro σ S' ⟨done, gs, o, n, sn, acc, e1, e2, rfl, e3, e4, e5, e6, e7, e8, e9, e10, e11, e12⟩
    have : gs = [] := by cases gs with | nil => rfl | cons _ _ => simp at e1
    subst this
    have : acc = parts fs hs := e11
    rw [this] at e6
    exact ⟨trivial, hE o S' e3 e6⟩
  · rintro x rest σ S' ⟨done, gs, o, n, sn, acc, e1, e2, rfl, e3, e4, e5, e6, e7, e8, e9, e10, e11, e12⟩
    refine ⟨trivial, fun N hN => ?_⟩
    cases gs with
    | nil => simp at e1
    | cons f gs =>
      simp only [List.map_cons, List.cons.injEq] at e1
      obtain ⟨rfl, rfl⟩ := e1
      have hff : f ∈ fs := by rw [e2]; simp
      have hdl : done.length ≤ 1000 := by have := congrArg List.length e2; simp at this; omega
      have hpsf : pf ≠ ps := ne_get e6 e5 (by simp)
      have hnk : ∀ p ∈ nk, p.2 ≠ ps := fun p hp => ne_get (e4.each p hp) e5 (by simp)
      have hsl : sn.length ≤ fs.length := len_le_of_nodup e8 e9
      simp [e5, dget_dT, mem_eF]
      by_cases hf : f ∈ sn
      · simp [hf]
        refine hN _ _ ⟨done ++ [f], gs, some (eF f), n, sn, acc, rfl, by rw [e2]; simp, rfl, e3, e4, e5, e6, e7, e8, e9, e10, ?_, by simp; omega⟩
        rw [← e11, partsG_pos ((e7 f).mp hf)]
      · simp [hf, dT_len]
        refine ⟨by omega, fun n' => ?_⟩
        rw [dput_dT, addK_eF sn f hf]
        have g2 : put S' ps (.dic n' (dT ((sn ++ [f]).map eF))) pf = some (.lst (acc.map eL)) := get_put e6 hpsf
        refine ⟨by simp only [tyD, g2]; rfl, ?_⟩
        refine ⟨fs, hs, f, pn, ps, n', nk, adj, sn, sn ++ [f], rfl, e4.put hnp.symm hnk, put_same, hris, hl, hff, hadj, hAin, fun g => by simp, hf, e10, ?_, ?_, fun S2 sn2 n2 x2 q1 q2 q3 q4 => ?_⟩
        · rw [List.nodup_append]
          refine ⟨e8, by simp, fun a ha b hb => ?_⟩
          rw [List.mem_singleton] at hb
          subst hb
          exact fun z => hf (z ▸ ha)
        · intro g hg
          rcases List.mem_append.mp hg with k | k
          · exact e9 g k
          · rw [List.mem_singleton] at k; subst k; exact hff
        · have g3 : S2 pf = some (.lst (acc.map eL)) := x2 _ _ hpsf g2
          simp [g3]
          refine ⟨by omega, hN _ _ ⟨done ++ [f], gs, some (eF f), n2, sn2, acc ++ [lotOf fs hs f], rfl, by rw [e2]; simp, rfl, ?_, ?_, get_put q1 hpsf.symm, by rw [put_same]; simp, fun g => ?_, q3, q4, ?_, ?_, by simp; omega⟩⟩
          · intro d u hd
            have hdp : d ≠ ps := fun z => by rw [z, hps] at hd; cases hd
            have hdf : d ≠ pf := fun z => by rw [z, hpf] at hd; cases hd
            rw [put_ne hdf]
            exact x2 d u hdp (by rw [put_ne hdp]; exact e3 d u hd)
          · have n1 := (e4.put (o := .dic n' (dT ((sn ++ [f]).map eF))) hnp.symm hnk).extX x2 hnp hnk
            obtain ⟨k, hk⟩ := n1.at_
            exact n1.put (ne_get g3 hk (by simp)) hpfnk
          · rw [q2 g, e7 g]
            constructor
            · rintro (⟨l, hl, hg⟩ | k)
              · exact ⟨l, List.mem_append_left _ hl, hg⟩
              · exact ⟨_, by simp, k⟩
            · rintro ⟨l, hl, hg⟩
              rcases List.mem_append.mp hl with hl | hl
              · exact .inl ⟨l, hl, hg⟩
              · rw [List.mem_singleton] at hl; subst hl; exact .inr hg
          · intro g hg h k
            rw [q2] at hg ⊢
            rcases hg with hg | hg
            · exact .inl (e10 g hg h k)
            · rw [mem_lotOf] at hg ⊢
              exact .inr ⟨hAin g h k, .step hg.2 k⟩
          · rw [← e11, partsG_neg (fun z => hf ((e7 f).mpr z))]
theorem rd_parts_of : Rd n_parts_of t_parts_of sp_parts_of := fun {args S Q Ed} h => by
  obtain ⟨ds, ⟨fs, hs, ph, rfl, hph, hris, hl, hl2, hin, rfl⟩, hQ⟩ := h
  have hnd := hris.nodup
  simp only [t_parts_of, n_parts_of, dSeq, dAsg]
  refine near_made (S0 := S) (ph := ph) fs fs [] S (by simpa using hnd) (by simp) hl (Ext.refl S) (by simp) (by simp) fun S1 pn nk e1 hpn hN hk => ?_
  simp only [gN]
  refine loop2_parts_of hnd hl2 hin hph e1 hN hpn hk _ fun a b c adj S2 e2 hN2 hadj => ?_
  simp
  intro ps n hps pf hpf
  have f1 : Ext S2 (put S2 ps (.dic n [])) := Ext.new hps
  have f2 : Ext (put S2 ps (.dic n [])) (put (put S2 ps (.dic n [])) pf (.lst [])) := Ext.new hpf
  have hpnps : pn ≠ ps := fun z => by obtain ⟨k, hk⟩ := hN2.at_; rw [z, hps] at hk; cases hk
  refine loop1_parts_of (S0 := S) hris hl hin hadj ((e2.trans f1).trans f2) ((hN2.ext f1).ext f2) hpnps (e2.free hps) (e2.free (f1.free hpf)) (fun p hp z => by have := hN2.each p hp; rw [z, f1.free hpf] at this; cases this) (n := n) (f2 _ _ put_same) put_same a b c _ fun o S3 e3 q3 => ?_
  simp
  exact hQ S3 pf e3 (e2.free (f1.free hpf)) q3
end DL

namespace DL
open PySem PySem.Spec PyProof.Rows L2

theorem dVar_set {i : Nat} {σ : DSt} {x : D} {S : Store} {Q : DQ} (h : i < σ.length) : dVar i (σ.set i (some x)) S Q = Q x S := by
  unfold dVar
  rw [List.getElem?_set_self h]
theorem dwipe_len (σ : DSt) : ∀ vs, (dwipe σ vs).length = σ.length
  | [] => rfl
  | v :: vs => by show ((dwipe σ vs).set v none).length = _; rw [List.length_set, dwipe_len σ vs]
theorem filterMap_map_filter {α : Type} {e : α → D} {f : D → Option D} {p : α → Bool} : ∀ l : List α, (∀ a ∈ l, f (e a) = if p a then some (e a) else none) → (l.map e).filterMap f = (l.filter p).map e
  | [], _ => rfl
  | a :: l, h => by
    have ih := filterMap_map_filter l fun b hb => h b (List.mem_cons_of_mem _ hb)
    have ha := h a List.mem_cons_self
    rw [List.map_cons, List.filter_cons]
    cases hp : p a with
    | true =>
      rw [hp] at ha
      rw [List.filterMap_cons_some ha, ih]; rfl
    | false =>
      rw [hp] at ha
      rw [List.filterMap_cons_none ha, ih]; rfl
open Classical in
noncomputable def fOf {α : Type} (e : α → D) (p : α → Bool) : D → Option D := fun d => if ∃ a, e a = d ∧ p a = true then some d else none
theorem fOf_at {α : Type} {e : α → D} {p : α → Bool} (inj : ∀ a b, e a = e b → a = b) (a : α) : fOf e p (e a) = if p a then some (e a) else none := by
  unfold fOf
  cases hp : p a with
  | true => rw [if_pos ⟨a, rfl, hp⟩]; rfl
  | false =>
    rw [if_neg]
    · rfl
    · rintro ⟨b, h1, h2⟩
      rw [inj b a h1, hp] at h2; cases h2
/-- [x for x in l if p] -/
theorem dLc_filter {α : Type} {e : α → D} (inj : ∀ a b, e a = e b → a = b) {ti : DTI} {i : Nat} {tt : DTT} {σ : DSt} {S S1 : Store} {Q : DQ} {G : Store → Prop} {l : List α} (p : α → Bool)
    (hi : ∀ R : List D → (Store → Prop) → Store → Prop, R (l.map e) G S1 → ti σ S R) (hG : ∀ S', Ext S1 S' → G S') (hlen : i < σ.length)
    (hs : ∀ a ∈ l, ∀ S', Ext S1 S' → ∀ K : Bool → Store → Prop, (∀ S'', Ext S' S'' → K (p a) S'') → tt ((σ.set i none).set i (some (e a))) S' K)
    (hQ : ∀ S' q, Ext S1 S' → S' q = none → Q (.loc q) (put S' q (.lst ((l.filter p).map e)))) : dLc ti (gN i) tt (dVar i) [i] σ S Q := by
  refine dLc_pure (fOf e p) hi hG (fun x hx S' he K hK => ?_) (fun S' q he hq => ?_)
  · obtain ⟨a, ha, rfl⟩ := List.mem_map.mp hx
    show tt ((σ.set i none).set i (some (e a))) S' _
    refine hs a ha S' he _ fun S'' he' => ?_
    have := hK S'' he'
    rw [fOf_at inj] at this
    cases hp : p a with
    | true =>
      rw [hp] at this
      rw [if_pos rfl, dVar_set (by simpa using hlen)]
      exact this
    | false =>
      rw [hp] at this
      exact this
  · have := hQ S' q he hq
    rwa [← filterMap_map_filter (f := fOf e p) l fun a _ => fOf_at inj a] at this
/-- {x: True for x in l if p} -/
theorem dDc_filter {α : Type} {e : α → D} (inj : ∀ a b, e a = e b → a = b) {ti : DTI} {i : Nat} {tt : DTT} {σ : DSt} {S S1 : Store} {Q : DQ} {G : Store → Prop} {l : List α} (p : α → Bool) (hk : ∀ a, isKeyB (e a) = true) (hn : l.Nodup) (hl : l.length ≤ 9000)
    (hi : ∀ R : List D → (Store → Prop) → Store → Prop, R (l.map e) G S1 → ti σ S R) (hG : ∀ S', Ext S1 S' → G S') (hlen : i < σ.length)
    (hs : ∀ a ∈ l, ∀ S', Ext S1 S' → ∀ K : Bool → Store → Prop, (∀ S'', Ext S' S'' → K (p a) S'') → tt ((σ.set i none).set i (some (e a))) S' K)
    (hQ : ∀ S' q n, Ext S1 S' → S' q = none → Q (.loc q) (put S' q (.dic n (dT ((l.filter p).map e))))) : dDc ti (dcR1 (gN i) tt (dVar i) (dC (.bl true)) [i]) σ S Q := by
  refine dDc_pure (fOf e p) hi hG (by simpa using hl) (fun x hx k hk' => ?_) (fun x hx S' he K hK => ?_) (fun S' q n he hq => ?_)
  · obtain ⟨a, ha, rfl⟩ := List.mem_map.mp hx
    rw [fOf_at inj] at hk'
    cases hp : p a with
    | true => rw [hp] at hk'; cases hk'; exact hk a
    | false => rw [hp] at hk'; cases hk'
  · obtain ⟨a, ha, rfl⟩ := List.mem_map.mp hx
    show tt ((σ.set i none).set i (some (e a))) S' _
    refine hs a ha S' he _ fun S'' he' => ?_
    have := hK S'' he'
    rw [fOf_at inj] at this
    cases hp : p a with
    | true =>
      rw [hp] at this
      rw [if_pos rfl, dVar_set (by simpa using hlen)]
      exact this
    | false =>
      rw [hp] at this
      exact this
  · have := hQ S' q n he hq
    rw [filterMap_map_filter (f := fOf e p) l fun a _ => fOf_at inj a, foldK_id, List.nil_append]
    · exact this
    · rw [List.nil_append]
      exact List.Pairwise.map _ (fun a b h z => h (inj a b z)) (hn.filter p)
theorem eL_inj {a b : List Fd} (h : eL a = eL b) : a = b := by
  unfold eL at h
  injection h with h
  exact map_inj' (fun _ _ => eF_inj) h

/-! ### sheets -/
def inF (f : Fd) : Prop := 0 ≤ f.1 ∧ f.1 ≤ 7 ∧ 0 ≤ f.2 ∧ f.2 ≤ 7
structure Valid (fs : List Fd) (ps : List Bd) : Prop where
  pos : 1 ≤ fs.length
  few : fs.length ≤ 16
  fin : ∀ f ∈ fs, inF f
  fris : Ris eF fs
  pris : Ris eB ps
  sub : ∀ b ∈ ps, b ∈ bordersOf fs
  one : (parts fs (bordersOf fs)).length = 1
theorem mem_bordersOf {fs : List Fd} {b : Bd} : b ∈ bordersOf fs ↔ fst' b ∈ fs ∧ oth b ∈ fs := by
  unfold bordersOf
  rw [mem_srt, List.mem_append]
  unfold rawB
  simp only [List.mem_map, List.mem_filter, decide_eq_true_eq]
  obtain ⟨r, f⟩ := b
  constructor
  · rintro (⟨g, ⟨h1, h2⟩, h3⟩ | ⟨g, ⟨h1, h2⟩, h3⟩) <;> (injection h3 with h3 h4; subst h3; subst h4; exact ⟨h1, h2⟩)
  · rintro ⟨h1, h2⟩
    cases r with
    | false => exact .inl ⟨f, ⟨h1, h2⟩, rfl⟩
    | true => exact .inr ⟨f, ⟨h1, h2⟩, rfl⟩
theorem bordersOf_ris {fs : List Fd} (h : fs.Nodup) : Ris eB (bordersOf fs) := by
  refine ris_srt oinj_B ?_
  rw [List.nodup_append]
  unfold rawB
  refine ⟨List.Pairwise.map _ (fun a b h z => h (by injection z)) (h.filter _), List.Pairwise.map _ (fun a b h z => h (by injection z)) (h.filter _), fun a ha b hb z => ?_⟩
  obtain ⟨x, _, rfl⟩ := List.mem_map.mp ha
  obtain ⟨y, _, rfl⟩ := List.mem_map.mp hb
  injection z with z _
  cases z
theorem bordersOf_len (fs : List Fd) : (bordersOf fs).length ≤ 2 * fs.length := by
  unfold bordersOf
  rw [srt_len, List.length_append]
  unfold rawB
  rw [List.length_map, List.length_map]
  have h1 := List.length_filter_le (fun f => decide (oth (false, f) ∈ fs)) fs
  have h2 := List.length_filter_le (fun f => decide (oth (true, f) ∈ fs)) fs
  omega
theorem inF_bordersOf (fs : List Fd) : InF fs (bordersOf fs) := fun b hb => mem_bordersOf.mp hb
theorem isFd_eF {f : Fd} (h : inF f) : isFd (eF f) = true := by
  obtain ⟨h1, h2, h3, h4⟩ := h
  simp [isFd, eF, isW, h1, h2, h3, h4]
theorem isBd_eB {b : Bd} (h : inF b.2) : isBd (eB b) = true := by
  obtain ⟨r, x, y⟩ := b
  obtain ⟨h1, h2, h3, h4⟩ := h
  simp only at h1 h2 h3 h4
  cases r <;> simp [isBd, eB, isW, wd, h1, h2, h3, h4]
theorem okT_F (S : Store) (f : Fd) : okT S (eF f) := ⟨rfl, fun ds h x hx => by
  unfold eF at h
  injection h with h
  subst h
  simp at hx
  rcases hx with rfl | rfl <;> rfl⟩
theorem okB_B (S : Store) (b : Bd) : okB S (eB b) := ⟨⟨rfl, fun ds h x hx => by
  unfold eB at h
  injection h with h
  subst h
  simp at hx
  rcases hx with rfl | rfl | rfl <;> rfl⟩, fun w r h => by
  unfold eB at h
  injection h with h
  injection h with h
  injection h with h
  rw [← h]
  exact strOk_wd _⟩
def sp_is_sheet : DSp := spV fun args _ v => ∃ fs ps, args = [eS fs ps] ∧ Valid fs ps ∧ v = .bl true
def n_is_sheet : List Str := ["thing", "inner", "one"]
def t_is_sheet (W : DWX) : DTS := (dSeq (dIfS (dOr (dNot (dTr (dCB rIsiD (dCons (dVar 0) (dCons (dC (.ty "tuple")) dNil))))) (dOr (dB (dOp rNeD (dCB rLenD (dCons (dVar 0) dNil)) (dC (.int 2)))) (dNot (dTr (dCB rIsiD (dCons (dOp rIxD (dVar 0) (dC (.int 0))) (dCons (dC (.ty "tuple")) dNil))))))) (dRet (dC (.bl false))) dNext)
  (dSeq (dIfS (dOr (dNot (dB (dChain (rI2 fun i j => .bl (decide (i ≤ j))) (rI2 fun i j => .bl (decide (i ≤ j))) (dC (.int 1)) (dCB rLenD (dCons (dOp rIxD (dVar 0) (dC (.int 0))) dNil)) (dC (.int 16))))) (dOr (dTr (dLc (dIter (dOp rIxD (dVar 0) (dC (.int 0)))) (gN 2) (dNot (dTr (dCall sp_is_field W0 (dCons (dVar 2) dNil)))) (dVar 2) [2])) (dNot (dTr (dCall sp_rises W (dCons (dOp rIxD (dVar 0) (dC (.int 0))) dNil)))))) (dRet (dC (.bl false))) dNext)
  (dSeq (dIfS (dOr (dNot (dTr (dCB rIsiD (dCons (dOp rIxD (dVar 0) (dC (.int 1))) (dCons (dC (.ty "tuple")) dNil))))) (dOr (dTr (dLc (dIter (dOp rIxD (dVar 0) (dC (.int 1)))) (gN 2) (dNot (dTr (dCall sp_is_border W0 (dCons (dVar 2) dNil)))) (dVar 2) [2])) (dNot (dTr (dCall sp_rises W (dCons (dOp rIxD (dVar 0) (dC (.int 1))) dNil)))))) (dRet (dC (.bl false))) dNext)
  (dSeq (dAsg (dCall sp_borders_of W (dCons (dOp rIxD (dVar 0) (dC (.int 0))) dNil)) (gN 1))
  (dRet (dAndV (dNotV (dLc (dIter (dOp rIxD (dVar 0) (dC (.int 1)))) (gN 2) (dB (dOp rNinD (dVar 2) (dVar 1))) (dVar 2) [2])) (dOp rEqD (dCB rLenD (dCons (dCall sp_parts_of W (dCons (dOp rIxD (dVar 0) (dC (.int 0))) (dCons (dVar 1) dNil))) dNil)) (dC (.int 1)))))))))
theorem len_is_sheet : Ln 1 sp_is_sheet := fun _ _ _ _ ⟨_, ⟨_, _, h, _⟩, _⟩ => by rw [h]; rfl
theorem at0 (a b : D) : atI [a, b] 0 = some a := atI_nn (by decide)
theorem at1 (a b : D) : atI [a, b] 1 = some b := atI_nn (by decide)
theorem filter_none {α : Type} {p : α → Bool} {l : List α} (h : ∀ a ∈ l, p a = false) : l.filter p = [] := by
  rw [List.filter_eq_nil_iff]; exact fun a ha => by rw [h a ha]; simp
theorem rd_is_sheet : Rd n_is_sheet t_is_sheet sp_is_sheet := fun {args S Q Ed} h => by
  obtain ⟨v, ⟨fs, ps, rfl, V, rfl⟩, hQ⟩ := h
  have hpos := V.pos
  have hfew := V.few
  have hps : ps.length ≤ 2 * fs.length := Nat.le_trans (len_le_of_nodup V.pris.nodup V.sub) (bordersOf_len fs)
  simp [t_is_sheet, n_is_sheet, eS, at0, at1]
  have c1 : (1 : Int) ≤ fs.length := by omega
  have c2 : ¬ (16 : Int) < fs.length := by omega
  simp [c1, c2]
  refine dLc_filter (fun _ _ => eF_inj) (l := fs) (S1 := S) (G := fun _ => True) (fun _ => false) (fun R h => by simp [at0]; exact h) (fun _ _ => trivial) (by simp) (fun f hf S' e K hK => ?_) (fun S1 q1 e1 hq1 => ?_)
  · simp
    exact ⟨_, ⟨_, rfl, okT_F _ _, rfl⟩, fun S'' e' => by rw [isFd_eF (V.fin f hf)]; exact hK S'' e'⟩
  rw [filter_none (by simp)]
  simp [put_same]
  refine ⟨_, ⟨fs.map eF, rfl, by simp; omega, ords_F fs, rfl⟩, fun S2 e2 => ?_⟩
  rw [risD_iff.mpr V.fris]
  simp
  refine dLc_filter (fun _ _ => eB_inj) (l := ps) (S1 := S2) (G := fun _ => True) (fun _ => false) (fun R h => by simp [at1]; exact h) (fun _ _ => trivial) (by simp) (fun b hb S' e K hK => ?_) (fun S3 q3 e3 hq3 => ?_)
  · simp
    exact ⟨_, ⟨_, rfl, okB_B _ _, rfl⟩, fun S'' e' => by rw [isBd_eB (V.fin _ (mem_bordersOf.mp (V.sub b hb)).1)]; exact hK S'' e'⟩
  rw [filter_none (by simp)]
  simp [put_same]
  refine ⟨_, ⟨ps.map eB, rfl, by simp; omega, ords_B ps, rfl⟩, fun S4 e4 => ?_⟩
  rw [risD_iff.mpr V.pris]
  simp
  refine ⟨_, ⟨fs, rfl, by omega, rfl⟩, fun S5 pi e5 hpi hin => ?_⟩
  refine dLc_filter (fun _ _ => eB_inj) (l := ps) (S1 := S5) (G := fun _ => True) (fun _ => false) (fun R h => by simp [at1]; exact h) (fun _ _ => trivial) (by simp) (fun b hb S' e K hK => ?_) (fun S6 q6 e6 hq6 => ?_)
  · have := e _ _ hin
    simp [this, pl_B, pl_Bs 7, mem_eB, V.sub b hb]
    exact hK S' (Ext.refl _)
  rw [filter_none (by simp)]
  simp [put_same]
  refine ⟨_, ⟨fs, bordersOf fs, pi, rfl, Ext.new hq6 _ _ (e6 _ _ hin), V.fris, by omega, ?_, inF_bordersOf fs, rfl⟩, fun S7 p7 e7 h7 h7' => ?_⟩
  · have := bordersOf_len fs; omega
  simp [h7', V.one]
  exact hQ _ (((((((e1.trans (Ext.new hq1)).trans e2).trans e3).trans (Ext.new hq3)).trans e4).trans e5).trans (e6.trans ((Ext.new hq6).trans e7)))
def sp_look : DSp := spV fun args _ v => ∃ fs ps, args = [eS fs ps] ∧ Valid fs ps ∧ v = .non
def n_look : List Str := ["sheet"]
def t_look (W : DWX) : DTS := (dIfS (dNot (dTr (dCall sp_is_sheet W (dCons (dVar 0) dNil)))) (dRaise "BadSheet" W) dNext)
theorem len_look : Ln 1 sp_look := fun _ _ _ _ ⟨_, ⟨_, _, h, _⟩, _⟩ => by rw [h]; rfl
theorem rd_look : Rd n_look t_look sp_look := fun {args S Q Ed} h => by
  obtain ⟨v, ⟨fs, ps, rfl, V, rfl⟩, hQ⟩ := h
  simp [t_look, n_look]
  exact ⟨_, ⟨fs, ps, rfl, V, rfl⟩, fun S' e => by simp; exact hQ S' e⟩
end DL

namespace DL
open PySem PySem.Spec PyProof.Rows L2

theorem dLc_flt {α : Type} {e : α → D} (inj : ∀ a b, e a = e b → a = b) {ti : DTI} {i : Nat} {tt : DTT} {σ : DSt} {S : Store} {Q : DQ} {l : List α} (p : α → Bool)
    (hi : ∀ R : List D → (Store → Prop) → Store → Prop, (∀ S1 G, Ext S S1 → (∀ S', Ext S1 S' → G S') → R (l.map e) G S1) → ti σ S R) (hlen : i < σ.length)
    (hs : ∀ a ∈ l, ∀ S', Ext S S' → ∀ K : Bool → Store → Prop, (∀ S'', Ext S' S'' → K (p a) S'') → tt ((σ.set i none).set i (some (e a))) S' K)
    (hQ : ∀ S' q, Ext S S' → S' q = none → Q (.loc q) (put S' q (.lst ((l.filter p).map e)))) : dLc ti (gN i) tt (dVar i) [i] σ S Q :=
  hi _ fun S1 G e1 hG => dLc_filter inj (ti := fun _ _ R => R (l.map e) G S1) (S := S1) (S1 := S1) (G := G) p (fun R h => h) hG hlen (fun a ha S' e' K hK => hs a ha S' (e1.trans e') K hK) (fun S' q e' hq => hQ S' q (e1.trans e') hq)
theorem dDc_flt {α : Type} {e : α → D} (inj : ∀ a b, e a = e b → a = b) {ti : DTI} {i : Nat} {tt : DTT} {σ : DSt} {S : Store} {Q : DQ} {l : List α} (p : α → Bool) (hk : ∀ a, isKeyB (e a) = true) (hn : l.Nodup) (hl : l.length ≤ 9000)
    (hi : ∀ R : List D → (Store → Prop) → Store → Prop, (∀ S1 G, Ext S S1 → (∀ S', Ext S1 S' → G S') → R (l.map e) G S1) → ti σ S R) (hlen : i < σ.length)
    (hs : ∀ a ∈ l, ∀ S', Ext S S' → ∀ K : Bool → Store → Prop, (∀ S'', Ext S' S'' → K (p a) S'') → tt ((σ.set i none).set i (some (e a))) S' K)
    (hQ : ∀ S' q n, Ext S S' → S' q = none → Q (.loc q) (put S' q (.dic n (dT ((l.filter p).map e))))) : dDc ti (dcR1 (gN i) tt (dVar i) (dC (.bl true)) [i]) σ S Q :=
  hi _ fun S1 G e1 hG => dDc_filter inj (ti := fun _ _ R => R (l.map e) G S1) (S := S1) (S1 := S1) (G := G) p hk hn hl (fun R h => h) hG hlen (fun a ha S' e' K hK => hs a ha S' (e1.trans e') K hK) (fun S' q n e' hq => hQ S' q n (e1.trans e') hq)
/-! ### torn borders -/
structure TornOk (ps tn : List Bd) : Prop where
  ris : Ris eB tn
  sub : ∀ b ∈ tn, b ∈ ps
def sp_is_torn : DSp := spV fun args _ v => ∃ fs ps tn, args = [eS fs ps, eT tn] ∧ Valid fs ps ∧ TornOk ps tn ∧ v = .bl true
def n_is_torn : List Str := ["sheet", "thing", "one"]
def t_is_torn (W : DWX) : DTS := (dSeq (dIfS (dOr (dNot (dTr (dCB rIsiD (dCons (dVar 1) (dCons (dC (.ty "tuple")) dNil))))) (dOr (dTr (dLc (dIter (dVar 1)) (gN 2) (dNot (dTr (dCall sp_is_border W0 (dCons (dVar 2) dNil)))) (dVar 2) [2])) (dNot (dTr (dCall sp_rises W (dCons (dVar 1) dNil)))))) (dRet (dC (.bl false))) dNext)
  (dRet (dNotV (dLc (dIter (dVar 1)) (gN 2) (dB (dOp rNinD (dVar 2) (dOp rIxD (dVar 0) (dC (.int 1))))) (dVar 2) [2]))))
theorem len_is_torn : Ln 2 sp_is_torn := fun _ _ _ _ ⟨_, ⟨_, _, _, h, _⟩, _⟩ => by rw [h]; rfl
theorem Valid.plen {fs : List Fd} {ps : List Bd} (V : Valid fs ps) : ps.length ≤ 32 := by
  have h1 : ps.length ≤ 2 * fs.length := Nat.le_trans (len_le_of_nodup V.pris.nodup V.sub) (bordersOf_len fs)
  have := V.few
  omega
theorem TornOk.len {fs : List Fd} {ps tn : List Bd} (V : Valid fs ps) (h : TornOk ps tn) : tn.length ≤ 32 := Nat.le_trans (len_le_of_nodup h.ris.nodup h.sub) V.plen
theorem rd_is_torn : Rd n_is_torn t_is_torn sp_is_torn := fun {args S Q Ed} h => by
  obtain ⟨v, ⟨fs, ps, tn, rfl, V, T, rfl⟩, hQ⟩ := h
  have hpl := V.plen
  have htl := T.len V
  simp [t_is_torn, n_is_torn, eT]
  refine dLc_filter (fun _ _ => eB_inj) (l := tn) (S1 := S) (G := fun _ => True) (fun _ => false) (fun R h => by simp; exact h) (fun _ _ => trivial) (by simp) (fun b hb S' e K hK => ?_) (fun S3 q3 e3 hq3 => ?_)
  · simp
    exact ⟨_, ⟨_, rfl, okB_B _ _, rfl⟩, fun S'' e' => by rw [isBd_eB (V.fin _ (mem_bordersOf.mp (V.sub b (T.sub b hb))).1)]; exact hK S'' e'⟩
  rw [filter_none (by simp)]
  simp [put_same]
  refine ⟨_, ⟨tn.map eB, rfl, by simp; omega, ords_B tn, rfl⟩, fun S4 e4 => ?_⟩
  rw [risD_iff.mpr T.ris]
  simp
  refine dLc_filter (fun _ _ => eB_inj) (l := tn) (S1 := S4) (G := fun _ => True) (fun _ => false) (fun R h => by simp; exact h) (fun _ _ => trivial) (by simp) (fun b hb S' e K hK => ?_) (fun S6 q6 e6 hq6 => ?_)
  · simp [eS, at1, pl_B, pl_Bs 7, mem_eB, T.sub b hb]
    exact hK S' (Ext.refl _)
  rw [filter_none (by simp)]
  simp [put_same]
  exact hQ _ ((e3.trans (Ext.new hq3)).trans (e4.trans (e6.trans (Ext.new hq6))))
def sp_look_torn : DSp := spV fun args _ v => ∃ fs ps tn, args = [eS fs ps, eT tn] ∧ Valid fs ps ∧ TornOk ps tn ∧ v = .non
def n_look_torn : List Str := ["sheet", "torn"]
def t_look_torn (W : DWX) : DTS := (dSeq (dDrop (dCall sp_look W (dCons (dVar 0) dNil)))
  (dIfS (dNot (dTr (dCall sp_is_torn W (dCons (dVar 0) (dCons (dVar 1) dNil))))) (dRaise "BadTorn" W) dNext))
theorem len_look_torn : Ln 2 sp_look_torn := fun _ _ _ _ ⟨_, ⟨_, _, _, h, _⟩, _⟩ => by rw [h]; rfl
theorem rd_look_torn : Rd n_look_torn t_look_torn sp_look_torn := fun {args S Q Ed} h => by
  obtain ⟨v, ⟨fs, ps, tn, rfl, V, T, rfl⟩, hQ⟩ := h
  simp [t_look_torn, n_look_torn]
  exact ⟨_, ⟨fs, ps, rfl, V, rfl⟩, fun S' e => by
    simp
    exact ⟨_, ⟨fs, ps, tn, rfl, V, T, rfl⟩, fun S'' e' => by simp; exact hQ S'' (e.trans e')⟩⟩

/-! ### hanging_of, pricks_of -/
def hang (fs : List Fd) (tn : List Bd) : List Bd := (bordersOf fs).filter fun b => !decide (b ∈ tn)
theorem mem_hang {fs : List Fd} {tn : List Bd} {b : Bd} : b ∈ hang fs tn ↔ b ∈ bordersOf fs ∧ b ∉ tn := by simp [hang]
theorem hang_ris {fs : List Fd} {tn : List Bd} (h : fs.Nodup) : Ris eB (hang fs tn) := (bordersOf_ris h).filter _
theorem hang_len (fs : List Fd) (tn : List Bd) : (hang fs tn).length ≤ 2 * fs.length := Nat.le_trans (List.length_filter_le _ _) (bordersOf_len fs)
def sp_hanging_of : DSp := spK fun args _ ks => ∃ fs ps tn, args = [eS fs ps, eT tn] ∧ fs.Nodup ∧ fs.length ≤ 1000 ∧ tn.Nodup ∧ tn.length ≤ 1000 ∧ ks = (hang fs tn).map eB
def n_hanging_of : List Str := ["sheet", "torn", "gone", "border"]
def t_hanging_of (W : DWX) : DTS := (dSeq (dAsg (dDc (dIter (dVar 1)) (dcR1 (gN 3) dYes (dVar 3) (dC (.bl true)) [3])) (gN 2))
  (dRet (dDc (dIter (dCall sp_borders_of W (dCons (dOp rIxD (dVar 0) (dC (.int 0))) dNil))) (dcR1 (gN 3) (dB (dOp rNinD (dVar 3) (dVar 2))) (dVar 3) (dC (.bl true)) [3]))))
theorem len_hanging_of : Ln 2 sp_hanging_of := fun _ _ _ _ ⟨_, ⟨_, _, _, h, _⟩, _⟩ => by rw [h]; rfl
theorem filter_all {α : Type} {l : List α} : l.filter (fun _ => true) = l := by rw [List.filter_eq_self]; simp
theorem rd_hanging_of : Rd n_hanging_of t_hanging_of sp_hanging_of := fun {args S Q Ed} h => by
  obtain ⟨v, ⟨fs, ps, tn, rfl, hfn, hfl, htn, htl, rfl⟩, hQ⟩ := h
  simp only [t_hanging_of, n_hanging_of, dSeq, dAsg]
  refine dDc_filter (fun _ _ => eB_inj) (l := tn) (S1 := S) (G := fun _ => True) (fun _ => true) key_B htn (by omega) (fun R h => by simp [eT]; exact h) (fun _ _ => trivial) (by simp) (fun b hb S' e K hK => hK S' (Ext.refl _)) (fun S1 pg ng e1 hpg => ?_)
  rw [filter_all]
  simp only [gN, dRet]
  have e1' := e1.trans (Ext.new (o := .dic ng (dT (tn.map eB))) hpg)
  have g1 : put S1 pg (.dic ng (dT (tn.map eB))) pg = some (.dic ng (dT (tn.map eB))) := put_same
  generalize put S1 pg (.dic ng (dT (tn.map eB))) = S2 at e1' g1
  show dDc _ _ [some (eS fs ps), some (eT tn), some (.loc pg), none] S2 Q
  refine dDc_flt (fun _ _ => eB_inj) (l := bordersOf fs) (fun b => !decide (b ∈ tn)) key_B (bordersOf_ris hfn).nodup (by have := bordersOf_len fs; omega) (fun R hR => ?_) (by simp) (fun b hb S' e K hK => ?_) (fun S4 q n e4 hq => ?_)
  · simp [eS, at0]
    refine ⟨_, ⟨fs, rfl, hfl, rfl⟩, fun S3 pb e3 _ h3 => ?_⟩
    simp [h3]
    exact hR S3 _ e3 fun S' e => e _ _ h3
  · have hg := e _ _ g1
    simp [hg, dget_dT, mem_eB]
    have := hK S' (Ext.refl _)
    by_cases hb : b ∈ tn
    · simp [hb] at this ⊢; exact this
    · simp [hb] at this ⊢; exact this
  · exact hQ _ q n ((e1'.trans e4).trans (Ext.new hq)) ((e1'.trans e4).free hq) put_same
def sp_pricks_of : DSp := spK fun args _ ks => ∃ fs ps, args = [eS fs ps] ∧ ps.Nodup ∧ ps.length ≤ 1000 ∧ ks = ps.map eB
def n_pricks_of : List Str := ["sheet", "border"]
def t_pricks_of (W : DWX) : DTS := (dRet (dDc (dIter (dOp rIxD (dVar 0) (dC (.int 1)))) (dcR1 (gN 1) dYes (dVar 1) (dC (.bl true)) [1])))
theorem len_pricks_of : Ln 1 sp_pricks_of := fun _ _ _ _ ⟨_, ⟨_, _, h, _⟩, _⟩ => by rw [h]; rfl
theorem rd_pricks_of : Rd n_pricks_of t_pricks_of sp_pricks_of := fun {args S Q Ed} h => by
  obtain ⟨v, ⟨fs, ps, rfl, hn, hl, rfl⟩, hQ⟩ := h
  simp only [t_pricks_of, n_pricks_of, dRet]
  refine dDc_filter (fun _ _ => eB_inj) (l := ps) (S1 := S) (G := fun _ => True) (fun _ => true) key_B hn (by omega) (fun R h => by simp [eS, at1]; exact h) (fun _ _ => trivial) (by simp) (fun b hb S' e K hK => hK S' (Ext.refl _)) (fun S1 pg ng e1 hpg => ?_)
  rw [filter_all]
  exact hQ _ pg ng (e1.trans (Ext.new hpg)) (e1.free hpg) put_same

/-! ### corners -/
def arnd (c : Fd) : List Bd := [(false, c.1 - 1, c.2 - 1), (false, c.1, c.2 - 1), (true, c.1 - 1, c.2 - 1), (true, c.1 - 1, c.2)]
def sp_around : DSp := spV fun args _ v => ∃ c, args = [eF c] ∧ v = .tup ((arnd c).map eB)
def n_around : List Str := ["corner", "x", "y"]
def t_around (W : DWX) : DTS := (dSeq (dAsg (dVar 0) (gT 2 (gsCons (gN 1) (gsCons (gN 2) gsNil))))
  (dRet (dTup (dCons (dTup (dCons (dC (.str "down")) (dCons (dOp (rI2 fun i j => .int (i - j)) (dVar 1) (dC (.int 1))) (dCons (dOp (rI2 fun i j => .int (i - j)) (dVar 2) (dC (.int 1))) dNil)))) (dCons (dTup (dCons (dC (.str "down")) (dCons (dVar 1) (dCons (dOp (rI2 fun i j => .int (i - j)) (dVar 2) (dC (.int 1))) dNil)))) (dCons (dTup (dCons (dC (.str "right")) (dCons (dOp (rI2 fun i j => .int (i - j)) (dVar 1) (dC (.int 1))) (dCons (dOp (rI2 fun i j => .int (i - j)) (dVar 2) (dC (.int 1))) dNil)))) (dCons (dTup (dCons (dC (.str "right")) (dCons (dOp (rI2 fun i j => .int (i - j)) (dVar 1) (dC (.int 1))) (dCons (dVar 2) dNil)))) dNil)))))))
theorem len_around : Ln 1 sp_around := fun _ _ _ _ ⟨_, ⟨_, h, _⟩, _⟩ => by rw [h]; rfl
theorem rd_around : Rd n_around t_around sp_around := fun {args S Q Ed} h => by
  obtain ⟨v, ⟨⟨x, y⟩, rfl, rfl⟩, hQ⟩ := h
  have hq := hQ S (Ext.refl S)
  simp [t_around, n_around, eF, arnd, eB, wd] at hq ⊢
  exact hq
def whole (hs : List Bd) (c : Fd) : Bool := (arnd c).all fun b => decide (b ∈ hs)
def sp_is_whole_corner : DSp := spV fun args S v => ∃ ph n hs c, args = [.loc ph, eF c] ∧ S ph = some (.dic n (dT (hs.map eB))) ∧ v = .bl (whole hs c)
def n_is_whole_corner : List Str := ["hanging", "corner", "border"]
def t_is_whole_corner (W : DWX) : DTS := (dRet (dNotV (dLc (dIter (dCall sp_around W (dCons (dVar 1) dNil))) (gN 2) (dB (dOp rNinD (dVar 2) (dVar 0))) (dVar 2) [2])))
theorem len_is_whole_corner : Ln 2 sp_is_whole_corner := fun _ _ _ _ ⟨_, ⟨_, _, _, _, h, _⟩, _⟩ => by rw [h]; rfl
theorem rd_is_whole_corner : Rd n_is_whole_corner t_is_whole_corner sp_is_whole_corner := fun {args S Q Ed} h => by
  obtain ⟨v, ⟨ph, n, hs, c, rfl, hph, rfl⟩, hQ⟩ := h
  simp [t_is_whole_corner, n_is_whole_corner]
  refine dLc_flt (fun _ _ => eB_inj) (l := arnd c) (fun b => !decide (b ∈ hs)) (fun R hR => ?_) (by simp) (fun b hb S' e K hK => ?_) (fun S4 q e4 hq => ?_)
  · simp
    exact ⟨_, ⟨c, rfl, rfl⟩, fun S3 e3 => hR S3 _ e3 fun _ _ => trivial⟩
  · have hg := e _ _ hph
    simp [hg, dget_dT, mem_eB]
    have := hK S' (Ext.refl _)
    by_cases hb : b ∈ hs
    · simp [hb] at this ⊢; exact this
    · simp [hb] at this ⊢; exact this
  · simp [put_same]
    have := hQ _ (e4.trans (Ext.new (o := .lst (((arnd c).filter fun b => !decide (b ∈ hs)).map eB)) hq))
    have e : (List.filter (fun b => !decide (b ∈ hs)) (arnd c)).isEmpty = whole hs c := by
      unfold whole
      rw [Bool.eq_iff_iff, List.isEmpty_iff, List.filter_eq_nil_iff, List.all_eq_true]
      simp
    rw [← e] at this
    cases hc : List.filter (fun b => !decide (b ∈ hs)) (arnd c) <;> simp [hc] at this ⊢ <;> exact this
def c0 (b : Bd) : Fd := if b.1 then (b.2.1 + 1, b.2.2) else (b.2.1, b.2.2 + 1)
def c1 (b : Bd) : Fd := (b.2.1 + 1, b.2.2 + 1)
def sp_corners_at : DSp := spV fun args _ v => ∃ b, args = [eB b] ∧ v = .tup [eF (c0 b), eF (c1 b)]
def n_corners_at : List Str := ["border", "word", "x", "y"]
def t_corners_at (W : DWX) : DTS := (dSeq (dAsg (dVar 0) (gT 3 (gsCons (gN 1) (gsCons (gN 2) (gsCons (gN 3) gsNil)))))
  (dRet (dIf (dB (dOp rEqD (dVar 1) (dC (.str "right")))) (dTup (dCons (dTup (dCons (dOp rCatD (dVar 2) (dC (.int 1))) (dCons (dVar 3) dNil))) (dCons (dTup (dCons (dOp rCatD (dVar 2) (dC (.int 1))) (dCons (dOp rCatD (dVar 3) (dC (.int 1))) dNil))) dNil))) (dTup (dCons (dTup (dCons (dVar 2) (dCons (dOp rCatD (dVar 3) (dC (.int 1))) dNil))) (dCons (dTup (dCons (dOp rCatD (dVar 2) (dC (.int 1))) (dCons (dOp rCatD (dVar 3) (dC (.int 1))) dNil))) dNil))))))
theorem len_corners_at : Ln 1 sp_corners_at := fun _ _ _ _ ⟨_, ⟨_, h, _⟩, _⟩ => by rw [h]; rfl
theorem rd_corners_at : Rd n_corners_at t_corners_at sp_corners_at := fun {args S Q Ed} h => by
  obtain ⟨v, ⟨⟨r, x, y⟩, rfl, rfl⟩, hQ⟩ := h
  have hq := hQ S (Ext.refl S)
  cases r with
  | false => simp [t_corners_at, n_corners_at, eB, eF, wd_f, c0, c1, down_ne] at hq ⊢; exact hq
  | true => simp [t_corners_at, n_corners_at, eB, eF, wd_t, c0, c1] at hq ⊢; exact hq
def nxt (b : Bd) (w : Int) : Bd := if b.1 then (b.1, b.2.1, b.2.2 + w) else (b.1, b.2.1 + w, b.2.2)
def sp_next_to : DSp := spV fun args _ v => ∃ b w, args = [eB b, .int w] ∧ v = eB (nxt b w)
def n_next_to : List Str := ["border", "way", "word", "x", "y"]
def t_next_to (W : DWX) : DTS := (dSeq (dAsg (dVar 0) (gT 3 (gsCons (gN 2) (gsCons (gN 3) (gsCons (gN 4) gsNil)))))
  (dRet (dIf (dB (dOp rEqD (dVar 2) (dC (.str "right")))) (dTup (dCons (dVar 2) (dCons (dVar 3) (dCons (dOp rCatD (dVar 4) (dVar 1)) dNil)))) (dTup (dCons (dVar 2) (dCons (dOp rCatD (dVar 3) (dVar 1)) (dCons (dVar 4) dNil)))))))
theorem len_next_to : Ln 2 sp_next_to := fun _ _ _ _ ⟨_, ⟨_, _, h, _⟩, _⟩ => by rw [h]; rfl
theorem rd_next_to : Rd n_next_to t_next_to sp_next_to := fun {args S Q Ed} h => by
  obtain ⟨v, ⟨⟨r, x, y⟩, w, rfl, rfl⟩, hQ⟩ := h
  have hq := hQ S (Ext.refl S)
  cases r with
  | false => simp [t_next_to, n_next_to, eB, wd_f, nxt, down_ne] at hq ⊢; exact hq
  | true => simp [t_next_to, n_next_to, eB, wd_t, nxt] at hq ⊢; exact hq
end DL

namespace DL
open PySem PySem.Spec PyProof.Rows L2

/-! ### run_of -/
def cw (b : Bd) (w : Int) : Fd := if 0 < w then c1 b else c0 b
def runF (hs : List Bd) : Nat → Bd → Int → List Bd
  | 0, _, _ => []
  | n + 1, b, w => if whole hs (cw b w) = true then nxt b w :: runF hs n (nxt b w) w else []
def runOf (hs : List Bd) (b : Bd) (w : Int) : List Bd := runF hs 16 b w
def InR (hs : List Bd) : Prop := ∀ b ∈ hs, inF b.2
def pos' (b : Bd) : Int := if b.1 then b.2.2 else b.2.1
def room (b : Bd) (w : Int) : Nat := if 0 < w then (8 - pos' b).toNat else (pos' b + 1).toNat
theorem whole_mem {hs : List Bd} {b : Bd} {w : Int} (hw : w = 1 ∨ w = -1) (h : whole hs (cw b w) = true) : b ∈ hs ∧ nxt b w ∈ hs := by
  obtain ⟨r, x, y⟩ := b
  unfold whole at h
  rw [List.all_eq_true] at h
  rcases hw with rfl | rfl <;> cases r <;> simp [cw, c0, c1, arnd, nxt] at h ⊢
  · exact ⟨h.1, h.2.1⟩
  · exact ⟨h.2.2.1, h.2.2.2⟩
  · exact ⟨h.2.1, by have := h.1; rwa [Int.sub_eq_add_neg] at this⟩
  · exact ⟨h.2.2.2, by have := h.2.2.1; rwa [Int.sub_eq_add_neg] at this⟩
theorem room_pos {b : Bd} {w : Int} (hb : inF b.2) : 1 ≤ room b w ∧ room b w ≤ 8 := by
  obtain ⟨r, x, y⟩ := b
  obtain ⟨h1, h2, h3, h4⟩ := hb
  simp only at h1 h2 h3 h4
  unfold room pos'
  cases r <;> simp <;> split <;> omega
theorem room_nxt {b : Bd} {w : Int} (hw : w = 1 ∨ w = -1) (hb : inF b.2) : room (nxt b w) w + 1 = room b w := by
  obtain ⟨r, x, y⟩ := b
  obtain ⟨h1, h2, h3, h4⟩ := hb
  simp only at h1 h2 h3 h4
  unfold room pos' nxt
  rcases hw with rfl | rfl <;> cases r <;> simp <;> omega
theorem runF_len (hs : List Bd) : ∀ n b w, (runF hs n b w).length ≤ n
  | 0, _, _ => Nat.le_refl _
  | n + 1, b, w => by
    unfold runF
    split
    · simp; exact runF_len hs n _ _
    · simp
def sp_run_of : DSp := spL fun args S ds => ∃ ph n hs b w, args = [.loc ph, eB b, .int w] ∧ S ph = some (.dic n (dT (hs.map eB))) ∧ InR hs ∧ b ∈ hs ∧ (w = 1 ∨ w = -1) ∧ ds = (runOf hs b w).map eB
def n_run_of : List Str := ["hanging", "border", "way", "found", "here"]
def l_run_of_1 (W : DWX) : DTS := (dWhile (dTr (dCall sp_is_whole_corner W (dCons (dVar 0) (dCons (dOp rIxD (dCall sp_corners_at W (dCons (dVar 4) dNil)) (dIf (dB (dOp (rI2 fun i j => .bl (decide (j < i))) (dVar 2) (dC (.int 0)))) (dC (.int 1)) (dC (.int 0)))) dNil)))) (dSeq (dAsg (dCall sp_next_to W (dCons (dVar 4) (dCons (dVar 2) dNil))) (gN 4))
  (dDrop (dBM "list" rAppD (dVar 3) (dCons (dVar 4) dNil)))))
def t_run_of (W : DWX) : DTS := (dSeq (dAsg (dLst dNil) (gN 3))
  (dSeq (dAsg (dVar 1) (gN 4))
  (dSeq (l_run_of_1 W)
  (dRet (dVar 3)))))
theorem len_run_of : Ln 3 sp_run_of := fun _ _ _ _ ⟨_, ⟨_, _, _, _, _, h, _⟩, _⟩ => by rw [h]; rfl
theorem rd_run_of : Rd n_run_of t_run_of sp_run_of := fun {args S Q Ed} h => by
  obtain ⟨v, ⟨ph, n, hs, b, w, rfl, hph, hR, hb, hw, rfl⟩, hQ⟩ := h
  simp [t_run_of, n_run_of]
  intro pf hpf
  have e1 : Ext S (put S pf (.lst [])) := Ext.new hpf
  have g1 : put S pf (.lst []) pf = some (.lst []) := put_same
  generalize put S pf (.lst []) = S1 at e1 g1
  unfold l_run_of_1
  refine whileN_inv (n := room b w) (fun m σ S' => ∃ here acc k, σ = [some (.loc ph), some (eB b), some (.int w), some (.loc pf), some (eB here)] ∧ m = room here w ∧ here ∈ hs ∧ Ext S S' ∧ S' pf = some (.lst (acc.map eB)) ∧ acc ++ runF hs k here w = runOf hs b w ∧ room here w ≤ k) ?_
    ⟨b, [], 16, rfl, rfl, hb, e1, g1, rfl, by have := (room_pos (w := w) (hR b hb)).2; omega⟩
  rintro m σ S' ⟨here, acc, k, rfl, rfl, hh, e2, g2, hrun, hk⟩ N hN
  have hrp := room_pos (w := w) (hR here hh)
  obtain ⟨k, rfl⟩ : ∃ k', k = k' + 1 := ⟨k - 1, by omega⟩
  have hal : acc.length ≤ 16 := by
    have := congrArg List.length hrun
    have h2 := runF_len hs 16 b w
    rw [List.length_append] at this
    unfold runOf at this
    omega
  simp
  refine ⟨_, ⟨here, rfl, rfl⟩, fun S2 e3 => ?_⟩
  have hix : ∀ K : DQ, K (eF (cw here w)) S2 → (if 0 < w then optK (atI [eF (c0 here), eF (c1 here)] 1) S2 K else optK (atI [eF (c0 here), eF (c1 here)] 0) S2 K) := fun K hK => by
    unfold cw at hK
    by_cases h0 : 0 < w
    · rw [if_pos h0] at hK ⊢; rw [at1]; exact hK
    · rw [if_neg h0] at hK ⊢; rw [at0]; exact hK
  simp only [optK] at hix
  refine hix (fun x S1 => sp_is_whole_corner [.loc ph, x] S1 _ _) ⟨_, ⟨ph, n, hs, cw here w, rfl, (e2.trans e3) _ _ hph, rfl⟩, fun S3 e4 => ?_⟩
  have g3 := (e3.trans e4) _ _ g2
  cases hwc : whole hs (cw here w) with
  | false =>
    simp
    have : runOf hs b w = acc := by rw [← hrun]; unfold runF; rw [hwc]; simp
    exact hQ S3 pf (e2.trans (e3.trans e4)) hpf (by rw [this]; exact g3)
  | true =>
    simp
    have hnx := (whole_mem hw hwc).2
    refine ⟨_, ⟨here, w, rfl, rfl⟩, fun S4 e5 => ?_⟩
    have g4 := e5 _ _ g3
    simp [tyD, g4]
    have hrn := room_nxt hw (hR here hh)
    refine ⟨by omega, hN (room (nxt here w) w) _ _ (by omega) ⟨nxt here w, acc ++ [nxt here w], k, rfl, rfl, hnx, (e2.trans (e3.trans (e4.trans e5))).putN hpf, by rw [put_same]; simp, ?_, by omega⟩⟩
    rw [← hrun]
    conv => rhs; unfold runF
    rw [hwc]
    simp

/-! ### tear_at -/
def tearSet (hs : List Bd) (b : Bd) : List Bd := srt eB (runOf hs b (-1) ++ [b] ++ runOf hs b 1)
def tearAt (hs pk : List Bd) (b : Bd) : Option (List Bd) := if b ∈ hs then (if (tearSet hs b).all fun x => decide (x ∈ pk) then some (tearSet hs b) else none) else none
def tD : Option (List Bd) → D
  | none => .non
  | some t => eT t
def sp_tear_at : DSp := spV fun args S v => ∃ ph n hs pp m pk b, args = [.loc ph, .loc pp, eB b] ∧ S ph = some (.dic n (dT (hs.map eB))) ∧ S pp = some (.dic m (dT (pk.map eB))) ∧ InR hs ∧ v = tD (tearAt hs pk b)
def n_tear_at : List Str := ["hanging", "pricks", "border", "found", "one"]
def t_tear_at (W : DWX) : DTS := (dSeq (dIfS (dB (dOp rNinD (dVar 2) (dVar 0))) (dRet (dC .non)) dNext)
  (dSeq (dAsg (dCB rSortD (dCons (dOp rCatD (dOp rCatD (dCall sp_run_of W (dCons (dVar 0) (dCons (dVar 2) (dCons (dUn rNegI (dC (.int 1))) dNil)))) (dLst (dCons (dVar 2) dNil))) (dCall sp_run_of W (dCons (dVar 0) (dCons (dVar 2) (dCons (dC (.int 1)) dNil))))) dNil)) (gN 3))
  (dRet (dIf (dTr (dLc (dIter (dVar 3)) (gN 4) (dB (dOp rNinD (dVar 4) (dVar 1))) (dVar 4) [4])) (dC .non) (dCB rTupD (dCons (dVar 3) dNil))))))
theorem len_tear_at : Ln 3 sp_tear_at := fun _ _ _ _ ⟨_, ⟨_, _, _, _, _, _, _, h, _⟩, _⟩ => by rw [h]; rfl
theorem rd_tear_at : Rd n_tear_at t_tear_at sp_tear_at := fun {args S Q Ed} h => by
  obtain ⟨v, ⟨ph, n, hs, pp, m, pk, b, rfl, hph, hpp, hR, rfl⟩, hQ⟩ := h
  simp [t_tear_at, n_tear_at, hph, dget_dT, mem_eB]
  by_cases hb : b ∈ hs
  · simp [hb]
    refine ⟨_, ⟨ph, n, hs, b, -1, rfl, hph, hR, hb, .inr rfl, rfl⟩, fun S1 p1 e1 hp1 h1 => ?_⟩
    intro p2 hp2
    have h1' := Ext.new (o := .lst [eB b]) hp2 _ _ h1
    have hl1 : (runOf hs b (-1)).length ≤ 16 := runF_len hs 16 b (-1)
    have hl2 : (runOf hs b 1).length ≤ 16 := runF_len hs 16 b 1
    simp [h1', put_same]
    refine ⟨by omega, fun p3 hp3 => ?_⟩
    have e3 : Ext S (put (put S1 p2 (.lst [eB b])) p3 (.lst ((runOf hs b (-1)).map eB ++ [eB b]))) := (e1.trans (Ext.new hp2)).trans (Ext.new hp3)
    refine ⟨_, ⟨ph, n, hs, b, 1, rfl, e3 _ _ hph, hR, hb, .inl rfl, rfl⟩, fun S4 p4 e4 hp4 h4 => ?_⟩
    have h3 := e4 _ _ (put_same (S := put S1 p2 (.lst [eB b])) (a := p3) (o := .lst ((runOf hs b (-1)).map eB ++ [eB b])))
    simp [h3, h4]
    refine ⟨by omega, fun p5 hp5 => ?_⟩
    simp [rSortD, put_same]
    have hmap : (runOf hs b (-1)).map eB ++ eB b :: (runOf hs b 1).map eB = (runOf hs b (-1) ++ [b] ++ runOf hs b 1).map eB := by simp
    rw [hmap]
    refine ⟨sort_B _, fun p6 hp6 => ?_⟩
    rw [dsort_map, show srt eB (runOf hs b (-1) ++ [b] ++ runOf hs b 1) = tearSet hs b from rfl]
    have e6 := (e3.trans e4).trans ((Ext.new (o := .lst ((runOf hs b (-1) ++ [b] ++ runOf hs b 1).map eB)) hp5).trans (Ext.new (o := .lst ((tearSet hs b).map eB)) hp6))
    have g6 : put (put S4 p5 (.lst ((runOf hs b (-1) ++ [b] ++ runOf hs b 1).map eB))) p6 (.lst ((tearSet hs b).map eB)) p6 = some (.lst ((tearSet hs b).map eB)) := put_same
    generalize put (put S4 p5 (.lst ((runOf hs b (-1) ++ [b] ++ runOf hs b 1).map eB))) p6 (.lst ((tearSet hs b).map eB)) = S6 at e6 g6
    refine dLc_flt (fun _ _ => eB_inj) (l := tearSet hs b) (fun x => !decide (x ∈ pk)) (fun R hR => ?_) (by simp) (fun x hx S' e K hK => ?_) (fun S7 q e7 hq => ?_)
    · simp [g6]
      exact hR S6 _ (Ext.refl _) fun S' e => e _ _ g6
    · have hg := (e6.trans e) _ _ hpp
      simp [hg, dget_dT, mem_eB]
      have := hK S' (Ext.refl _)
      by_cases hb : x ∈ pk
      · simp [hb] at this ⊢; exact this
      · simp [hb] at this ⊢; exact this
    · simp [put_same]
      have hq7 := hQ _ ((e6.trans e7).trans (Ext.new (o := .lst (((tearSet hs b).filter fun x => !decide (x ∈ pk)).map eB)) hq))
      unfold tearAt at hq7
      rw [if_pos hb] at hq7
      have g7 := Ext.new (o := .lst (((tearSet hs b).filter fun x => !decide (x ∈ pk)).map eB)) hq _ _ (e7 _ _ g6)
      by_cases hall : (tearSet hs b).all (fun x => decide (x ∈ pk)) = true
      · rw [if_pos hall] at hq7
        have hnil : (tearSet hs b).filter (fun x => !decide (x ∈ pk)) = [] := filter_none fun a ha => by rw [List.all_eq_true] at hall; simpa using hall a ha
        have hc : ∀ x ∈ tearSet hs b, x ∈ pk := by simpa using hall
        simp [hnil, hc] at hq7 g7 ⊢
        simp [g7]
        exact hq7
      · rw [if_neg hall] at hq7
        have hc : ¬ ∀ x ∈ tearSet hs b, x ∈ pk := by simpa using hall
        have hne : ¬ (tearSet hs b).filter (fun x => !decide (x ∈ pk)) = [] := fun z => hc fun x hx => by
          have := List.filter_eq_nil_iff.mp z x hx
          simpa using this
        simp [hne]
        exact hq7
  · simp [hb]
    have := hQ S (Ext.refl S)
    unfold tearAt at this
    rw [if_neg hb] at this
    exact this
end DL

namespace DL
open PySem PySem.Spec PyProof.Rows L2

/-! ### tears_of -/
theorem isKs_Bs (l : List Bd) : D.isKs (l.map eB) = true := by
  induction l with
  | nil => rfl
  | cons b l ih => show ((eB b).isK && D.isKs (l.map eB)) = true; rw [ih]; rfl
theorem deps_Bs (l : List Bd) : D.deps (l.map eB) ≤ 1 := by
  induction l with
  | nil => exact Nat.zero_le _
  | cons b l ih => show max ((eB b).dep) (D.deps (l.map eB)) ≤ 1; have : (eB b).dep = 1 := rfl; omega
@[simp] theorem isK_T1 (t : List Bd) : (eT t).isK = true := isKs_Bs t
@[simp] theorem isK_T2 (t : List Bd) : (eT t).dep ≤ 8 := by show D.deps (t.map eB) + 1 ≤ 8; have := deps_Bs t; omega
@[simp] theorem isK_T3 (t : List Bd) : (eT t).isTup = true := rfl
theorem alike_Bs : ∀ (a b : List Bd), PySem.W.alikeAll (D.pds (a.map eB)) (D.pds (b.map eB)) = true
  | [], _ => by simp [D.pds, PySem.W.alikeAll]
  | _ :: _, [] => by simp [D.pds, PySem.W.alikeAll]
  | x :: a, y :: b => by
    show (PySem.W.alike (eB x).pd (eB y).pd && PySem.W.alikeAll (D.pds (a.map eB)) (D.pds (b.map eB))) = true
    rw [alike_Bs a b]; rfl
theorem sort_T (l : List (List Bd)) (h : ∀ t ∈ l, t ≠ []) : sortOk (l.map eT) := by
  refine ⟨fun d hd e he => ?_, fun d hd => ?_, .inl fun d hd => ?_⟩
  · obtain ⟨a, _, rfl⟩ := List.mem_map.mp hd
    obtain ⟨b, _, rfl⟩ := List.mem_map.mp he
    exact alike_Bs a b
  · obtain ⟨a, _, rfl⟩ := List.mem_map.mp hd
    exact pl_T 6 a
  · obtain ⟨a, ha, rfl⟩ := List.mem_map.mp hd
    cases a with
    | nil => exact (h [] ha rfl).elim
    | cons b a => exact ⟨_, _, rfl⟩
def addT (ts : List (List Bd)) (t : List Bd) : List (List Bd) := if t ∈ ts then ts else ts ++ [t]
theorem addK_eT (ts : List (List Bd)) (t : List Bd) : addK (ts.map eT) (eT t) = (addT ts t).map eT := by
  unfold addK addT
  by_cases h : t ∈ ts
  · rw [if_pos h, if_pos (mem_eT.mpr h)]
  · rw [if_neg h, if_neg (fun z => h (mem_eT.mp z))]; simp
def tStep (hs pk : List Bd) (ts : List (List Bd)) (b : Bd) : List (List Bd) := match tearAt hs pk b with
  | some t => addT ts t
  | none => ts
def tearsRaw (hs pk l : List Bd) : List (List Bd) := l.foldl (tStep hs pk) []
def tearsOf (hs pk : List Bd) : List (List Bd) := srt eT (tearsRaw hs pk pk)
theorem tearSet_ne (hs : List Bd) (b : Bd) : tearSet hs b ≠ [] := fun z => by
  have : b ∈ tearSet hs b := mem_srt.mpr (by simp)
  rw [z] at this; simp at this
theorem tearAt_some {hs pk : List Bd} {b : Bd} {t : List Bd} (h : tearAt hs pk b = some t) : b ∈ hs ∧ t = tearSet hs b ∧ ∀ x ∈ t, x ∈ pk := by
  unfold tearAt at h
  split at h
  · rename_i hb
    split at h
    · rename_i ha
      cases h
      rw [List.all_eq_true] at ha
      exact ⟨hb, rfl, fun x hx => by simpa using ha x hx⟩
    · cases h
  · cases h
theorem mem_raw {hs pk : List Bd} {t : List Bd} : ∀ {l : List Bd} {ts : List (List Bd)}, t ∈ l.foldl (tStep hs pk) ts ↔ t ∈ ts ∨ ∃ b ∈ l, tearAt hs pk b = some t
  | [], ts => by simp
  | b :: l, ts => by
    rw [List.foldl_cons, mem_raw]
    have : t ∈ tStep hs pk ts b ↔ t ∈ ts ∨ tearAt hs pk b = some t := by
      unfold tStep
      cases h : tearAt hs pk b with
      | none => simp
      | some u =>
        simp only [addT]
        by_cases hu : u ∈ ts
        · rw [if_pos hu]
          constructor
          · exact .inl
          · rintro (k | k)
            · exact k
            · cases k; exact hu
        · rw [if_neg hu]; simp [eq_comm]
    rw [this]
    simp [or_assoc]
theorem mem_tearsOf {hs pk : List Bd} {t : List Bd} : t ∈ tearsOf hs pk ↔ ∃ b ∈ pk, tearAt hs pk b = some t := by
  unfold tearsOf
  rw [mem_srt]
  unfold tearsRaw
  rw [mem_raw]
  simp
theorem raw_len {hs pk : List Bd} : ∀ {l : List Bd} {ts : List (List Bd)}, (l.foldl (tStep hs pk) ts).length ≤ ts.length + l.length
  | [], ts => by simp
  | b :: l, ts => by
    rw [List.foldl_cons]
    have h1 := raw_len (hs := hs) (pk := pk) (l := l) (ts := tStep hs pk ts b)
    have h2 : (tStep hs pk ts b).length ≤ ts.length + 1 := by
      unfold tStep
      split
      · unfold addT; split <;> simp
      · omega
    simp; omega
def sp_tears_of : DSp := spL fun args S ds => ∃ ph n hs pp m pk, args = [.loc ph, .loc pp] ∧ S ph = some (.dic n (dT (hs.map eB))) ∧ S pp = some (.dic m (dT (pk.map eB))) ∧ InR hs ∧ pk.length ≤ 1000 ∧ ds = (tearsOf hs pk).map eT
def n_tears_of : List Str := ["hanging", "pricks", "found", "border", "tear"]
def l_tears_of_1 (W : DWX) : DTS := (dFor (dIter (dVar 1)) (gN 3) (dSeq (dAsg (dCall sp_tear_at W (dCons (dVar 0) (dCons (dVar 1) (dCons (dVar 3) dNil)))) (gN 4))
  (dIfS (dB (dOp rNotN (dVar 4) (dC .non))) (dSetIx (dVar 2) (dVar 4) (dC (.bl true))) dNext)))
def t_tears_of (W : DWX) : DTS := (dSeq (dAsg dDict0 (gN 2))
  (dSeq (l_tears_of_1 W)
  (dRet (dCB rSortD (dCons (dVar 2) dNil)))))
theorem len_tears_of : Ln 2 sp_tears_of := fun _ _ _ _ ⟨_, ⟨_, _, _, _, _, _, h, _⟩, _⟩ => by rw [h]; rfl
theorem rd_tears_of : Rd n_tears_of t_tears_of sp_tears_of := fun {args S Q Ed} h => by
  obtain ⟨v, ⟨ph, n, hs, pp, m, pk, rfl, hph, hpp, hR, hl, rfl⟩, hQ⟩ := h
  simp [t_tears_of, n_tears_of, dDict0]
  intro pf nf hpf
  have e1 : Ext S (put S pf (.dic nf [])) := Ext.new hpf
  have g1 : put S pf (.dic nf []) pf = some (.dic nf []) := put_same
  generalize put S pf (.dic nf []) = S1 at e1 g1
  unfold l_tears_of_1
  refine dFor_inv (ds := pk.map eB) (G := fun S => S pp = some (.dic m (dT (pk.map eB)))) (S1 := S1) (fun R h => ?_)
    (fun rest σ S' => ∃ (done gs : List Bd) (a b : Option D) (n : Nat), rest = gs.map eB ∧ pk = done ++ gs ∧ σ = [some (.loc ph), some (.loc pp), some (.loc pf), a, b] ∧ Ext S S' ∧ S' pf = some (.dic n (dT ((done.foldl (tStep hs pk) []).map eT))))
    ⟨[], pk, none, none, nf, rfl, rfl, rfl, e1, g1⟩ ?_ ?_
  · have := e1 _ _ hpp
    simp [this, dT_keys]
    exact h
  · rintro σ S' ⟨done, gs, a, b, n, q1, q2, rfl, e2, g2⟩
    have : gs = [] := by cases gs with | nil => rfl | cons _ _ => simp at q1
    subst this
    rw [List.append_nil] at q2
    subst q2
    refine ⟨e2 _ _ hpp, ?_⟩
    simp [rSortD, g2, dT_keys]
    refine ⟨sort_T _ fun t ht => ?_, fun p hp => ?_⟩
    · rcases mem_raw.mp ht with k | ⟨b, _, k⟩
      · simp at k
      · rw [(tearAt_some k).2.1]; exact tearSet_ne hs b
    · rw [dsort_map]
      exact hQ _ p (e2.trans (Ext.new hp)) (e2.free hp) put_same
  · rintro x rest σ S' ⟨done, gs, a, b, n, q1, q2, rfl, e2, g2⟩
    refine ⟨e2 _ _ hpp, fun N hN => ?_⟩
    cases gs with
    | nil => simp at q1
    | cons bd gs =>
      simp only [List.map_cons, List.cons.injEq] at q1
      obtain ⟨rfl, rfl⟩ := q1
      simp
      refine ⟨_, ⟨ph, _, hs, pp, m, pk, bd, rfl, e2 _ _ hph, e2 _ _ hpp, hR, rfl⟩, fun S3 e3 => ?_⟩
      have g3 := e3 _ _ g2
      cases ht : tearAt hs pk bd with
      | none =>
        simp [tD]
        refine hN _ _ ⟨done ++ [bd], gs, some (eB bd), some .non, n, rfl, by rw [q2]; simp, rfl, e2.trans e3, ?_⟩
        rw [g3, List.foldl_append]
        simp [tStep, ht]
      | some t =>
        have hlen : (done.foldl (tStep hs pk) []).length ≤ done.length := by have := raw_len (hs := hs) (pk := pk) (l := done) (ts := []); simpa using this
        have hdl : done.length ≤ 1000 := by have := congrArg List.length q2; simp at this; omega
        have hnn : isN (eT t) = false := rfl
        simp [tD, hnn, g3, dT_len]
        refine ⟨by omega, fun n' => hN _ _ ⟨done ++ [bd], gs, some (eB bd), some (eT t), n', rfl, by rw [q2]; simp, rfl, (e2.trans e3).putN hpf, ?_⟩⟩
        rw [put_same, dput_dT, addK_eT, List.foldl_append]
        simp [tStep, ht]
theorem Valid.inR {fs : List Fd} {ps : List Bd} (V : Valid fs ps) (tn : List Bd) : InR (hang fs tn) := fun b hb => V.fin _ (mem_bordersOf.mp (mem_hang.mp hb).1).1
def sp_tears : DSp := spL fun args S ds => ∃ fs ps tn, args = [eS fs ps, eT tn] ∧ Valid fs ps ∧ TornOk ps tn ∧ ds = (tearsOf (hang fs tn) ps).map eT
def n_tears : List Str := ["sheet", "torn"]
def t_tears (W : DWX) : DTS := (dSeq (dDrop (dCall sp_look_torn W (dCons (dVar 0) (dCons (dVar 1) dNil))))
  (dRet (dCall sp_tears_of W (dCons (dCall sp_hanging_of W (dCons (dVar 0) (dCons (dVar 1) dNil))) (dCons (dCall sp_pricks_of W (dCons (dVar 0) dNil)) dNil)))))
theorem len_tears : Ln 2 sp_tears := fun _ _ _ _ ⟨_, ⟨_, _, _, h, _⟩, _⟩ => by rw [h]; rfl
theorem rd_tears : Rd n_tears t_tears sp_tears := fun {args S Q Ed} h => by
  obtain ⟨v, ⟨fs, ps, tn, rfl, V, T, rfl⟩, hQ⟩ := h
  have := V.few
  have := V.plen
  have := T.len V
  simp [t_tears, n_tears]
  refine ⟨_, ⟨fs, ps, tn, rfl, V, T, rfl⟩, fun S1 e1 => ?_⟩
  refine ⟨_, ⟨fs, ps, tn, rfl, V.fris.nodup, by omega, T.ris.nodup, by omega, rfl⟩, fun S2 ph n e2 hph h2 => ?_⟩
  refine ⟨_, ⟨fs, ps, rfl, V.pris.nodup, by omega, rfl⟩, fun S3 pp m e3 hpp h3 => ?_⟩
  exact ⟨_, ⟨ph, n, _, pp, m, ps, rfl, e3 _ _ h2, h3, V.inR tn, by omega, rfl⟩, fun S4 p e4 hp h4 => hQ S4 p (e1.trans (e2.trans (e3.trans e4))) ((e1.trans (e2.trans e3)).free hp) h4⟩

/-! ### corners_of, measure -/
def addF (cs : List Fd) (c : Fd) : List Fd := if c ∈ cs then cs else cs ++ [c]
theorem addK_eF' (cs : List Fd) (c : Fd) : addK (cs.map eF) (eF c) = (addF cs c).map eF := by
  unfold addK addF
  by_cases h : c ∈ cs
  · rw [if_pos h, if_pos (mem_eF.mpr h)]
  · rw [if_neg h, if_neg (fun z => h (mem_eF.mp z))]; simp
theorem addF_len (cs : List Fd) (c : Fd) : (addF cs c).length ≤ cs.length + 1 := by unfold addF; split <;> simp
theorem mem_addF {cs : List Fd} {c x : Fd} : x ∈ addF cs c ↔ x ∈ cs ∨ x = c := by
  unfold addF
  split
  · rename_i h
    constructor
    · exact .inl
    · rintro (k | rfl)
      · exact k
      · exact h
  · simp
theorem addF_nodup {cs : List Fd} {c : Fd} (h : cs.Nodup) : (addF cs c).Nodup := by
  unfold addF
  split
  · exact h
  · rename_i hk
    rw [List.nodup_append]
    exact ⟨h, by simp, fun a ha b hb => by rw [List.mem_singleton] at hb; subst hb; exact fun e => hk (e ▸ ha)⟩
def cornL (hs : List Bd) (cs : List Fd) : List Fd := hs.foldl (fun cs b => addF (addF cs (c0 b)) (c1 b)) cs
theorem mem_cornL {x : Fd} : ∀ {hs : List Bd} {cs : List Fd}, x ∈ cornL hs cs ↔ x ∈ cs ∨ ∃ b ∈ hs, x = c0 b ∨ x = c1 b
  | [], cs => by simp [cornL]
  | b :: hs, cs => by
    have : cornL (b :: hs) cs = cornL hs (addF (addF cs (c0 b)) (c1 b)) := rfl
    rw [this, mem_cornL, mem_addF, mem_addF]
    simp [or_assoc]
theorem cornL_nodup : ∀ {hs : List Bd} {cs : List Fd}, cs.Nodup → (cornL hs cs).Nodup
  | [], _, h => h
  | b :: hs, cs, h => by
    have : cornL (b :: hs) cs = cornL hs (addF (addF cs (c0 b)) (c1 b)) := rfl
    rw [this]
    exact cornL_nodup (addF_nodup (addF_nodup h))
def cornN (hs : List Bd) : Nat := ((cornL hs []).filter (whole hs)).length
theorem corn_loop {Q : List (D × D) → Store → Prop} {ph : Addr} {n0 : Nat} {all : List Bd} {S0 : Store} {W : DWX} : ∀ (hs : List Bd) (cs : List Fd) (S : Store), cs.length + 2 * hs.length ≤ 9000 → Ext S0 S → S0 ph = some (.dic n0 (dT (all.map eB))) →
    (∀ S', Ext S0 S' → Q (dT ((cornL hs cs).map eF)) S') →
    dcL2 (gN 2) dYes (dIter (dCall sp_corners_at W0 (dCons (dVar 2) dNil))) (gN 3) dYes (dVar 3) (dC (.bl true)) [2, 3] [3] [some (.loc ph), none, none, none] (fun S => S ph = some (.dic n0 (dT (all.map eB)))) Q (hs.map eB) (dT (cs.map eF)) S
  | [], cs, S, hl, e, hph, hQ => ⟨e _ _ hph, hQ S e⟩
  | b :: hs, cs, S, hl, e, hph, hQ => by
    simp only [List.length_cons] at hl
    refine ⟨e _ _ hph, ?_⟩
    simp
    refine ⟨_, ⟨b, rfl, rfl⟩, fun S1 e1 => ?_⟩
    have h1 := addF_len cs (c0 b)
    have h2 := addF_len (addF cs (c0 b)) (c1 b)
    refine ⟨trivial, ?_⟩
    simp
    refine ⟨key_F _, by rw [dT_len]; simp; omega, ?_⟩
    rw [dput_dT, addK_eF']
    refine ⟨trivial, ?_⟩
    simp
    refine ⟨key_F _, by rw [dT_len]; simp; omega, ?_⟩
    rw [dput_dT, addK_eF']
    refine ⟨trivial, ?_⟩
    exact corn_loop (W := W) hs _ S1 (by omega) (e.trans e1) hph hQ
def sp_corners_of : DSp := spV fun args S v => ∃ ph n hs, args = [.loc ph] ∧ S ph = some (.dic n (dT (hs.map eB))) ∧ hs.length ≤ 1000 ∧ v = .int (cornN hs)
def n_corners_of : List Str := ["hanging", "some", "border", "corner"]
def t_corners_of (W : DWX) : DTS := (dSeq (dAsg (dDc (dIter (dVar 0)) (dcR2 (gN 2) dYes (dIter (dCall sp_corners_at W0 (dCons (dVar 2) dNil))) (gN 3) dYes (dVar 3) (dC (.bl true)) [2, 3] [3])) (gN 1))
  (dRet (dCB rLenD (dCons (dLc (dIter (dVar 1)) (gN 3) (dTr (dCall sp_is_whole_corner W0 (dCons (dVar 0) (dCons (dVar 3) dNil)))) (dVar 3) [3]) dNil))))
theorem len_corners_of : Ln 1 sp_corners_of := fun _ _ _ _ ⟨_, ⟨_, _, _, h, _⟩, _⟩ => by rw [h]; rfl
theorem rd_corners_of : Rd n_corners_of t_corners_of sp_corners_of := fun {args S Q Ed} h => by
  obtain ⟨v, ⟨ph, n, hs, rfl, hph, hl, rfl⟩, hQ⟩ := h
  simp only [t_corners_of, n_corners_of, dSeq, dAsg, dDc]
  show dIter (dVar 0) [some (.loc ph), none, none, none] S _
  simp only [dIter, dVar_zero, hph, dT_keys]
  refine corn_loop (S0 := S) (W := W0) hs [] S (by simp; omega) (Ext.refl S) hph fun S1 e1 p1 n1 hp1 => ?_
  simp
  have e2 := e1.trans (Ext.new (o := .dic n1 (dT ((cornL hs []).map eF))) hp1)
  have g2 : put S1 p1 (.dic n1 (dT ((cornL hs []).map eF))) p1 = some (.dic n1 (dT ((cornL hs []).map eF))) := put_same
  generalize put S1 p1 (.dic n1 (dT ((cornL hs []).map eF))) = S2 at e2 g2
  refine dLc_flt (fun _ _ => eF_inj) (l := cornL hs []) (whole hs) (fun R hR => ?_) (by simp) (fun c hc S' e K hK => ?_) (fun S4 q e4 hq => ?_)
  · simp [g2, dT_keys]
    exact hR S2 _ (Ext.refl _) fun S' e => e _ _ g2
  · simp
    exact ⟨_, ⟨ph, n, hs, c, rfl, (e2.trans e) _ _ hph, rfl⟩, fun S'' e' => hK S'' e'⟩
  · simp [put_same]
    exact hQ _ ((e2.trans e4).trans (Ext.new hq))
def meas (fs : List Fd) (hs : List Bd) : Int := fs.length - hs.length + cornN hs
def sp_measure_of : DSp := spV fun args S v => ∃ fs ph n hs, args = [.tup (fs.map eF), .loc ph] ∧ S ph = some (.dic n (dT (hs.map eB))) ∧ hs.length ≤ 1000 ∧ v = .int (meas fs hs)
def n_measure_of : List Str := ["fields", "hanging"]
def t_measure_of (W : DWX) : DTS := (dRet (dOp rCatD (dOp (rI2 fun i j => .int (i - j)) (dCB rLenD (dCons (dVar 0) dNil)) (dCB rLenD (dCons (dVar 1) dNil))) (dCall sp_corners_of W (dCons (dVar 1) dNil))))
theorem len_measure_of : Ln 2 sp_measure_of := fun _ _ _ _ ⟨_, ⟨_, _, _, _, h, _⟩, _⟩ => by rw [h]; rfl
theorem rd_measure_of : Rd n_measure_of t_measure_of sp_measure_of := fun {args S Q Ed} h => by
  obtain ⟨v, ⟨fs, ph, n, hs, rfl, hph, hl, rfl⟩, hQ⟩ := h
  simp [t_measure_of, n_measure_of, hph, dT_len]
  exact ⟨_, ⟨ph, n, hs, rfl, hph, hl, rfl⟩, fun S' e => hQ S' e⟩
def sp_measure : DSp := spV fun args S v => ∃ fs ps tn, args = [eS fs ps, eT tn] ∧ Valid fs ps ∧ TornOk ps tn ∧ v = .int (meas fs (hang fs tn))
def n_measure : List Str := ["sheet", "torn"]
def t_measure (W : DWX) : DTS := (dSeq (dDrop (dCall sp_look_torn W (dCons (dVar 0) (dCons (dVar 1) dNil))))
  (dRet (dCall sp_measure_of W (dCons (dOp rIxD (dVar 0) (dC (.int 0))) (dCons (dCall sp_hanging_of W (dCons (dVar 0) (dCons (dVar 1) dNil))) dNil)))))
theorem len_measure : Ln 2 sp_measure := fun _ _ _ _ ⟨_, ⟨_, _, _, h, _⟩, _⟩ => by rw [h]; rfl
theorem rd_measure : Rd n_measure t_measure sp_measure := fun {args S Q Ed} h => by
  obtain ⟨v, ⟨fs, ps, tn, rfl, V, T, rfl⟩, hQ⟩ := h
  have := V.few
  have := T.len V
  have := hang_len fs tn
  simp [t_measure, n_measure]
  refine ⟨_, ⟨fs, ps, tn, rfl, V, T, rfl⟩, fun S1 e1 => ?_⟩
  simp [eS, at0]
  refine ⟨_, ⟨fs, ps, tn, rfl, V.fris.nodup, by omega, T.ris.nodup, by omega, rfl⟩, fun S2 ph n e2 hph h2 => ?_⟩
  exact ⟨_, ⟨fs, ph, n, _, rfl, h2, by omega, rfl⟩, fun S3 e3 => hQ S3 (e1.trans (e2.trans e3))⟩
def sp_pieces_of : DSp := spL fun args S ds => ∃ fs ps tn, args = [eS fs ps, eT tn] ∧ Ris eF fs ∧ fs.length ≤ 100 ∧ tn.Nodup ∧ tn.length ≤ 1000 ∧ ds = (parts fs (hang fs tn)).map eL
def n_pieces_of : List Str := ["sheet", "torn"]
def t_pieces_of (W : DWX) : DTS := (dRet (dCall sp_parts_of W (dCons (dOp rIxD (dVar 0) (dC (.int 0))) (dCons (dCB rLstK (dCons (dCall sp_hanging_of W (dCons (dVar 0) (dCons (dVar 1) dNil))) dNil)) dNil))))
theorem len_pieces_of : Ln 2 sp_pieces_of := fun _ _ _ _ ⟨_, ⟨_, _, _, h, _⟩, _⟩ => by rw [h]; rfl
theorem rd_pieces_of : Rd n_pieces_of t_pieces_of sp_pieces_of := fun {args S Q Ed} h => by
  obtain ⟨v, ⟨fs, ps, tn, rfl, hr, hl, htn, htl, rfl⟩, hQ⟩ := h
  have := hang_len fs tn
  simp [t_pieces_of, n_pieces_of, eS, at0]
  refine ⟨_, ⟨fs, ps, tn, rfl, hr.nodup, by omega, htn, htl, rfl⟩, fun S2 ph n e2 hph h2 => ?_⟩
  simp [rLstK, h2, dT_keys]
  intro p hp
  refine ⟨_, ⟨fs, hang fs tn, p, rfl, put_same, hr, by omega, by omega, fun b hb => mem_bordersOf.mp (mem_hang.mp hb).1, rfl⟩, fun S3 q e3 hq h3 => ?_⟩
  exact hQ S3 q ((e2.trans (Ext.new hp)).trans e3) ((e2.trans (Ext.new hp)).free hq) h3
end DL

namespace DL

/-! ### tears as intervals -/
def shift (b : Bd) (i : Int) : Bd := if b.1 then (b.1, b.2.1, b.2.2 + i) else (b.1, b.2.1 + i, b.2.2)
theorem shift_zero (b : Bd) : shift b 0 = b := by obtain ⟨r, x, y⟩ := b; cases r <;> simp [shift]
theorem shift_shift (b : Bd) (i j : Int) : shift (shift b i) j = shift b (i + j) := by obtain ⟨r, x, y⟩ := b; cases r <;> simp [shift] <;> omega
theorem shift_inj {b : Bd} {i j : Int} (h : shift b i = shift b j) : i = j := by obtain ⟨r, x, y⟩ := b; cases r <;> simp [shift] at h <;> omega
theorem nxt_shift (b : Bd) (w : Int) : nxt b w = shift b w := rfl
def kor (b : Bd) (i : Int) : Fd := c1 (shift b i)
theorem c0_kor (b : Bd) (i : Int) : c0 (shift b (i + 1)) = kor b i := by obtain ⟨r, x, y⟩ := b; cases r <;> simp [shift, c0, c1, kor] <;> omega
theorem kor_shift (b : Bd) (i j : Int) : kor (shift b i) j = kor b (i + j) := by unfold kor; rw [shift_shift]
theorem kor_inj {b : Bd} {i j : Int} (h : kor b i = kor b j) : i = j := by obtain ⟨r, x, y⟩ := b; cases r <;> simp [shift, c1, kor] at h <;> omega
def wh (hs : List Bd) (b : Bd) (i : Int) : Prop := whole hs (kor b i) = true
theorem wh_shift {hs : List Bd} {b : Bd} {i j : Int} : wh hs (shift b i) j ↔ wh hs b (i + j) := by unfold wh; rw [kor_shift]
theorem whole_iff {hs : List Bd} {c : Fd} : whole hs c = true ↔ ∀ x ∈ arnd c, x ∈ hs := by unfold whole; rw [List.all_eq_true]; simp
theorem mem_arnd_kor (b : Bd) (i : Int) : shift b i ∈ arnd (kor b i) ∧ shift b (i + 1) ∈ arnd (kor b i) := by
  obtain ⟨r, x, y⟩ := b
  cases r <;> simp [shift, kor, c1, arnd] <;> omega
/-- a border at a corner stands ahead of it or behind it, in its line -/
theorem arnd_kor {c : Fd} {x : Bd} (h : x ∈ arnd c) : c = kor x 0 ∨ c = kor x (-1) := by
  obtain ⟨r, x, y⟩ := x
  obtain ⟨cx, cy⟩ := c
  simp [arnd] at h
  rcases h with ⟨rfl, h1, h2⟩ | ⟨rfl, h1, h2⟩ | ⟨rfl, h1, h2⟩ | ⟨rfl, h1, h2⟩
  · left; simp [kor, c1, shift]; omega
  · right; simp [kor, c1, shift]; omega
  · left; simp [kor, c1, shift]; omega
  · right; simp [kor, c1, shift]; omega
theorem kor_arnd (x : Bd) : x ∈ arnd (kor x 0) ∧ x ∈ arnd (kor x (-1)) := by
  have h1 := (mem_arnd_kor x 0).1
  have h2 := (mem_arnd_kor x (-1)).2
  rw [shift_zero] at h1
  rw [show (-1 : Int) + 1 = 0 from rfl, shift_zero] at h2
  exact ⟨h1, h2⟩
theorem wh_mem {hs : List Bd} {b : Bd} {i : Int} (h : wh hs b i) : shift b i ∈ hs ∧ shift b (i + 1) ∈ hs :=
  ⟨whole_iff.mp h _ (mem_arnd_kor b i).1, whole_iff.mp h _ (mem_arnd_kor b i).2⟩
theorem runF_up (hs : List Bd) : ∀ (n : Nat) (b : Bd), ∃ k : Nat, k ≤ n ∧ runF hs n b 1 = (List.range k).map (fun (i : Nat) => shift b ((i : Int) + 1)) ∧ (∀ i : Nat, i < k → wh hs b i) ∧ (k < n → ¬ wh hs b k)
  | 0, b => ⟨0, Nat.le_refl _, rfl, fun i h => by omega, fun h => by omega⟩
  | n + 1, b => by
    unfold runF
    have hc : cw b 1 = kor b 0 := by unfold cw kor; rw [shift_zero]; rfl
    rw [hc]
    by_cases h : whole hs (kor b 0) = true
    · obtain ⟨k, h1, h2, h3, h4⟩ := runF_up hs n (nxt b 1)
      refine ⟨k + 1, by omega, ?_, fun i hi => ?_, fun hk => ?_⟩
      · rw [if_pos h, h2, List.range_succ_eq_map, List.map_cons, List.map_map]
        congr 1
        apply List.map_congr_left
        intro i _
        simp only [Function.comp]
        rw [nxt_shift, shift_shift]
        congr 1
        omega
      · cases i with
        | zero => exact h
        | succ i =>
          have := h3 i (by omega)
          rw [nxt_shift, wh_shift] at this
          have e : (1 : Int) + (i : Int) = ((i + 1 : Nat) : Int) := by omega
          rwa [e] at this
      · have := h4 (by omega)
        rw [nxt_shift, wh_shift] at this
        have e : (1 : Int) + (k : Int) = ((k + 1 : Nat) : Int) := by omega
        rwa [e] at this
    · exact ⟨0, Nat.zero_le _, by rw [if_neg h]; rfl, fun i hi => by omega, fun _ => h⟩
theorem runF_dn (hs : List Bd) : ∀ (n : Nat) (b : Bd), ∃ k : Nat, k ≤ n ∧ runF hs n b (-1) = (List.range k).map (fun (i : Nat) => shift b (-(i : Int) - 1)) ∧ (∀ i : Nat, i < k → wh hs b (-(i : Int) - 1)) ∧ (k < n → ¬ wh hs b (-(k : Int) - 1))
  | 0, b => ⟨0, Nat.le_refl _, rfl, fun i h => by omega, fun h => by omega⟩
  | n + 1, b => by
    unfold runF
    have hc : cw b (-1) = kor b (-1) := by
      unfold cw
      rw [if_neg (by decide)]
      have := c0_kor b (-1)
      rwa [show (-1 : Int) + 1 = 0 from rfl, shift_zero] at this
    rw [hc]
    by_cases h : whole hs (kor b (-1)) = true
    · obtain ⟨k, h1, h2, h3, h4⟩ := runF_dn hs n (nxt b (-1))
      refine ⟨k + 1, by omega, ?_, fun i hi => ?_, fun hk => ?_⟩
      · rw [if_pos h, h2, List.range_succ_eq_map, List.map_cons, List.map_map]
        congr 1
        apply List.map_congr_left
        intro i _
        simp only [Function.comp]
        rw [nxt_shift, shift_shift]
        congr 1
        omega
      · cases i with
        | zero => exact h
        | succ i =>
          have := h3 i (by omega)
          rw [nxt_shift, wh_shift] at this
          have e : (-1 : Int) + (-(i : Int) - 1) = -((i + 1 : Nat) : Int) - 1 := by omega
          rwa [e] at this
      · have := h4 (by omega)
        rw [nxt_shift, wh_shift] at this
        have e : (-1 : Int) + (-(k : Int) - 1) = -((k + 1 : Nat) : Int) - 1 := by omega
        rwa [e] at this
    · exact ⟨0, Nat.zero_le _, by rw [if_neg h]; rfl, fun i hi => by omega, fun _ => h⟩
/-- the tear of b: from -k1 to k2 -/
structure TearIs (hs : List Bd) (b : Bd) (k1 k2 : Nat) : Prop where
  mem : ∀ x, x ∈ tearSet hs b ↔ ∃ i : Int, -(k1 : Int) ≤ i ∧ i ≤ k2 ∧ x = shift b i
  wh : ∀ i : Int, -(k1 : Int) ≤ i → i < k2 → wh hs b i
  hi : ¬ DL.wh hs b k2
  lo : ¬ DL.wh hs b (-(k1 : Int) - 1)
  len : (tearSet hs b).length = k1 + k2 + 1
  ris : Ris eB (tearSet hs b)
theorem pos_shift (b : Bd) (i : Int) : pos' (shift b i) = pos' b + i := by obtain ⟨r, x, y⟩ := b; cases r <;> simp [pos', shift]
theorem pos_in {b : Bd} (h : inF b.2) : 0 ≤ pos' b ∧ pos' b ≤ 7 := by
  obtain ⟨r, x, y⟩ := b
  obtain ⟨h1, h2, h3, h4⟩ := h
  cases r <;> simp [pos'] at * <;> omega
theorem tear_is {hs : List Bd} {b : Bd} (hR : InR hs) : ∃ k1 k2, TearIs hs b k1 k2 := by
  obtain ⟨k2, a1, a2, a3, a4⟩ := runF_up hs 16 b
  obtain ⟨k1, b1, b2, b3, b4⟩ := runF_dn hs 16 b
  have hk2 : k2 < 16 := by
    rcases Nat.lt_or_ge k2 16 with h | h
    · exact h
    · exfalso
      have h0 := (wh_mem (a3 0 (by omega))).2
      have h15 := (wh_mem (a3 15 (by omega))).2
      have p0 := pos_in (hR _ h0)
      have p15 := pos_in (hR _ h15)
      rw [pos_shift] at p0 p15
      simp at p0 p15
      omega
  have hk1 : k1 < 16 := by
    rcases Nat.lt_or_ge k1 16 with h | h
    · exact h
    · exfalso
      have h0 := (wh_mem (b3 0 (by omega))).1
      have h15 := (wh_mem (b3 15 (by omega))).1
      have p0 := pos_in (hR _ h0)
      have p15 := pos_in (hR _ h15)
      rw [pos_shift] at p0 p15
      simp at p0 p15
      omega
  have hlist : runOf hs b (-1) ++ [b] ++ runOf hs b 1 = (List.range k1).map (fun (i : Nat) => shift b (-(i : Int) - 1)) ++ [shift b 0] ++ (List.range k2).map (fun (i : Nat) => shift b ((i : Int) + 1)) := by
    unfold runOf; rw [a2, b2, shift_zero]
  have hnd : (runOf hs b (-1) ++ [b] ++ runOf hs b 1).Nodup := by
    rw [hlist, List.nodup_append, List.nodup_append]
    refine ⟨⟨List.Pairwise.map _ (fun i j h z => h (by have := shift_inj z; omega)) List.nodup_range, by simp, fun x hx y hy z => ?_⟩, List.Pairwise.map _ (fun i j h z => h (by have := shift_inj z; omega)) List.nodup_range, fun x hx y hy z => ?_⟩
    · obtain ⟨i, _, rfl⟩ := List.mem_map.mp hx
      rw [List.mem_singleton] at hy
      have := shift_inj (z.trans hy)
      omega
    · obtain ⟨j, _, rfl⟩ := List.mem_map.mp hy
      rcases List.mem_append.mp hx with hx | hx
      · obtain ⟨i, _, rfl⟩ := List.mem_map.mp hx
        have := shift_inj z
        omega
      · rw [List.mem_singleton] at hx
        have := shift_inj (hx.symm.trans z)
        omega
  refine ⟨k1, k2, fun x => ?_, fun i h1 h2 => ?_, a4 hk2, b4 hk1, ?_, ris_srt oinj_B hnd⟩
  · unfold tearSet
    rw [mem_srt, hlist]
    simp only [List.mem_append, List.mem_map, List.mem_range, List.mem_singleton]
    constructor
    · rintro ((⟨i, hi, rfl⟩ | rfl) | ⟨i, hi, rfl⟩)
      · exact ⟨_, by omega, by omega, rfl⟩
      · exact ⟨0, by omega, by omega, rfl⟩
      · exact ⟨_, by omega, by omega, rfl⟩
    · rintro ⟨i, h1, h2, rfl⟩
      rcases Int.lt_trichotomy i 0 with h | h | h
      · refine .inl (.inl ⟨(-i - 1).toNat, by omega, ?_⟩)
        congr 1
        omega
      · subst h; exact .inl (.inr rfl)
      · refine .inr ⟨(i - 1).toNat, by omega, ?_⟩
        congr 1
        omega
  · rcases Int.lt_or_le i 0 with h | h
    · have := b3 (-i - 1).toNat (by omega)
      have e : -(((-i - 1).toNat : Nat) : Int) - 1 = i := by omega
      rwa [e] at this
    · have := a3 i.toNat (by omega)
      have e : ((i.toNat : Nat) : Int) = i := by omega
      rwa [e] at this
  · unfold tearSet
    rw [srt_len, hlist]
    simp
    omega
section
variable {hs : List Bd} {b : Bd} {k1 k2 : Nat}
theorem TearIs.sub (T : TearIs hs b k1 k2) (hb : b ∈ hs) {x : Bd} (hx : x ∈ tearSet hs b) : x ∈ hs := by
  obtain ⟨i, h1, h2, rfl⟩ := (T.mem x).mp hx
  rcases Int.lt_or_le i k2 with h | h
  · exact (wh_mem (T.wh i h1 h)).1
  · have e : i = k2 := by omega
    subst e
    cases k2 with
    | zero => rw [show ((0 : Nat) : Int) = 0 from rfl, shift_zero]; exact hb
    | succ k =>
      have := (wh_mem (T.wh (k : Int) (by omega) (by omega))).2
      rwa [show (k : Int) + 1 = ((k + 1 : Nat) : Int) by omega] at this
/-- members of a tear: those between which all corners are whole -/
theorem TearIs.conn (T : TearIs hs b k1 k2) {j : Int} (h : ∀ i : Int, min 0 j ≤ i → i < max 0 j → DL.wh hs b i) : shift b j ∈ tearSet hs b := by
  refine (T.mem _).mpr ⟨j, ?_, ?_, rfl⟩
  · rcases Int.lt_or_le j (-(k1 : Int)) with q | q
    · exact (T.lo (h _ (by omega) (by omega))).elim
    · exact q
  · rcases Int.lt_or_le (k2 : Int) j with q | q
    · exact (T.hi (h _ (by omega) (by omega))).elim
    · exact q
end
theorem tear_self {hs : List Bd} {b : Bd} (hR : InR hs) : b ∈ tearSet hs b := mem_srt.mpr (by simp)
theorem tear_same {hs : List Bd} {b x : Bd} (hR : InR hs) (hx : x ∈ tearSet hs b) : tearSet hs x = tearSet hs b := by
  obtain ⟨k1, k2, T⟩ := tear_is (b := b) hR
  obtain ⟨l1, l2, U⟩ := tear_is (b := x) hR
  obtain ⟨j, h1, h2, rfl⟩ := (T.mem x).mp hx
  refine Ris.uniq oinj_B U.ris T.ris fun y => ?_
  have lo : (l1 : Int) = j + k1 := by
    rcases Int.lt_trichotomy (l1 : Int) (j + k1) with q | q | q
    · refine (U.lo ?_).elim
      rw [wh_shift]
      exact T.wh _ (by omega) (by omega)
    · exact q
    · refine (T.lo ?_).elim
      have := U.wh (-(k1 : Int) - 1 - j) (by omega) (by omega)
      rw [wh_shift] at this
      rwa [show j + (-(k1 : Int) - 1 - j) = -(k1 : Int) - 1 by omega] at this
  have hi : (l2 : Int) = k2 - j := by
    rcases Int.lt_trichotomy (l2 : Int) (k2 - j) with q | q | q
    · refine (U.hi ?_).elim
      rw [wh_shift]
      exact T.wh _ (by omega) (by omega)
    · exact q
    · refine (T.hi ?_).elim
      have := U.wh ((k2 : Int) - j) (by omega) (by omega)
      rw [wh_shift] at this
      rwa [show j + ((k2 : Int) - j) = k2 by omega] at this
  rw [U.mem, T.mem]
  constructor
  · rintro ⟨i, a, b, rfl⟩
    exact ⟨j + i, by omega, by omega, by rw [shift_shift]⟩
  · rintro ⟨i, a, b, rfl⟩
    exact ⟨i - j, by omega, by omega, by rw [shift_shift]; congr 1; omega⟩
theorem whole_mono {hs hs' : List Bd} {c : Fd} (h : ∀ b ∈ hs', b ∈ hs) (w : whole hs' c = true) : whole hs c = true := whole_iff.mpr fun x hx => h x (whole_iff.mp w x hx)
theorem tear_mono {hs hs' : List Bd} {b : Bd} (hR : InR hs) (h : ∀ b ∈ hs', b ∈ hs) {x : Bd} (hx : x ∈ tearSet hs' b) : x ∈ tearSet hs b := by
  obtain ⟨k1, k2, T⟩ := tear_is (hs := hs') (b := b) fun b hb => hR b (h b hb)
  obtain ⟨l1, l2, U⟩ := tear_is (b := b) hR
  obtain ⟨j, h1, h2, rfl⟩ := (T.mem x).mp hx
  exact U.conn fun i a c => whole_mono h (T.wh i (by omega) (by omega))
end DL

namespace DL

/-! ### a tear more: the measure -/
def less (hs t : List Bd) : List Bd := hs.filter fun b => !decide (b ∈ t)
theorem mem_less {hs t : List Bd} {b : Bd} : b ∈ less hs t ↔ b ∈ hs ∧ b ∉ t := by simp [less]
def wl (hs : List Bd) : List Fd := (cornL hs []).filter (whole hs)
theorem mem_wl {hs : List Bd} {c : Fd} : c ∈ wl hs ↔ whole hs c = true := by
  unfold wl
  rw [List.mem_filter, mem_cornL]
  constructor
  · exact fun h => h.2
  · intro h
    refine ⟨.inr ⟨(false, c.1 - 1, c.2 - 1), whole_iff.mp h _ (by simp [arnd]), .inr ?_⟩, h⟩
    obtain ⟨x, y⟩ := c
    simp [c1]
theorem wl_nodup (hs : List Bd) : (wl hs).Nodup := (cornL_nodup (by simp)).filter _
theorem perm_of {α : Type} [DecidableEq α] {l m : List α} (hl : l.Nodup) (hm : m.Nodup) (h : ∀ a, a ∈ l ↔ a ∈ m) : l.Perm m := (List.perm_ext_iff_of_nodup hl hm).mpr h
theorem less_len {hs t : List Bd} (hn : hs.Nodup) (ht : t.Nodup) (hs' : ∀ b ∈ t, b ∈ hs) : hs.length = (less hs t).length + t.length := by
  have p : hs.Perm (less hs t ++ t) := by
    refine perm_of hn ?_ fun a => ?_
    · rw [List.nodup_append]
      exact ⟨hn.filter _, ht, fun a ha b hb z => (mem_less.mp ha).2 (z ▸ hb)⟩
    · rw [List.mem_append, mem_less]
      by_cases h : a ∈ t
      · simp [h, hs' a h]
      · simp [h]
  rw [p.length_eq, List.length_append]
theorem corn_less {hs : List Bd} {b : Bd} {k1 k2 : Nat} (T : TearIs hs b k1 k2) : cornN hs = cornN (less hs (tearSet hs b)) + (k1 + k2) := by
  have p : (wl hs).Perm (wl (less hs (tearSet hs b)) ++ (List.range (k1 + k2)).map (fun (i : Nat) => kor b ((i : Int) - k1))) := by
    refine perm_of (wl_nodup hs) ?_ fun c => ?_
    · rw [List.nodup_append]
      refine ⟨wl_nodup _, List.Pairwise.map _ (fun i j h z => h (by have := kor_inj z; omega)) List.nodup_range, fun c hc d hd z => ?_⟩
      subst z
      obtain ⟨i, hi, rfl⟩ := List.mem_map.mp hd
      rw [List.mem_range] at hi
      have := whole_iff.mp (mem_wl.mp hc) _ (mem_arnd_kor b ((i : Int) - k1)).1
      exact (mem_less.mp this).2 ((T.mem _).mpr ⟨_, by omega, by omega, rfl⟩)
    · rw [List.mem_append, mem_wl, mem_wl, List.mem_map]
      constructor
      · intro h
        by_cases hx : ∃ x ∈ arnd c, x ∈ tearSet hs b
        · right
          obtain ⟨x, hxc, hxt⟩ := hx
          obtain ⟨j, h1, h2, rfl⟩ := (T.mem x).mp hxt
          rcases arnd_kor hxc with e | e
          · rw [kor_shift, Int.add_zero] at e
            subst e
            have hj : j ≠ k2 := fun z => T.hi (by rw [← z]; exact h)
            exact ⟨(j + k1).toNat, by rw [List.mem_range]; omega, by congr 1; omega⟩
          · rw [kor_shift] at e
            subst e
            have hj : j ≠ -(k1 : Int) := fun z => T.lo (by rw [z] at h; exact h)
            exact ⟨(j - 1 + k1).toNat, by rw [List.mem_range]; omega, by congr 1; omega⟩
        · left
          exact whole_iff.mpr fun x hxc => mem_less.mpr ⟨whole_iff.mp h x hxc, fun z => hx ⟨x, hxc, z⟩⟩
      · rintro (h | ⟨i, hi, rfl⟩)
        · exact whole_mono (fun b hb => (mem_less.mp hb).1) h
        · rw [List.mem_range] at hi
          exact T.wh _ (by omega) (by omega)
  have := p.length_eq
  rw [List.length_append, List.length_map, List.length_range] at this
  exact this
theorem meas_less {fs : List Fd} {hs : List Bd} {b : Bd} (hR : InR hs) (hn : hs.Nodup) (hb : b ∈ hs) : meas fs (less hs (tearSet hs b)) = meas fs hs + 1 := by
  obtain ⟨k1, k2, T⟩ := tear_is (b := b) hR
  have h1 := corn_less T
  have h2 := less_len hn T.ris.nodup fun x hx => T.sub hb hx
  rw [T.len] at h2
  unfold meas
  omega

/-! ### tears one by one -/
theorem tears_mem {hs pk t : List Bd} (hR : InR hs) : t ∈ tearsOf hs pk ↔ ∃ b, b ∈ hs ∧ t = tearSet hs b ∧ ∀ x ∈ t, x ∈ pk := by
  rw [mem_tearsOf]
  constructor
  · rintro ⟨b, _, h⟩
    obtain ⟨h1, h2, h3⟩ := tearAt_some h
    exact ⟨b, h1, h2, h3⟩
  · rintro ⟨b, h1, rfl, h3⟩
    refine ⟨b, h3 b (tear_self hR), ?_⟩
    unfold tearAt
    rw [if_pos h1, if_pos]
    rw [List.all_eq_true]
    exact fun x hx => by simpa using h3 x hx
theorem less_sub {hs t : List Bd} : ∀ b ∈ less hs t, b ∈ hs := fun b hb => (mem_less.mp hb).1
theorem InR.less {hs t : List Bd} (h : InR hs) : InR (less hs t) := fun b hb => h b (less_sub b hb)
theorem ris_less {hs t : List Bd} (h : Ris eB hs) : Ris eB (less hs t) := h.filter _
/-- tears made, one by one -/
inductive Steps (pk : List Bd) : Nat → List Bd → List Bd → Prop
  | nil {hs : List Bd} : Steps pk 0 hs hs
  | cons {n : Nat} {hs h2 t : List Bd} : t ∈ tearsOf hs pk → Steps pk n (less hs t) h2 → Steps pk (n + 1) hs h2
theorem Steps.snoc {pk : List Bd} {n : Nat} {hs h2 t : List Bd} (s : Steps pk n hs h2) (ht : t ∈ tearsOf h2 pk) : Steps pk (n + 1) hs (less h2 t) := by
  induction s with
  | nil => exact .cons ht .nil
  | cons h _ ih => exact .cons h (ih ht)
theorem Steps.append {pk : List Bd} {n m : Nat} {hs h2 h3 : List Bd} (s : Steps pk n hs h2) (u : Steps pk m h2 h3) : Steps pk (n + m) hs h3 := by
  induction s with
  | nil => rw [Nat.zero_add]; exact u
  | cons h _ ih => rw [Nat.add_right_comm]; exact .cons h (ih u)
theorem Steps.inR {pk : List Bd} {n : Nat} {hs h2 : List Bd} (s : Steps pk n hs h2) (h : InR hs) : InR h2 := by
  induction s with
  | nil => exact h
  | cons _ _ ih => exact ih h.less
theorem Steps.ris {pk : List Bd} {n : Nat} {hs h2 : List Bd} (s : Steps pk n hs h2) (h : Ris eB hs) : Ris eB h2 := by
  induction s with
  | nil => exact h
  | cons _ _ ih => exact ih (ris_less h)
theorem Steps.sub {pk : List Bd} {n : Nat} {hs h2 : List Bd} (s : Steps pk n hs h2) : ∀ b ∈ h2, b ∈ hs := by
  induction s with
  | nil => exact fun _ h => h
  | cons _ _ ih => exact fun b hb => less_sub b (ih b hb)
theorem Steps.gone {pk : List Bd} {n : Nat} {hs h2 : List Bd} (hR : InR hs) (s : Steps pk n hs h2) : ∀ b ∈ hs, b ∉ h2 → b ∈ pk := by
  induction s with
  | nil => exact fun b h1 h2 => (h2 h1).elim
  | @cons n hs h2 t h _ ih =>
    intro b hb hn
    by_cases ht : b ∈ t
    · obtain ⟨_, _, _, h3⟩ := (tears_mem hR).mp h
      exact h3 b ht
    · exact ih hR.less b (mem_less.mpr ⟨hb, ht⟩) hn
theorem Steps.meas {pk : List Bd} {n : Nat} {hs h2 : List Bd} {fs : List Fd} (hR : InR hs) (hr : Ris eB hs) (s : Steps pk n hs h2) : meas fs h2 = meas fs hs + n := by
  induction s with
  | nil => simp
  | @cons n hs h2 t h _ ih =>
    obtain ⟨b, hb, rfl, _⟩ := (tears_mem hR).mp h
    rw [ih hR.less (ris_less hr), meas_less hR hr.nodup hb]
    omega
theorem Steps.len {pk : List Bd} {n : Nat} {hs h2 : List Bd} (hR : InR hs) (hr : Ris eB hs) (s : Steps pk n hs h2) : h2.length + n ≤ hs.length := by
  induction s with
  | nil => simp
  | @cons n hs h2 t h _ ih =>
    obtain ⟨b, hb, rfl, _⟩ := (tears_mem hR).mp h
    obtain ⟨k1, k2, T⟩ := tear_is (b := b) hR
    have h2 := less_len hr.nodup T.ris.nodup fun x hx => T.sub hb hx
    rw [T.len] at h2
    have := ih hR.less (ris_less hr)
    omega
/-- what can be torn no more lies within whatever is left on the way -/
theorem Steps.keep {pk pk' : List Bd} {n : Nat} {hs h2 E : List Bd} (hR : InR hs) (hp : ∀ b ∈ pk, b ∈ pk') (s : Steps pk n hs h2) (hE : ∀ b ∈ E, b ∈ hs) (hend : tearsOf E pk' = []) : ∀ b ∈ E, b ∈ h2 := by
  induction s with
  | nil => exact hE
  | @cons n hs h2 t h _ ih =>
    refine ih hR.less fun x hx => mem_less.mpr ⟨hE x hx, fun hxt => ?_⟩
    obtain ⟨b, hb, rfl, h3⟩ := (tears_mem hR).mp h
    have hRE : InR E := fun b hb => hR b (hE b hb)
    have : tearSet E x ∈ tearsOf E pk' := (tears_mem hRE).mpr ⟨x, hx, rfl, fun y hy => hp y (h3 y (by
      rw [← tear_same hR hxt]
      exact tear_mono hR hE hy))⟩
    rw [hend] at this
    simp at this
/-- one end -/
theorem Steps.end {pk : List Bd} {n m : Nat} {hs h1 h2 : List Bd} (hR : InR hs) (hr : Ris eB hs) (s : Steps pk n hs h1) (u : Steps pk m hs h2) (e1 : tearsOf h1 pk = []) (e2 : tearsOf h2 pk = []) : h1 = h2 :=
  Ris.uniq oinj_B (s.ris hr) (u.ris hr) fun b => ⟨fun h => u.keep hR (fun _ h => h) s.sub e1 b h, fun h => s.keep hR (fun _ h => h) u.sub e2 b h⟩

/-! ### torn borders and hanging ones -/
theorem hang_less {fs : List Fd} {tn t tn' : List Bd} (h : ∀ b, b ∈ tn' ↔ b ∈ tn ∨ b ∈ t) : hang fs tn' = less (hang fs tn) t := by
  unfold hang less
  rw [List.filter_filter]
  congr 1
  funext b
  rw [Bool.eq_iff_iff]
  simp [h b]
  constructor
  · intro ⟨a, b⟩; exact ⟨b, a⟩
  · intro ⟨a, b⟩; exact ⟨b, a⟩
def tear1 (tn t : List Bd) : List Bd := srt eB (tn ++ t)
theorem torn_step {fs : List Fd} {ps tn t : List Bd} (V : Valid fs ps) (T : TornOk ps tn) (ht : t ∈ tearsOf (hang fs tn) ps) : TornOk ps (tear1 tn t) ∧ hang fs (tear1 tn t) = less (hang fs tn) t := by
  obtain ⟨b, hb, rfl, h3⟩ := (tears_mem (V.inR tn)).mp ht
  obtain ⟨k1, k2, U⟩ := tear_is (b := b) (V.inR tn)
  refine ⟨⟨ris_srt oinj_B ?_, fun x hx => ?_⟩, hang_less fun x => ?_⟩
  · rw [List.nodup_append]
    exact ⟨T.ris.nodup, U.ris.nodup, fun x hx y hy z => (mem_hang.mp (U.sub hb hy)).2 (z ▸ hx)⟩
  · rw [tear1, mem_srt, List.mem_append] at hx
    rcases hx with hx | hx
    · exact T.sub x hx
    · exact h3 x hx
  · rw [tear1, mem_srt, List.mem_append]
/-- the torn ones, told by what hangs -/
theorem torn_of {fs : List Fd} {ps tn : List Bd} (V : Valid fs ps) (T : TornOk ps tn) : ps.filter (fun b => !decide (b ∈ hang fs tn)) = tn := by
  refine Ris.uniq oinj_B (V.pris.filter _) T.ris fun b => ?_
  rw [List.mem_filter]
  simp only [Bool.not_eq_true', decide_eq_false_iff_not]
  constructor
  · rintro ⟨h1, h2⟩
    by_cases h : b ∈ tn
    · exact h
    · exact (h2 (mem_hang.mpr ⟨V.sub b h1, h⟩)).elim
  · intro h
    exact ⟨T.sub b h, fun z => (mem_hang.mp z).2 h⟩
theorem steps_torn {fs : List Fd} {ps tn : List Bd} (V : Valid fs ps) (T : TornOk ps tn) {n : Nat} {h2 : List Bd} (s : Steps ps n (hang fs tn) h2) : ∃ tn', TornOk ps tn' ∧ h2 = hang fs tn' := by
  generalize hh : hang fs tn = h1 at s
  induction s generalizing tn with
  | nil => exact ⟨tn, T, hh.symm⟩
  | @cons n hs h2 t h _ ih =>
    subst hh
    obtain ⟨a, b⟩ := torn_step V T h
    exact ih a b
theorem torn_nil (ps : List Bd) : TornOk ps [] := ⟨List.Pairwise.nil, by simp⟩
end DL

namespace DL

/-! ### two tears -/
theorem tears_disj {hs : List Bd} {a b : Bd} (hR : InR hs) {x : Bd} (h1 : x ∈ tearSet hs a) (h2 : x ∈ tearSet hs b) : tearSet hs a = tearSet hs b := by
  rw [← tear_same hR h1, ← tear_same hR h2]
theorem shift_fst (b : Bd) (i : Int) : (shift b i).1 = b.1 := by obtain ⟨r, x, y⟩ := b; cases r <;> rfl
/-- where the line of a crosses that of b -/
def crossC (a b : Bd) : Fd := if b.1 then (b.2.1 + 1, a.2.2 + 1) else (a.2.1 + 1, b.2.2 + 1)
theorem same_line {b x : Bd} {i : Int} (h : x ∈ arnd (kor b i)) (hx : x.1 = b.1) : x = shift b i ∨ x = shift b (i + 1) := by
  obtain ⟨r, u, v⟩ := b
  obtain ⟨r', u', v'⟩ := x
  simp only at hx
  subst hx
  cases r' <;> simp [arnd, kor, c1, shift] at h ⊢ <;> omega
theorem other_line {a b : Bd} {i j : Int} (h : shift a j ∈ arnd (kor b i)) (hx : a.1 ≠ b.1) : kor b i = crossC a b := by
  obtain ⟨r, u, v⟩ := b
  obtain ⟨r', u', v'⟩ := a
  cases r <;> cases r' <;> simp [arnd, kor, c1, shift, crossC] at h hx ⊢ <;> omega
theorem cut_one {hs : List Bd} {a b : Bd} {k1 k2 m1 m2 : Nat} (A : TearIs hs a m1 m2) (T : TearIs hs b k1 k2) (hd : ∀ x ∈ tearSet hs a, x ∉ tearSet hs b) {i : Int} (h1 : -(k1 : Int) ≤ i) (h2 : i < k2) (hc : kor b i ≠ crossC a b) :
    whole (less hs (tearSet hs a)) (kor b i) = true := by
  refine whole_iff.mpr fun x hx => mem_less.mpr ⟨whole_iff.mp (T.wh i h1 h2) x hx, fun hxa => ?_⟩
  obtain ⟨j, j1, j2, rfl⟩ := (A.mem x).mp hxa
  by_cases hl : a.1 = b.1
  · rcases same_line hx (by rw [shift_fst]; exact hl) with e | e
    · exact hd _ hxa ((T.mem _).mpr ⟨i, h1, by omega, e⟩)
    · exact hd _ hxa ((T.mem _).mpr ⟨i + 1, by omega, by omega, e⟩)
  · exact hc (other_line hx hl)
theorem cut_len {hs : List Bd} {a b : Bd} {k1 k2 m1 m2 : Nat} (A : TearIs hs a m1 m2) (T : TearIs hs b k1 k2) (hd : ∀ x ∈ tearSet hs a, x ∉ tearSet hs b) :
    cornN (less (less hs (tearSet hs a)) (tearSet hs b)) + (k1 + k2) ≤ cornN (less hs (tearSet hs a)) + 1 := by
  have hnd : ((List.range (k1 + k2)).map (fun (i : Nat) => kor b ((i : Int) - k1))).Nodup := List.Pairwise.map _ (fun i j h z => h (by have := kor_inj z; omega)) List.nodup_range
  have hl : ((List.range (k1 + k2)).map (fun (i : Nat) => kor b ((i : Int) - k1))).length ≤ (((List.range (k1 + k2)).map (fun (i : Nat) => kor b ((i : Int) - k1))).erase (crossC a b)).length + 1 := by
    by_cases hm : crossC a b ∈ (List.range (k1 + k2)).map (fun (i : Nat) => kor b ((i : Int) - k1))
    · rw [List.length_erase_of_mem hm]; omega
    · rw [List.erase_of_not_mem hm]; omega
  rw [List.length_map, List.length_range] at hl
  have hsub : (wl (less (less hs (tearSet hs a)) (tearSet hs b)) ++ ((List.range (k1 + k2)).map (fun (i : Nat) => kor b ((i : Int) - k1))).erase (crossC a b)).length ≤ (wl (less hs (tearSet hs a))).length := by
    refine len_le_of_nodup ?_ fun c hc => ?_
    · rw [List.nodup_append]
      refine ⟨wl_nodup _, hnd.erase _, fun c hc d hd' z => ?_⟩
      subst z
      obtain ⟨i, hi, rfl⟩ := List.mem_map.mp (List.mem_of_mem_erase hd')
      rw [List.mem_range] at hi
      have := whole_iff.mp (mem_wl.mp hc) _ (mem_arnd_kor b ((i : Int) - k1)).1
      exact (mem_less.mp this).2 ((T.mem _).mpr ⟨_, by omega, by omega, rfl⟩)
    · rcases List.mem_append.mp hc with h | h
      · exact mem_wl.mpr (whole_mono (fun b hb => (mem_less.mp hb).1) (mem_wl.mp h))
      · obtain ⟨hne, hm⟩ := (hnd.mem_erase_iff).mp h
        obtain ⟨i, hi, rfl⟩ := List.mem_map.mp hm
        rw [List.mem_range] at hi
        exact mem_wl.mpr (cut_one A T hd (by omega) (by omega) hne)
  rw [List.length_append] at hsub
  unfold cornN
  show (wl _).length + _ ≤ (wl _).length + 1
  omega
theorem less_comm {hs t u : List Bd} : less (less hs t) u = less (less hs u) t := by
  unfold less
  rw [List.filter_filter, List.filter_filter]
  congr 1
  funext b
  rw [Bool.and_comm]
/-- at most two parts -/
theorem cut_two {fs : List Fd} {hs : List Bd} {a b : Bd} (hR : InR hs) (hn : hs.Nodup) (ha : a ∈ hs) (hb : b ∈ hs) (hd : ∀ x ∈ tearSet hs a, x ∉ tearSet hs b) :
    meas fs (less (less hs (tearSet hs a)) (tearSet hs b)) ≤ meas fs (less hs (tearSet hs a)) + 2 := by
  obtain ⟨m1, m2, A⟩ := tear_is (b := a) hR
  obtain ⟨k1, k2, T⟩ := tear_is (b := b) hR
  have h1 := cut_len A T hd
  have h2 := less_len (hs := less hs (tearSet hs a)) (hn.filter _) T.ris.nodup fun x hx => mem_less.mpr ⟨T.sub hb hx, fun z => hd x z hx⟩
  rw [T.len] at h2
  unfold meas
  omega
end DL

namespace DL
open PySem PySem.Spec PyProof.Rows L2
@[simp] theorem atI_zero (a : D) (r : List D) : atI (a :: r) 0 = some a := atI_nn (by decide)
@[simp] theorem atI_one (a b : D) (r : List D) : atI (a :: b :: r) 1 = some b := atI_nn (by decide)
theorem less_nil (hs : List Bd) : less hs [] = hs := by unfold less; simp

/-! ### first_row -/
def rowF (pk : List Bd) : Nat → List Bd → List Bd × List Bd
  | 0, hs => ([], hs)
  | n + 1, hs => match tearsOf hs pk with
    | [] => ([], hs)
    | t :: _ => (t.headD default :: (rowF pk n (less hs t)).1, (rowF pk n (less hs t)).2)
def rowOf (pk hs : List Bd) : List Bd := (rowF pk hs.length hs).1
def endOf (pk hs : List Bd) : List Bd := (rowF pk hs.length hs).2
theorem rowF_nil {pk hs : List Bd} (n : Nat) (h : tearsOf hs pk = []) : rowF pk n hs = ([], hs) := by
  cases n with
  | zero => rfl
  | succ n => unfold rowF; rw [h]
theorem rowF_cons {pk hs t : List Bd} {ts : List (List Bd)} (n : Nat) (h : tearsOf hs pk = t :: ts) : rowF pk (n + 1) hs = (t.headD default :: (rowF pk n (less hs t)).1, (rowF pk n (less hs t)).2) := by
  conv => lhs; unfold rowF
  rw [h]
theorem tear_len {pk hs t : List Bd} (hR : InR hs) (hr : Ris eB hs) (h : t ∈ tearsOf hs pk) : (less hs t).length + 1 ≤ hs.length ∧ t ≠ [] ∧ t.Nodup ∧ ∀ b ∈ t, b ∈ hs := by
  obtain ⟨b, hb, rfl, _⟩ := (tears_mem hR).mp h
  obtain ⟨k1, k2, T⟩ := tear_is (b := b) hR
  have h2 := less_len hr.nodup T.ris.nodup fun x hx => T.sub hb hx
  rw [T.len] at h2
  exact ⟨by omega, tearSet_ne hs b, T.ris.nodup, fun x hx => T.sub hb hx⟩
theorem rowF_steps {pk : List Bd} : ∀ (n : Nat) (hs : List Bd), InR hs → Ris eB hs → hs.length ≤ n → Steps pk (rowF pk n hs).1.length hs (rowF pk n hs).2 ∧ tearsOf (rowF pk n hs).2 pk = []
  | 0, hs, hR, hr, hl => by
    have : hs = [] := List.length_eq_zero_iff.mp (by omega)
    subst this
    refine ⟨.nil, ?_⟩
    cases h : tearsOf [] pk with
    | nil => exact h
    | cons t ts =>
      obtain ⟨b, hb, _⟩ := (tears_mem (t := t) hR).mp (by rw [h]; simp)
      simp at hb
  | n + 1, hs, hR, hr, hl => by
    cases h : tearsOf hs pk with
    | nil => rw [rowF_nil _ h]; exact ⟨.nil, h⟩
    | cons t ts =>
      rw [rowF_cons n h]
      have ht : t ∈ tearsOf hs pk := by rw [h]; simp
      have hlen := (tear_len hR hr ht).1
      obtain ⟨a, b⟩ := rowF_steps n (less hs t) hR.less (ris_less hr) (by omega)
      exact ⟨.cons ht a, b⟩
theorem tears_nil (pk : List Bd) : tearsOf [] pk = [] := by
  cases h : tearsOf [] pk with
  | nil => rfl
  | cons t ts =>
    obtain ⟨b, hb, _⟩ := (tears_mem (hs := []) (t := t) (pk := pk) (fun _ h => by simp at h)).mp (by rw [h]; simp)
    simp at hb
theorem rowF_stab1 {pk : List Bd} : ∀ (k : Nat) (hs : List Bd), InR hs → Ris eB hs → hs.length ≤ k → rowF pk k hs = rowF pk (k + 1) hs
  | 0, hs, hR, hr, hl => by
    have : hs = [] := List.length_eq_zero_iff.mp (by omega)
    subst this
    rw [rowF_nil _ (tears_nil pk), rowF_nil _ (tears_nil pk)]
  | k + 1, hs, hR, hr, hl => by
    cases h : tearsOf hs pk with
    | nil => rw [rowF_nil _ h, rowF_nil _ h]
    | cons t ts =>
      have hlen := (tear_len hR hr (t := t) (pk := pk) (by rw [h]; simp)).1
      rw [rowF_cons k h, rowF_cons (k + 1) h, rowF_stab1 k _ hR.less (ris_less hr) (by omega)]
theorem rowF_stab {pk : List Bd} {hs : List Bd} (hR : InR hs) (hr : Ris eB hs) : ∀ d : Nat, rowF pk (hs.length + d) hs = rowF pk hs.length hs
  | 0 => rfl
  | d + 1 => by rw [← Nat.add_assoc, ← rowF_stab1 (hs.length + d) hs hR hr (by omega), rowF_stab hR hr d]
theorem rowF_at {pk : List Bd} {hs t : List Bd} {ts : List (List Bd)} (hR : InR hs) (hr : Ris eB hs) (h : tearsOf hs pk = t :: ts) : rowF pk hs.length hs = (t.headD default :: (rowF pk (less hs t).length (less hs t)).1, (rowF pk (less hs t).length (less hs t)).2) := by
  have hlen := (tear_len hR hr (t := t) (pk := pk) (by rw [h]; simp)).1
  obtain ⟨d, hd⟩ : ∃ d, hs.length = (less hs t).length + d + 1 := ⟨hs.length - (less hs t).length - 1, by omega⟩
  rw [hd, rowF_cons _ h, rowF_stab hR.less (ris_less hr) d]
theorem ddel_dT (ks : List D) (k : D) : ddel (dT ks) k = dT (ks.filter fun x => decide (x ≠ k)) := by
  unfold ddel dT
  rw [List.filter_map]
  rfl
theorem del_eB (hs : List Bd) (b : Bd) : (hs.map eB).filter (fun x => decide (x ≠ eB b)) = (hs.filter fun x => decide (x ≠ b)).map eB := by
  rw [List.filter_map]
  congr 1
  apply List.filter_congr
  intro x _
  simp only [Function.comp]
  rw [Bool.eq_iff_iff]
  simp
  exact ⟨fun h z => h (z ▸ rfl), fun h z => h (eB_inj z)⟩
structure RowSp (S S' : Store) (pf : Addr) (l : List Bd) : Prop where
  e : Ext S S'
  f : S pf = none
  at_ : S' pf = some (.lst (l.map eB))
def sp_first_row : DSp := fun args S Q _ => ∃ fs ps tn, args = [eS fs ps, eT tn] ∧ Valid fs ps ∧ TornOk ps tn ∧
  ∀ S' pf, RowSp S S' pf (rowOf ps (hang fs tn)) → Q (.tup [.loc pf, eT (ps.filter fun b => !decide (b ∈ endOf ps (hang fs tn)))]) S'
def n_first_row : List Str := ["sheet", "torn", "hanging", "pricks", "found", "some", "border", "gone"]
def l_first_row_1 (W : DWX) : DTS := (dFor (dIter (dOp rIxD (dVar 5) (dC (.int 0)))) (gN 6) (dDrop (dBM "dict" rPopK (dVar 2) (dCons (dVar 6) dNil))))
def l_first_row_2 (W : DWX) : DTS := (dWhile (dTr (dVar 5)) (dSeq (dDrop (dBM "list" rAppD (dVar 4) (dCons (dOp rIxD (dOp rIxD (dVar 5) (dC (.int 0))) (dC (.int 0))) dNil)))
  (dSeq (l_first_row_1 W)
  (dAsg (dCall sp_tears_of W (dCons (dVar 2) (dCons (dVar 3) dNil))) (gN 5)))))
def t_first_row (W : DWX) : DTS := (dSeq (dAsg (dTup (dCons (dCall sp_hanging_of W (dCons (dVar 0) (dCons (dVar 1) dNil))) (dCons (dCall sp_pricks_of W (dCons (dVar 0) dNil)) dNil))) (gT 2 (gsCons (gN 2) (gsCons (gN 3) gsNil))))
  (dSeq (dAsg (dLst dNil) (gN 4))
  (dSeq (dAsg (dCall sp_tears_of W (dCons (dVar 2) (dCons (dVar 3) dNil))) (gN 5))
  (dSeq (l_first_row_2 W)
  (dSeq (dAsg (dCB rTupD (dCons (dLc (dIter (dOp rIxD (dVar 0) (dC (.int 1)))) (gN 6) (dB (dOp rNinD (dVar 6) (dVar 2))) (dVar 6) [6]) dNil)) (gN 7))
  (dRet (dTup (dCons (dVar 4) (dCons (dVar 7) dNil)))))))))
theorem len_first_row : Ln 2 sp_first_row := fun _ _ _ _ ⟨_, _, _, h, _⟩ => by rw [h]; rfl
theorem inner_first_row {W : DWX} {S0 : Store} {ph p5 : Addr} {s0 s1 s3 s4 s7 o : Option D} {n : Nat} {hs t : List Bd} {ts : List (List Bd)} (hn : t.Nodup) (hsub : ∀ b ∈ t, b ∈ hs) (hph : S0 ph = none) {S : Store} (he : Ext S0 S) (h1 : S ph = some (.dic n (dT (hs.map eB)))) (h5 : S p5 = some (.lst ((t :: ts).map eT))) {E : DEnds}
    (hE : ∀ o n S', Ext S0 S' → ExtX ph S S' → S' ph = some (.dic n (dT ((less hs t).map eB))) → E.nx [s0, s1, some (.loc ph), s3, s4, some (.loc p5), o, s7] S') :
    l_first_row_1 W E [s0, s1, some (.loc ph), s3, s4, some (.loc p5), o, s7] S := by
  unfold l_first_row_1
  refine dFor_inv (ds := t.map eB) (G := fun _ => True) (S1 := S) (fun R h => ?_)
    (fun rest σ S' => ∃ (done gs : List Bd) (o : Option D) (n : Nat), rest = gs.map eB ∧ t = done ++ gs ∧ σ = [s0, s1, some (.loc ph), s3, s4, some (.loc p5), o, s7] ∧ Ext S0 S' ∧ ExtX ph S S' ∧ S' ph = some (.dic n (dT ((less hs done).map eB))))
    ⟨[], t, o, n, rfl, rfl, rfl, he, ExtX.of (Ext.refl S), by rw [h1, less_nil]⟩ ?_ ?_
  · simp [h5, eT]
    exact h
  · rintro σ S' ⟨done, gs, o, n, q1, q2, rfl, e2, x2, g2⟩
    have : gs = [] := by cases gs with | nil => rfl | cons _ _ => simp at q1
    subst this
    rw [List.append_nil] at q2
    subst q2
    exact ⟨trivial, hE o n S' e2 x2 g2⟩
  · rintro x rest σ S' ⟨done, gs, o, n, q1, q2, rfl, e2, x2, g2⟩
    refine ⟨trivial, fun N hN => ?_⟩
    cases gs with
    | nil => simp at q1
    | cons b gs =>
      simp only [List.map_cons, List.cons.injEq] at q1
      obtain ⟨rfl, rfl⟩ := q1
      have hbd : b ∉ done := fun z => by
        rw [q2, List.nodup_append] at hn
        exact hn.2.2 b z b List.mem_cons_self rfl
      have hbm : b ∈ less hs done := mem_less.mpr ⟨hsub b (by rw [q2]; simp), hbd⟩
      simp [tyD, g2, dget_dT, mem_eB, hbm]
      intro n'
      rw [ddel_dT, del_eB]
      refine hN _ _ ⟨done ++ [b], gs, some (eB b), n', rfl, by rw [q2]; simp, rfl, e2.putN hph, x2.trans ExtX.put, ?_⟩
      rw [put_same]
      congr 3
      unfold less
      rw [List.filter_filter]
      congr 1
      apply List.filter_congr
      intro x _
      rw [Bool.eq_iff_iff]
      simp
      exact ⟨fun ⟨a, c⟩ => ⟨c, a⟩, fun ⟨a, c⟩ => ⟨c, a⟩⟩
theorem rd_first_row : Rd n_first_row t_first_row sp_first_row := fun {args S Q Ed} h => by
  obtain ⟨fs, ps, tn, rfl, V, T, hQ⟩ := h
  have hfew := V.few
  have hpl := V.plen
  have htl := T.len V
  have hhl := hang_len fs tn
  simp [t_first_row, n_first_row]
  refine ⟨_, ⟨fs, ps, tn, rfl, V.fris.nodup, by omega, T.ris.nodup, by omega, rfl⟩, fun S1 ph n e1 hph h1 => ?_⟩
  refine ⟨_, ⟨fs, ps, rfl, V.pris.nodup, by omega, rfl⟩, fun S2 pp m e2 hpp h2 => ?_⟩
  intro pf hpf
  have e12 := e1.trans e2
  have h1' := Ext.new (o := .lst []) hpf _ _ (e2 _ _ h1)
  have h2' := Ext.new (o := .lst []) hpf _ _ h2
  have e3 := e12.trans (Ext.new (o := .lst []) hpf)
  have g3 : put S2 pf (.lst []) pf = some (.lst []) := put_same
  have hpfS := e12.free hpf
  have hppS : S pp = none := e1.free hpp
  generalize put S2 pf (.lst []) = S3 at h1' h2' e3 g3
  refine ⟨_, ⟨ph, n, hang fs tn, pp, m, ps, rfl, h1', h2', V.inR tn, by omega, rfl⟩, fun S4 p5 e4 hp5 h5 => ?_⟩
  have hpne : ph ≠ pp := fun z => by rw [z] at h1; rw [h1] at hpp; cases hpp
  unfold l_first_row_2
  refine whileN_inv (n := (hang fs tn).length) (fun k σ S' => ∃ (hs acc : List Bd) (n : Nat) (p5 : Addr) (o : Option D), σ = [some (eS fs ps), some (eT tn), some (.loc ph), some (.loc pp), some (.loc pf), some (.loc p5), o, none] ∧ k = hs.length ∧ Ext S S' ∧ S' ph = some (.dic n (dT (hs.map eB))) ∧ S' pp = some (.dic m (dT (ps.map eB))) ∧ S' pf = some (.lst (acc.map eB)) ∧ S' p5 = some (.lst ((tearsOf hs ps).map eT)) ∧
      InR hs ∧ Ris eB hs ∧ acc ++ (rowF ps hs.length hs).1 = rowOf ps (hang fs tn) ∧ (rowF ps hs.length hs).2 = endOf ps (hang fs tn) ∧ (∀ b ∈ hs, b ∈ hang fs tn) ∧ p5 ≠ pf) ?_
    ⟨hang fs tn, [], n, p5, none, rfl, rfl, e3.trans e4, e4 _ _ h1', e4 _ _ h2', e4 _ _ g3, h5, V.inR tn, hang_ris V.fris.nodup, rfl, rfl, fun _ h => h, fun z => by rw [z, g3] at hp5; cases hp5⟩
  rintro k σ S' ⟨hs, acc, n, p5, o, rfl, rfl, e5, q1, q2, q3, q4, hR, hr, hrow, hend, hsub, h54⟩ N hN
  have hsl : hs.length ≤ 1000 := by have := len_le_of_nodup hr.nodup hsub; omega
  have hacc : acc.length ≤ 1000 := by
    have := congrArg List.length hrow
    have h2 := (rowF_steps (pk := ps) _ _ (V.inR tn) (hang_ris (tn := tn) V.fris.nodup) (Nat.le_refl _)).1.len (V.inR tn) (hang_ris V.fris.nodup)
    rw [List.length_append] at this
    unfold rowOf at this
    omega
  simp [q4]
  cases ht : tearsOf hs ps with
  | nil =>
    simp
    rw [rowF_nil _ ht] at hrow hend
    refine dLc_flt (fun _ _ => eB_inj) (l := ps) (fun b => !decide (b ∈ hs)) (fun R hR' => ?_) (by simp) (fun b hb S'' e K hK => ?_) (fun S6 q e6 hq => ?_)
    · simp [eS, at1]
      exact hR' S' _ (Ext.refl _) fun _ _ => trivial
    · have hg := e _ _ q1
      simp [hg, dget_dT, mem_eB]
      have := hK S'' (Ext.refl _)
      by_cases hb : b ∈ hs
      · simp [hb] at this ⊢; exact this
      · simp [hb] at this ⊢; exact this
    · simp [put_same]
      have e : hs = endOf ps (hang fs tn) := hend
      rw [e]
      refine hQ _ pf ⟨(e5.trans e6).trans (Ext.new hq), hpfS, ?_⟩
      have := Ext.new (o := .lst ((ps.filter fun b => !decide (b ∈ endOf ps (hang fs tn))).map eB)) hq _ _ (e6 _ _ q3)
      rw [this, ← hrow]
      simp
  | cons t ts =>
    have htm : t ∈ tearsOf hs ps := by rw [ht]; simp
    obtain ⟨hlen, hne, hnd, hts⟩ := tear_len hR hr htm
    rw [ht] at q4
    obtain ⟨b0, t', rfl⟩ : ∃ b0 t', t = b0 :: t' := by cases t with | nil => exact (hne rfl).elim | cons a b => exact ⟨a, b, rfl⟩
    simp [tyD, q3, q4, eT]
    refine ⟨by omega, ?_⟩
    have hpfph : ph ≠ pf := ne_get q1 q3 (by simp)
    have hpfpp : pp ≠ pf := ne_get q2 q3 (by simp)
    have hphS : S ph = none := hph
    refine inner_first_row (S0 := S) (hs := hs) (t := b0 :: t') (ts := ts) hnd hts hphS (e5.putN hpfS) (get_put q1 hpfph) (get_put q4 h54) fun o n' S6 e6 x6 q6 => ?_
    have q6p : S6 pp = some (.dic m (dT (ps.map eB))) := x6 _ _ hpne.symm (get_put q2 hpfpp)
    have q6f : S6 pf = some (.lst (acc.map eB ++ [eB b0])) := x6 _ _ hpfph.symm put_same
    simp
    refine ⟨_, ⟨ph, n', _, pp, m, ps, rfl, q6, q6p, hR.less, by omega, rfl⟩, fun S7 p7 e7 hp7 h7 => ?_⟩
    have hat := rowF_at hR hr ht
    rw [hat] at hrow hend
    refine hN (less hs (b0 :: t')).length _ _ (by omega) ⟨less hs (b0 :: t'), acc ++ [b0], n', p7, o, rfl, rfl, e6.trans e7, e7 _ _ q6, e7 _ _ q6p, by rw [e7 _ _ q6f]; simp, h7, hR.less, ris_less hr, ?_, hend, fun b hb => hsub b (less_sub b hb), fun z => by rw [z, q6f] at hp7; cases hp7⟩
    rw [← hrow]
    simp
end DL

namespace DL
open PySem PySem.Spec PyProof.Rows L2

/-! ### ends -/
/-- what is torn at the end -/
def due (fs : List Fd) (ps tn : List Bd) : List Bd := ps.filter fun b => !decide (b ∈ endOf ps (hang fs tn))
theorem end_torn_ok {fs : List Fd} {ps tn : List Bd} (V : Valid fs ps) (T : TornOk ps tn) : TornOk ps (due fs ps tn) ∧ hang fs (due fs ps tn) = endOf ps (hang fs tn) ∧ tearsOf (hang fs (due fs ps tn)) ps = [] ∧ Steps ps (rowOf ps (hang fs tn)).length (hang fs tn) (hang fs (due fs ps tn)) := by
  obtain ⟨s, e⟩ := rowF_steps (pk := ps) _ _ (V.inR tn) (hang_ris (tn := tn) V.fris.nodup) (Nat.le_refl _)
  obtain ⟨tn', T', h'⟩ := steps_torn V T s
  have h1 : endOf ps (hang fs tn) = hang fs tn' := h'
  have h2 : due fs ps tn = tn' := by
    unfold due
    rw [h1]
    exact torn_of V T'
  rw [h2]
  refine ⟨T', h1.symm, ?_, ?_⟩
  · rw [← h1]; exact e
  · rw [← h1]; exact s
def sp_end_torn : DSp := spV fun args _ v => ∃ fs ps, args = [eS fs ps] ∧ Valid fs ps ∧ v = eT (due fs ps [])
def n_end_torn : List Str := ["sheet"]
def t_end_torn (W : DWX) : DTS := (dRet (dOp rIxD (dCall sp_first_row W (dCons (dVar 0) (dCons (dTup dNil) dNil))) (dC (.int 1))))
theorem len_end_torn : Ln 1 sp_end_torn := fun _ _ _ _ ⟨_, ⟨_, _, h, _⟩, _⟩ => by rw [h]; rfl
theorem rd_end_torn : Rd n_end_torn t_end_torn sp_end_torn := fun {args S Q Ed} h => by
  obtain ⟨v, ⟨fs, ps, rfl, V, rfl⟩, hQ⟩ := h
  simp [t_end_torn, n_end_torn]
  exact ⟨fs, ps, [], rfl, V, torn_nil ps, fun S' pf r => by simp; exact hQ S' r.e⟩
def sp_end : DSp := sp_end_torn
def n_end : List Str := ["sheet"]
def t_end (W : DWX) : DTS := (dSeq (dDrop (dCall sp_look W (dCons (dVar 0) dNil)))
  (dRet (dCall sp_end_torn W (dCons (dVar 0) dNil))))
theorem len_end : Ln 1 sp_end := len_end_torn
theorem rd_end : Rd n_end t_end sp_end := fun {args S Q Ed} h => by
  obtain ⟨v, ⟨fs, ps, rfl, V, rfl⟩, hQ⟩ := h
  simp [t_end, n_end]
  exact ⟨_, ⟨fs, ps, rfl, V, rfl⟩, fun S1 e1 => ⟨_, ⟨fs, ps, rfl, V, rfl⟩, fun S2 e2 => hQ S2 (e1.trans e2)⟩⟩
def sp_end_pieces : DSp := spL fun args _ ds => ∃ fs ps, args = [eS fs ps] ∧ Valid fs ps ∧ ds = (parts fs (hang fs (due fs ps []))).map eL
def n_end_pieces : List Str := ["sheet"]
def t_end_pieces (W : DWX) : DTS := (dSeq (dDrop (dCall sp_look W (dCons (dVar 0) dNil)))
  (dRet (dCall sp_pieces_of W (dCons (dVar 0) (dCons (dCall sp_end_torn W (dCons (dVar 0) dNil)) dNil)))))
theorem len_end_pieces : Ln 1 sp_end_pieces := fun _ _ _ _ ⟨_, ⟨_, _, h, _⟩, _⟩ => by rw [h]; rfl
theorem rd_end_pieces : Rd n_end_pieces t_end_pieces sp_end_pieces := fun {args S Q Ed} h => by
  obtain ⟨v, ⟨fs, ps, rfl, V, rfl⟩, hQ⟩ := h
  have T := (end_torn_ok V (torn_nil ps)).1
  have := V.few
  have := T.len V
  simp [t_end_pieces, n_end_pieces]
  refine ⟨_, ⟨fs, ps, rfl, V, rfl⟩, fun S1 e1 => ⟨_, ⟨fs, ps, rfl, V, rfl⟩, fun S2 e2 => ?_⟩⟩
  exact ⟨_, ⟨fs, ps, _, rfl, V.fris, by omega, T.ris.nodup, by omega, rfl⟩, fun S3 p e3 hp h3 => hQ S3 p (e1.trans (e2.trans e3)) ((e1.trans e2).free hp) h3⟩
def leftN (fs : List Fd) (ps tn : List Bd) : Int := meas fs (hang fs (due fs ps tn)) - meas fs (hang fs tn)
def sp_left_of : DSp := spV fun args _ v => ∃ fs ps tn, args = [eS fs ps, eT tn] ∧ Valid fs ps ∧ TornOk ps tn ∧ v = .int (leftN fs ps tn)
def n_left_of : List Str := ["sheet", "torn", "last"]
def t_left_of (W : DWX) : DTS := (dSeq (dAsg (dOp rIxD (dCall sp_first_row W (dCons (dVar 0) (dCons (dVar 1) dNil))) (dC (.int 1))) (gN 2))
  (dRet (dOp (rI2 fun i j => .int (i - j)) (dCall sp_measure_of W (dCons (dOp rIxD (dVar 0) (dC (.int 0))) (dCons (dCall sp_hanging_of W (dCons (dVar 0) (dCons (dVar 2) dNil))) dNil))) (dCall sp_measure_of W (dCons (dOp rIxD (dVar 0) (dC (.int 0))) (dCons (dCall sp_hanging_of W (dCons (dVar 0) (dCons (dVar 1) dNil))) dNil))))))
theorem len_left_of : Ln 2 sp_left_of := fun _ _ _ _ ⟨_, ⟨_, _, _, h, _⟩, _⟩ => by rw [h]; rfl
theorem rd_left_of : Rd n_left_of t_left_of sp_left_of := fun {args S Q Ed} h => by
  obtain ⟨v, ⟨fs, ps, tn, rfl, V, T, rfl⟩, hQ⟩ := h
  have T' := (end_torn_ok V T).1
  have := V.few
  have := T.len V
  have := T'.len V
  have := hang_len fs tn
  have := hang_len fs (due fs ps tn)
  simp [t_left_of, n_left_of]
  refine ⟨fs, ps, tn, rfl, V, T, fun S1 pf r => ?_⟩
  simp [eS]
  refine ⟨_, ⟨fs, ps, due fs ps tn, rfl, V.fris.nodup, by omega, T'.ris.nodup, by omega, rfl⟩, fun S2 ph n e2 hph h2 => ?_⟩
  refine ⟨_, ⟨fs, ph, n, _, rfl, h2, by omega, rfl⟩, fun S3 e3 => ?_⟩
  simp
  refine ⟨_, ⟨fs, ps, tn, rfl, V.fris.nodup, by omega, T.ris.nodup, by omega, rfl⟩, fun S4 ph' n' e4 hph' h4 => ?_⟩
  refine ⟨_, ⟨fs, ph', n', _, rfl, h4, by omega, rfl⟩, fun S5 e5 => ?_⟩
  simp
  exact hQ S5 (r.e.trans (e2.trans (e3.trans (e4.trans e5))))
def sp_left : DSp := sp_left_of
def n_left : List Str := ["sheet", "torn"]
def t_left (W : DWX) : DTS := (dSeq (dDrop (dCall sp_look_torn W (dCons (dVar 0) (dCons (dVar 1) dNil))))
  (dRet (dCall sp_left_of W (dCons (dVar 0) (dCons (dVar 1) dNil)))))
theorem len_left : Ln 2 sp_left := len_left_of
theorem rd_left : Rd n_left t_left sp_left := fun {args S Q Ed} h => by
  obtain ⟨v, ⟨fs, ps, tn, rfl, V, T, rfl⟩, hQ⟩ := h
  simp [t_left, n_left]
  exact ⟨_, ⟨fs, ps, tn, rfl, V, T, rfl⟩, fun S1 e1 => ⟨_, ⟨fs, ps, tn, rfl, V, T, rfl⟩, fun S2 e2 => hQ S2 (e1.trans e2)⟩⟩
def sp_row : DSp := spL fun args _ ds => ∃ fs ps, args = [eS fs ps] ∧ Valid fs ps ∧ ds = (rowOf ps (hang fs [])).map eB
def n_row : List Str := ["sheet"]
def t_row (W : DWX) : DTS := (dSeq (dDrop (dCall sp_look W (dCons (dVar 0) dNil)))
  (dRet (dOp rIxD (dCall sp_first_row W (dCons (dVar 0) (dCons (dTup dNil) dNil))) (dC (.int 0)))))
theorem len_row : Ln 1 sp_row := fun _ _ _ _ ⟨_, ⟨_, _, h, _⟩, _⟩ => by rw [h]; rfl
theorem rd_row : Rd n_row t_row sp_row := fun {args S Q Ed} h => by
  obtain ⟨v, ⟨fs, ps, rfl, V, rfl⟩, hQ⟩ := h
  simp [t_row, n_row]
  exact ⟨_, ⟨fs, ps, rfl, V, rfl⟩, fun S1 e1 => ⟨fs, ps, [], rfl, V, torn_nil ps, fun S' pf r => by simp; exact hQ S' pf (e1.trans r.e) (e1.free r.f) r.at_⟩⟩
def sp_idle : DSp := spL fun args _ ds => ∃ fs ps, args = [eS fs ps] ∧ Valid fs ps ∧ ds = (ps.filter fun b => !decide (b ∈ due fs ps [])).map eB
def n_idle : List Str := ["sheet", "gone", "border"]
def t_idle (W : DWX) : DTS := (dSeq (dDrop (dCall sp_look W (dCons (dVar 0) dNil)))
  (dSeq (dAsg (dCall sp_end_torn W (dCons (dVar 0) dNil)) (gN 1))
  (dRet (dLc (dIter (dOp rIxD (dVar 0) (dC (.int 1)))) (gN 2) (dB (dOp rNinD (dVar 2) (dVar 1))) (dVar 2) [2]))))
theorem len_idle : Ln 1 sp_idle := fun _ _ _ _ ⟨_, ⟨_, _, h, _⟩, _⟩ => by rw [h]; rfl
theorem rd_idle : Rd n_idle t_idle sp_idle := fun {args S Q Ed} h => by
  obtain ⟨v, ⟨fs, ps, rfl, V, rfl⟩, hQ⟩ := h
  simp [t_idle, n_idle]
  refine ⟨_, ⟨fs, ps, rfl, V, rfl⟩, fun S1 e1 => ⟨_, ⟨fs, ps, rfl, V, rfl⟩, fun S2 e2 => ?_⟩⟩
  refine dLc_flt (fun _ _ => eB_inj) (l := ps) (fun b => !decide (b ∈ due fs ps [])) (fun R hR' => ?_) (by simp) (fun b hb S'' e K hK => ?_) (fun S6 q e6 hq => ?_)
  · simp [eS]
    exact hR' S2 _ (Ext.refl _) fun _ _ => trivial
  · simp [eT, pl_B, pl_Bs 7, mem_eB]
    have := hK S'' (Ext.refl _)
    by_cases hb : b ∈ due fs ps []
    · simp [hb] at this ⊢; exact this
    · simp [hb] at this ⊢; exact this
  · exact hQ _ q ((e1.trans (e2.trans e6)).trans (Ext.new hq)) ((e1.trans (e2.trans e6)).free hq) put_same

/-- a row whose borders lie in tears then -/
def goRow (pk : List Bd) : List Bd → List Bd → Option (List Bd)
  | hs, [] => some hs
  | hs, b :: r => match tearAt hs pk b with
    | some t => goRow pk (less hs t) r
    | none => none
end DL

namespace DL
open PySem PySem.Spec PyProof.Rows L2

/-! ### the law's draws -/
def sp__law_cell : DSp := fun args S Q _ => ∃ (a : Addr) (ns : List Int) (k : Int), args = [.loc a, .int k] ∧ S a = some (.scr ns) ∧ 0 ≤ k ∧ ∀ i S', Ext S S' → Q (.int i) S'
def n__law_cell : List Str := ["script", "k"]
def t__law_cell (W : DWX) : DTS := (dSeq (dIfS (dB (dOp (rI2 fun i j => .bl (decide (i < j))) (dVar 1) (dCB rLenD (dCons (dVar 0) dNil)))) (dRet (dOp rIxD (dVar 0) (dVar 1))) dNext)
  (dRet (dC (.int 0))))
theorem len__law_cell : Ln 2 sp__law_cell := fun _ _ _ _ ⟨_, _, _, h, _⟩ => by rw [h]; rfl
theorem rd__law_cell : Rd n__law_cell t__law_cell sp__law_cell := fun {args S Q Ed} h => by
  obtain ⟨a, ns, k, rfl, ha, hk, hQ⟩ := h
  simp [t__law_cell, n__law_cell, ha]
  by_cases h : k < (ns.length : Int)
  · have e : atI (ns.map D.int) k = some (.int (ns[k.toNat]'(by omega))) := by
      rw [atI_nn hk, List.getElem?_map, List.getElem?_eq_getElem (by omega)]
      rfl
    simp [h, e]
    exact hQ _ S (Ext.refl S)
  · simp [h]
    exact hQ _ S (Ext.refl S)
def Draws (dr : List Int) : Prop := dr.length = 60 ∧ ∀ x ∈ dr, 0 ≤ x ∧ x < 1000
def sp__law_row : DSp := fun args S Q _ => ∃ (a : Addr) (ns : List Int) (k : Int), args = [.loc a, .int k] ∧ S a = some (.scr ns) ∧ 0 ≤ k ∧ ∀ dr S' p, Draws dr → Ext S S' → S p = none → S' p = some (.lst (dr.map D.int)) → Q (.loc p) S'
def n__law_row : List Str := ["script", "at", "cell", "found", "time"]
def l__law_row_1 (W : DWX) : DTS := (dFor (dRng1 (dCons (dC (.int 60)) dNil)) (gN 4) (dIfS (dB (dOp (rI2 fun i j => .bl (decide (i < j))) (dCall sp__law_cell W (dCons (dVar 0) (dCons (dVar 1) dNil))) (dOp rPowI (dC (.int 10)) (dC (.int 18))))) (dSeq (dAsg (dOp rModI (dOp rCatD (dOp rCatD (dOp rCatD (dOp rMulI (dVar 2) (dC (.int 48271))) (dOp rMulI (dC (.int 131)) (dVar 4))) (dC (.int 7))) (dCall sp__law_cell W (dCons (dVar 0) (dCons (dOp rModI (dOp rCatD (dOp rCatD (dVar 1) (dC (.int 1))) (dVar 4)) (dC (.int 20))) dNil)))) (dC (.int 2147483647))) (gN 2))
  (dDrop (dBM "list" rAppD (dVar 3) (dCons (dOp rModI (dOp rDivI (dVar 2) (dC (.int 11))) (dC (.int 1000))) dNil)))) (dSeq (dDrop (dBM "list" rAppD (dVar 3) (dCons (dOp rModI (dVar 2) (dC (.int 1000))) dNil)))
  (dAsg (dOp rDivI (dVar 2) (dC (.int 1000))) (gN 2)))))
def t__law_row (W : DWX) : DTS := (dSeq (dAsg (dCall sp__law_cell W (dCons (dVar 0) (dCons (dVar 1) dNil))) (gN 2))
  (dSeq (dAsg (dLst dNil) (gN 3))
  (dSeq (l__law_row_1 W)
  (dRet (dVar 3)))))
theorem len__law_row : Ln 2 sp__law_row := fun _ _ _ _ ⟨_, _, _, h, _⟩ => by rw [h]; rfl
theorem rd__law_row : Rd n__law_row t__law_row sp__law_row := fun {args S Q Ed} h => by
  obtain ⟨a, ns, k, rfl, ha, hk, hQ⟩ := h
  simp [t__law_row, n__law_row]
  refine ⟨a, ns, k, rfl, ha, hk, fun c0 S1 e1 => ?_⟩
  intro pf hpf
  have e2 := e1.trans (Ext.new (o := .lst []) hpf)
  have g2 : put S1 pf (.lst []) pf = some (.lst []) := put_same
  have hpfS := e1.free hpf
  generalize put S1 pf (.lst []) = S2 at e2 g2
  unfold l__law_row_1
  refine dFor_inv (ds := (List.range 60).map fun (i : Nat) => D.int (i : Int)) (G := fun _ => True) (S1 := S2) (fun R h => ?_)
    (fun rest σ S' => ∃ (m : Nat) (c : Int) (o : Option D) (acc : List Int), rest = ((List.range 60).map fun (i : Nat) => D.int (i : Int)).drop m ∧ m ≤ 60 ∧ σ = [some (.loc a), some (.int k), some (.int c), some (.loc pf), o] ∧ Ext S S' ∧ S' pf = some (.lst (acc.map D.int)) ∧ acc.length = m ∧ ∀ x ∈ acc, 0 ≤ x ∧ x < 1000)
    ⟨0, c0, none, [], rfl, by omega, rfl, e2, g2, rfl, by simp⟩ ?_ ?_
  · simp [dRng1]
    exact h
  · rintro σ S' ⟨m, c, o, acc, q1, q2, rfl, q3, q4, q5, q6⟩
    have hm : m = 60 := by
      have := congrArg List.length q1
      simp at this
      omega
    refine ⟨trivial, ?_⟩
    simp
    exact hQ acc S' pf ⟨by omega, q6⟩ q3 hpfS q4
  · rintro x rest σ S' ⟨m, c, o, acc, q1, q2, rfl, q3, q4, q5, q6⟩
    refine ⟨trivial, fun N hN => ?_⟩
    have hm : m < 60 := by
      rcases Nat.lt_or_ge m 60 with h | h
      · exact h
      · rw [List.drop_eq_nil_of_le (by simp; omega)] at q1; cases q1
    have hd : ((List.range 60).map fun (i : Nat) => D.int (i : Int)).drop m = D.int (m : Int) :: ((List.range 60).map fun (i : Nat) => D.int (i : Int)).drop (m + 1) := by
      rw [List.drop_eq_getElem_cons (by simp; omega)]
      simp
    rw [hd, List.cons.injEq] at q1
    obtain ⟨rfl, rfl⟩ := q1
    simp
    refine ⟨a, ns, k, rfl, q3 _ _ ha, hk, fun c1 S3 e3 => ?_⟩
    have hpow : CPow 10 18 := ⟨by decide, by decide, by decide⟩
    simp [hpow]
    by_cases hc : c1 < 1000000000000000000
    · have m1 : CMul c 48271 := .inr ⟨by decide, by decide⟩
      have m2 : CMul 131 (m : Int) := .inl ⟨by decide, by decide⟩
      simp [hc, m1, m2]
      refine ⟨a, ns, _, rfl, e3 _ _ (q3 _ _ ha), by omega, fun c2 S4 e4 => ?_⟩
      have g4 := (e3.trans e4) _ _ q4
      have d1 : ∀ z, CDiv z 11 := fun z => ⟨by decide, by decide⟩
      simp [tyD, g4, d1]
      refine ⟨by omega, hN _ _ ⟨m + 1, _, some (.int m), acc ++ [(c * 48271 + 131 * (m : Int) + 7 + c2) % 2147483647 / 11 % 1000], rfl, by omega, rfl, (q3.trans (e3.trans e4)).putN hpfS, by rw [put_same]; simp, by simp; omega, fun x hx => ?_⟩⟩
      rcases List.mem_append.mp hx with hx | hx
      · exact q6 x hx
      · rw [List.mem_singleton] at hx; subst hx; omega
    · have g3 := e3 _ _ q4
      have d1 : ∀ z, CDiv z 1000 := fun z => ⟨by decide, by decide⟩
      simp [hc, tyD, g3, d1]
      refine ⟨by omega, hN _ _ ⟨m + 1, _, some (.int m), acc ++ [c % 1000], rfl, by omega, rfl, (q3.trans e3).putN hpfS, by rw [put_same]; simp, by simp; omega, fun x hx => ?_⟩⟩
      rcases List.mem_append.mp hx with hx | hx
      · exact q6 x hx
      · rw [List.mem_singleton] at hx; subst hx; omega

/-! ### fields beside, borders between -/
def sides (f : Fd) : List Fd := [(f.1 + 1, f.2), (f.1 - 1, f.2), (f.1, f.2 + 1), (f.1, f.2 - 1)]
def sp__law_sides : DSp := spL fun args _ ds => ∃ f, args = [eF f] ∧ ds = (sides f).map eF
def n__law_sides : List Str := ["field", "x", "y"]
def t__law_sides (W : DWX) : DTS := (dSeq (dAsg (dVar 0) (gT 2 (gsCons (gN 1) (gsCons (gN 2) gsNil))))
  (dRet (dLst (dCons (dTup (dCons (dOp rCatD (dVar 1) (dC (.int 1))) (dCons (dVar 2) dNil))) (dCons (dTup (dCons (dOp (rI2 fun i j => .int (i - j)) (dVar 1) (dC (.int 1))) (dCons (dVar 2) dNil))) (dCons (dTup (dCons (dVar 1) (dCons (dOp rCatD (dVar 2) (dC (.int 1))) dNil))) (dCons (dTup (dCons (dVar 1) (dCons (dOp (rI2 fun i j => .int (i - j)) (dVar 2) (dC (.int 1))) dNil))) dNil)))))))
theorem len__law_sides : Ln 1 sp__law_sides := fun _ _ _ _ ⟨_, ⟨_, h, _⟩, _⟩ => by rw [h]; rfl
theorem rd__law_sides : Rd n__law_sides t__law_sides sp__law_sides := fun {args S Q Ed} h => by
  obtain ⟨v, ⟨⟨x, y⟩, rfl, rfl⟩, hQ⟩ := h
  simp [t__law_sides, n__law_sides, eF]
  intro p hp
  exact hQ _ p (Ext.new hp) hp put_same
def sp__law_inner : DSp := spL fun args _ ds => ∃ fs : List Fd, args = [.tup (fs.map eF)] ∧ fs.length ≤ 1000 ∧ ds = (bordersOf fs).map eB
def n__law_inner : List Str := ["fields", "found", "x", "y"]
def l__law_inner_1 (W : DWX) : DTS := (dFor (dIter (dVar 0)) (gT 2 (gsCons (gN 2) (gsCons (gN 3) gsNil))) (dSeq (dIfS (dB (dOp rInD (dTup (dCons (dVar 2) (dCons (dOp rCatD (dVar 3) (dC (.int 1))) dNil))) (dVar 0))) (dDrop (dBM "list" rAppD (dVar 1) (dCons (dTup (dCons (dC (.str "down")) (dCons (dVar 2) (dCons (dVar 3) dNil)))) dNil))) dNext)
  (dIfS (dB (dOp rInD (dTup (dCons (dOp rCatD (dVar 2) (dC (.int 1))) (dCons (dVar 3) dNil))) (dVar 0))) (dDrop (dBM "list" rAppD (dVar 1) (dCons (dTup (dCons (dC (.str "right")) (dCons (dVar 2) (dCons (dVar 3) dNil)))) dNil))) dNext)))
def t__law_inner (W : DWX) : DTS := (dSeq (dAsg (dLst dNil) (gN 1))
  (dSeq (l__law_inner_1 W)
  (dRet (dCB rSortD (dCons (dVar 1) dNil)))))
theorem len__law_inner : Ln 1 sp__law_inner := fun _ _ _ _ ⟨_, ⟨_, h, _⟩, _⟩ => by rw [h]; rfl
def both (fs : List Fd) (f : Fd) : List Bd := (if oth (false, f) ∈ fs then [(false, f)] else []) ++ (if oth (true, f) ∈ fs then [(true, f)] else [])
theorem both_len (fs : List Fd) : ∀ l : List Fd, (l.flatMap (both fs)).length ≤ 2 * l.length
  | [] => by simp
  | f :: l => by
    have := both_len fs l
    have h2 : (both fs f).length ≤ 2 := by unfold both; split <;> split <;> simp
    simp only [List.flatMap_cons, List.length_append, List.length_cons]
    omega
theorem both_perm (fs : List Fd) : ∀ l : List Fd, (l.flatMap (both fs)).Perm (((l.filter fun f => decide (oth (false, f) ∈ fs)).map fun f => (false, f)) ++ ((l.filter fun f => decide (oth (true, f) ∈ fs)).map fun f => (true, f)))
  | [] => by simp
  | f :: l => by
    have ih := both_perm fs l
    rw [List.flatMap_cons]
    unfold both
    by_cases h1 : oth (false, f) ∈ fs <;> by_cases h2 : oth (true, f) ∈ fs
    · simp only [h1, h2, if_true, List.filter_cons, decide_true, List.map_cons, List.cons_append, List.nil_append]
      refine List.Perm.cons _ ?_
      refine (List.Perm.cons _ ih).trans ?_
      exact List.perm_middle.symm
    · simp only [h1, h2, if_true, if_false, List.filter_cons, decide_true, decide_false, List.map_cons, List.cons_append, List.nil_append, List.append_nil]
      exact List.Perm.cons _ ih
    · simp only [h1, h2, if_true, if_false, List.filter_cons, decide_true, decide_false, List.map_cons, List.cons_append, List.nil_append]
      exact (List.Perm.cons _ ih).trans List.perm_middle.symm
    · simp only [h1, h2, if_false, List.filter_cons, decide_false, List.nil_append]
      exact ih
theorem rd__law_inner : Rd n__law_inner t__law_inner sp__law_inner := fun {args S Q Ed} h => by
  obtain ⟨v, ⟨fs, rfl, hl, rfl⟩, hQ⟩ := h
  simp [t__law_inner, n__law_inner]
  intro pf hpf
  have e2 := Ext.new (o := .lst []) hpf
  have g2 : put S pf (.lst []) pf = some (.lst []) := put_same
  generalize put S pf (.lst []) = S2 at e2 g2
  unfold l__law_inner_1
  refine dFor_inv (ds := fs.map eF) (G := fun _ => True) (S1 := S2) (fun R h => h)
    (fun rest σ S' => ∃ (done gs : List Fd) (a b : Option D), rest = gs.map eF ∧ fs = done ++ gs ∧ σ = [some (.tup (fs.map eF)), some (.loc pf), a, b] ∧ Ext S S' ∧ S' pf = some (.lst ((done.flatMap (both fs)).map eB)))
    ⟨[], fs, none, none, rfl, rfl, rfl, e2, g2⟩ ?_ ?_
  · rintro σ S' ⟨done, gs, a, b, q1, q2, rfl, q3, q4⟩
    have : gs = [] := by cases gs with | nil => rfl | cons _ _ => simp at q1
    subst this
    rw [List.append_nil] at q2
    subst q2
    refine ⟨trivial, ?_⟩
    simp [rSortD, q4]
    refine ⟨sort_B _, fun p hp => ?_⟩
    rw [dsort_map, srt_eq oinj_B (both_perm fs fs)]
    exact hQ _ p (q3.trans (Ext.new hp)) (q3.free hp) put_same
  · rintro x rest σ S' ⟨done, gs, a, b, q1, q2, rfl, q3, q4⟩
    refine ⟨trivial, fun N hN => ?_⟩
    cases gs with
    | nil => simp at q1
    | cons f gs =>
      obtain ⟨x', y'⟩ := f
      simp only [List.map_cons, List.cons.injEq] at q1
      obtain ⟨rfl, rfl⟩ := q1
      have hdl : (done.flatMap (both fs)).length ≤ 2000 := by
        have h1 := both_len fs done
        have := congrArg List.length q2
        simp at this
        omega
      have fin : ∀ S3, Ext S S3 → S3 pf = some (.lst (((done ++ [(x', y')]).flatMap (both fs)).map eB)) → N [some (.tup (fs.map eF)), some (.loc pf), some (.int x'), some (.int y')] S3 := fun S3 e3 q => hN _ _ ⟨done ++ [(x', y')], gs, _, _, rfl, by rw [q2]; simp, rfl, e3, q⟩
      have hF : D.tup [.int x', .int (y' + 1)] = eF (oth (false, x', y')) := rfl
      have hT : D.tup [.int (x' + 1), .int y'] = eF (oth (true, x', y')) := rfl
      have hpF := pl_F (oth (false, x', y'))
      have hpT := pl_F (oth (true, x', y'))
      simp [eF] at fin ⊢
      rw [hF, hT, hpF, hpT]
      have hm : ∀ g : Fd, eF g ∈ fs.map eF ↔ g ∈ fs := fun g => mem_eF
      simp [pl_Fs 7, pl_F]
      have hpl : ∀ (a b : Int), (a, b) ∈ fs → D.pl 8 (D.tup [D.int a, D.int b]) = true := fun a b _ => pl_F (a, b)
      refine ⟨hpl, ?_⟩
      have o1 : oth (false, x', y') = (x', y' + 1) := rfl
      have o2 : oth (true, x', y') = (x' + 1, y') := rfl
      by_cases h1 : (x', y' + 1) ∈ fs <;> by_cases h2 : (x' + 1, y') ∈ fs
      · simp [h1, h2, tyD, q4, put_same, -List.length_flatMap]
        refine ⟨by omega, hpl, by omega, fin _ ((q3.putN hpf).putN hpf) ?_⟩
        rw [put_same]
        simp [both, o1, o2, h1, h2, eB, wd]
      · simp [h1, h2, tyD, q4, put_same, -List.length_flatMap]
        refine ⟨by omega, hpl, fin _ (q3.putN hpf) ?_⟩
        rw [put_same]
        simp [both, o1, o2, h1, h2, eB, wd]
      · simp [h1, h2, tyD, q4, put_same, -List.length_flatMap]
        refine ⟨hpl, by omega, fin _ (q3.putN hpf) ?_⟩
        rw [put_same]
        simp [both, o1, o2, h1, h2, eB, wd]
      · simp [h1, h2, tyD, q4, put_same, -List.length_flatMap]
        refine ⟨hpl, fin _ q3 ?_⟩
        rw [q4]
        simp [both, o1, o2, h1, h2, eB, wd]
def sp__law_hang : DSp := spL fun args _ ds => ∃ fs ps tn, args = [eS fs ps, eT tn] ∧ fs.length ≤ 1000 ∧ ds = (hang fs tn).map eB
def n__law_hang : List Str := ["sheet", "torn", "border"]
def t__law_hang (W : DWX) : DTS := (dRet (dLc (dIter (dCall sp__law_inner W (dCons (dOp rIxD (dVar 0) (dC (.int 0))) dNil))) (gN 2) (dB (dOp rNinD (dVar 2) (dVar 1))) (dVar 2) [2]))
theorem len__law_hang : Ln 2 sp__law_hang := fun _ _ _ _ ⟨_, ⟨_, _, _, h, _⟩, _⟩ => by rw [h]; rfl
theorem rd__law_hang : Rd n__law_hang t__law_hang sp__law_hang := fun {args S Q Ed} h => by
  obtain ⟨v, ⟨fs, ps, tn, rfl, hl, rfl⟩, hQ⟩ := h
  simp only [t__law_hang, n__law_hang, dRet]
  refine dLc_flt (fun _ _ => eB_inj) (l := bordersOf fs) (fun b => !decide (b ∈ tn)) (fun R hR => ?_) (by simp) (fun b hb S' e K hK => ?_) (fun S4 q e4 hq => ?_)
  · simp [eS]
    refine ⟨_, ⟨fs, rfl, hl, rfl⟩, fun S3 pb e3 _ h3 => ?_⟩
    simp [h3]
    exact hR S3 _ e3 fun S' e => e _ _ h3
  · simp [eT, pl_B, pl_Bs 7, mem_eB]
    have := hK S' (Ext.refl _)
    by_cases hb : b ∈ tn
    · simp [hb] at this ⊢; exact this
    · simp [hb] at this ⊢; exact this
  · exact hQ _ q (e4.trans (Ext.new hq)) (e4.free hq) put_same
def sp__law_full : DSp := spV fun args S v => ∃ ph hs x y, args = [.loc ph, .int x, .int y] ∧ S ph = some (.lst (hs.map eB)) ∧ v = .bl (whole hs (x + 1, y + 1))
def n__law_full : List Str := ["hanging", "x", "y", "four", "border"]
def t__law_full (W : DWX) : DTS := (dSeq (dAsg (dLst (dCons (dTup (dCons (dC (.str "right")) (dCons (dVar 1) (dCons (dVar 2) dNil)))) (dCons (dTup (dCons (dC (.str "right")) (dCons (dVar 1) (dCons (dOp rCatD (dVar 2) (dC (.int 1))) dNil)))) (dCons (dTup (dCons (dC (.str "down")) (dCons (dVar 1) (dCons (dVar 2) dNil)))) (dCons (dTup (dCons (dC (.str "down")) (dCons (dOp rCatD (dVar 1) (dC (.int 1))) (dCons (dVar 2) dNil)))) dNil))))) (gN 3))
  (dRet (dOp rEqD (dLc (dIter (dVar 3)) (gN 4) (dB (dOp rNinD (dVar 4) (dVar 0))) (dVar 4) [4]) (dLst dNil))))
theorem len__law_full : Ln 3 sp__law_full := fun _ _ _ _ ⟨_, ⟨_, _, _, _, h, _⟩, _⟩ => by rw [h]; rfl
def four (x y : Int) : List Bd := [(true, x, y), (true, x, y + 1), (false, x, y), (false, x + 1, y)]
theorem four_whole {hs : List Bd} {x y : Int} : ((four x y).filter fun b => !decide (b ∈ hs)) = [] ↔ whole hs (x + 1, y + 1) = true := by
  rw [List.filter_eq_nil_iff, whole_iff]
  have e1 : x + 1 - 1 = x := by omega
  have e2 : y + 1 - 1 = y := by omega
  simp [four, arnd, e1, e2]
  constructor
  · rintro ⟨a, b, c, d⟩; exact ⟨c, d, a, b⟩
  · rintro ⟨a, b, c, d⟩; exact ⟨c, d, a, b⟩
theorem rd__law_full : Rd n__law_full t__law_full sp__law_full := fun {args S Q Ed} h => by
  obtain ⟨v, ⟨ph, hs, x, y, rfl, hph, rfl⟩, hQ⟩ := h
  simp [t__law_full, n__law_full]
  intro p4 hp4
  have e2 := Ext.new (o := .lst ((four x y).map eB)) hp4
  have g2 : put S p4 (.lst ((four x y).map eB)) p4 = some (.lst ((four x y).map eB)) := put_same
  show dLc _ _ _ _ _ [some (.loc ph), some (.int x), some (.int y), some (.loc p4), none] (put S p4 (.lst ((four x y).map eB))) _
  generalize put S p4 (.lst ((four x y).map eB)) = S2 at e2 g2
  refine dLc_flt (fun _ _ => eB_inj) (l := four x y) (fun b => !decide (b ∈ hs)) (fun R hR => ?_) (by simp) (fun b hb S' e K hK => ?_) (fun S4 q e4 hq => ?_)
  · simp [g2]
    exact hR S2 _ (Ext.refl _) fun S' e => e _ _ g2
  · have hg := (e2.trans e) _ _ hph
    simp [hg, pl_B, pl_Bs 7, mem_eB]
    have := hK S' (Ext.refl _)
    by_cases hb : b ∈ hs
    · simp [hb] at this ⊢; exact this
    · simp [hb] at this ⊢; exact this
  · intro p5 hp5
    have g4 : put (put S4 q (.lst (((four x y).filter fun b => !decide (b ∈ hs)).map eB))) p5 (.lst []) q = some (.lst (((four x y).filter fun b => !decide (b ∈ hs)).map eB)) := put_get hp5 put_same
    simp only [eqOk, eqV, g4, put_same]
    refine ⟨by simp [pl_Bs 7, pl_B], ?_⟩
    have hq := hQ _ ((e2.trans e4).trans ((Ext.new (o := .lst (((four x y).filter fun b => !decide (b ∈ hs)).map eB)) hq).trans (Ext.new (o := .lst []) hp5)))
    have e : decide (((four x y).filter fun b => !decide (b ∈ hs)).map eB = []) = whole hs (x + 1, y + 1) := by
      rw [Bool.eq_iff_iff, decide_eq_true_eq, ← four_whole]
      simp only [List.map_eq_nil_iff]
    rw [e]
    exact hq
end DL

namespace DL
open PySem PySem.Spec PyProof.Rows L2

/-! ### fields that hang together -/
def Conn (fs : List Fd) : Prop := ∀ f ∈ fs, ∀ g ∈ fs, Reach (bordersOf fs) f g
theorem side_adj {l : List Fd} {f g : Fd} (hf : f ∈ l) (hg : g ∈ l) (h : g ∈ sides f) : Adj (bordersOf l) f g := by
  obtain ⟨x, y⟩ := f
  simp [sides] at h
  rcases h with rfl | rfl | rfl | rfl
  · exact ⟨(true, x, y), mem_bordersOf.mpr ⟨hf, hg⟩, .inl ⟨rfl, rfl⟩⟩
  · refine ⟨(true, x - 1, y), mem_bordersOf.mpr ⟨hg, ?_⟩, .inr ⟨rfl, ?_⟩⟩
    · simp [oth]; exact hf
    · simp [oth]
  · exact ⟨(false, x, y), mem_bordersOf.mpr ⟨hf, hg⟩, .inl ⟨rfl, rfl⟩⟩
  · refine ⟨(false, x, y - 1), mem_bordersOf.mpr ⟨hg, ?_⟩, .inr ⟨rfl, ?_⟩⟩
    · simp [oth]; exact hf
    · simp [oth]
theorem sides_nodup (f : Fd) : (sides f).Nodup := by
  obtain ⟨x, y⟩ := f
  simp [sides]
  omega
theorem conn_of {l : List Fd} {f : Fd} (h : ∀ g ∈ l, Reach (bordersOf l) f g) : Conn l := fun a ha b hb => (h a ha).symm.trans (h b hb)
theorem conn_perm {l m : List Fd} (hx : ∀ f, f ∈ l ↔ f ∈ m) (h : Conn l) : Conn m := fun f hf g hg => (h f ((hx f).mpr hf) g ((hx g).mpr hg)).mono fun b hb => by
  rw [mem_bordersOf] at hb ⊢
  exact ⟨(hx _).mp hb.1, (hx _).mp hb.2⟩
theorem full_of_len {l m : List Fd} (hl : l.Nodup) (hs : ∀ a ∈ l, a ∈ m) (hlen : l.length = m.length) : ∀ a ∈ m, a ∈ l := fun a ha => by
  by_cases h : a ∈ l
  · exact h
  · have := len_le_of_nodup (l := a :: l) (m := m) (List.nodup_cons.mpr ⟨h, hl⟩) fun b hb => by
      rcases List.mem_cons.mp hb with rfl | hb
      · exact ha
      · exact hs b hb
    simp at this
    omega
theorem rIn_F {S : Store} {a : Addr} {l : List Fd} {g : Fd} {Q : DQ} (h : S a = some (.lst (l.map eF))) (q : Q (.bl (decide (g ∈ l))) S) : rInD (eF g) (.loc a) S Q := by
  simp only [rInD, inOk, inV, h, pl_F, pl_Fs 7, mem_eF]
  exact ⟨rfl, q⟩
theorem rNin_F {S : Store} {a : Addr} {l : List Fd} {g : Fd} {Q : DQ} (h : S a = some (.lst (l.map eF))) (q : Q (.bl (!decide (g ∈ l))) S) : rNinD (eF g) (.loc a) S Q := by
  simp only [rNinD, inOk, inV, h, pl_F, pl_Fs 7, mem_eF]
  exact ⟨rfl, q⟩
theorem rIn_B {S : Store} {a : Addr} {l : List Bd} {g : Bd} {Q : DQ} (h : S a = some (.lst (l.map eB))) (q : Q (.bl (decide (g ∈ l))) S) : rInD (eB g) (.loc a) S Q := by
  simp only [rInD, inOk, inV, h, pl_B, pl_Bs 7, mem_eB]
  exact ⟨rfl, q⟩
theorem rNin_B {S : Store} {a : Addr} {l : List Bd} {g : Bd} {Q : DQ} (h : S a = some (.lst (l.map eB))) (q : Q (.bl (!decide (g ∈ l))) S) : rNinD (eB g) (.loc a) S Q := by
  simp only [rNinD, inOk, inV, h, pl_B, pl_Bs 7, mem_eB]
  exact ⟨rfl, q⟩
def sp__law_joined : DSp := fun args S Q _ => ∃ (pl : Addr) (l : List Fd), args = [.loc pl] ∧ S pl = some (.lst (l.map eF)) ∧ l ≠ [] ∧ l.Nodup ∧ l.length ≤ 1000 ∧ ∀ b S', (b = true → Conn l) → Ext S S' → Q (.bl b) S'
def n__law_joined : List Str := ["fields", "found", "at", "other"]
def l__law_joined_1 (W : DWX) : DTS := (dWhile (dB (dOp (rI2 fun i j => .bl (decide (i < j))) (dVar 2) (dCB rLenD (dCons (dVar 1) dNil)))) (dSeq (dAsg (dOp rCatD (dVar 1) (dLc (dIter (dCall sp__law_sides W (dCons (dOp rIxD (dVar 1) (dVar 2)) dNil))) (gN 3) (dAnd (dB (dOp rInD (dVar 3) (dVar 0))) (dB (dOp rNinD (dVar 3) (dVar 1)))) (dVar 3) [3])) (gN 1))
  (dAsg (dOp rCatD (dVar 2) (dC (.int 1))) (gN 2))))
def t__law_joined (W : DWX) : DTS := (dSeq (dAsg (dLst (dCons (dOp rIxD (dVar 0) (dC (.int 0))) dNil)) (gN 1))
  (dSeq (dAsg (dC (.int 0)) (gN 2))
  (dSeq (l__law_joined_1 W)
  (dRet (dOp rEqD (dCB rLenD (dCons (dVar 1) dNil)) (dCB rLenD (dCons (dVar 0) dNil)))))))
theorem len__law_joined : Ln 1 sp__law_joined := fun _ _ _ _ ⟨_, _, h, _⟩ => by rw [h]; rfl
theorem atI_map {α : Type} {e : α → D} {l : List α} {i : Int} (h0 : 0 ≤ i) (h1 : i < l.length) : atI (l.map e) i = some (e (l[i.toNat]'(by omega))) := by
  rw [atI_nn h0, List.getElem?_map, List.getElem?_eq_getElem (by omega)]
  rfl
theorem rd__law_joined : Rd n__law_joined t__law_joined sp__law_joined := fun {args S Q Ed} h => by
  obtain ⟨pl, l, rfl, hpl, hne, hnd, hl, hQ⟩ := h
  obtain ⟨f0, l', rfl⟩ : ∃ f0 l', l = f0 :: l' := by cases l with | nil => exact (hne rfl).elim | cons a b => exact ⟨a, b, rfl⟩
  simp [t__law_joined, n__law_joined, hpl]
  intro pf hpf
  have e1 := Ext.new (o := .lst [eF f0]) hpf
  have g1 : put S pf (.lst [eF f0]) pf = some (.lst [eF f0]) := put_same
  generalize put S pf (.lst [eF f0]) = S1 at e1 g1
  unfold l__law_joined_1
  refine whileN_inv (n := (f0 :: l').length) (fun m σ S' => ∃ (fd : List Fd) (k : Nat) (p : Addr), σ = [some (.loc pl), some (.loc p), some (.int k), none] ∧ m = (f0 :: l').length - k ∧ k ≤ fd.length ∧ Ext S S' ∧ S' p = some (.lst (fd.map eF)) ∧ fd.Nodup ∧ (∀ g ∈ fd, g ∈ f0 :: l') ∧ ∀ g ∈ fd, Reach (bordersOf (f0 :: l')) f0 g) ?_
    ⟨[f0], 0, pf, rfl, rfl, by simp, e1, g1, by simp, by simp, fun g hg => by simp at hg; subst hg; exact .refl⟩
  rintro m σ S' ⟨fd, k, p, rfl, rfl, hk, e2, g2, q1, q2, q3⟩ N hN
  have hfl : fd.length ≤ (f0 :: l').length := len_le_of_nodup q1 q2
  simp [g2]
  by_cases hlt : k < fd.length
  · simp [hlt]
    have hat : atI (fd.map eF) (k : Int) = some (eF fd[k]) := by rw [atI_map (by omega) (by omega)]; rfl
    have hmem : fd[k] ∈ fd := List.getElem_mem hlt
    refine dLc_flt (fun _ _ => eF_inj) (l := sides fd[k]) (fun g => decide (g ∈ f0 :: l') && !decide (g ∈ fd)) (fun R hR => ?_) (by simp) (fun g hg S'' e K hK => ?_) (fun S4 q e4 hq => ?_)
    · simp [g2, hat]
      refine ⟨_, ⟨_, rfl, rfl⟩, fun S3 p3 e3 _ h3 => ?_⟩
      simp [h3]
      exact hR S3 _ e3 fun S' e => e _ _ h3
    · have a1 := e _ _ (e2 _ _ hpl)
      have a2 := e _ _ g2
      have := hK S'' (Ext.refl _)
      show rInD (eF g) (.loc pl) S'' (fun x S1 => dBool x S1 fun c S2 => if c = true then rNinD (eF g) (.loc p) S2 (fun x S3 => dBool x S3 K) else K false S2)
      refine rIn_F (l := f0 :: l') a1 ?_
      show if decide (g ∈ f0 :: l') = true then rNinD (eF g) (.loc p) S'' (fun x S3 => dBool x S3 K) else K false S''
      by_cases h1 : g ∈ f0 :: l'
      · rw [if_pos (decide_eq_true h1)]
        refine rNin_F (l := fd) a2 ?_
        rw [decide_eq_true h1, Bool.true_and] at this
        exact this
      · rw [if_neg (by simpa using h1)]
        rw [decide_eq_false h1, Bool.false_and] at this
        exact this
    · have g4 := Ext.new (o := .lst (((sides fd[k]).filter fun g => decide (g ∈ f0 :: l') && !decide (g ∈ fd)).map eF)) hq _ _ (e4 _ _ g2)
      simp only [g4, put_same]
      have hsl : ((sides fd[k]).filter fun g => decide (g ∈ f0 :: l') && !decide (g ∈ fd)).length ≤ 4 := List.length_filter_le _ _
      refine ⟨by simp only [List.length_map]; simp at hl hfl; omega, fun p5 hp5 => ?_⟩
      refine hN ((f0 :: l').length - (k + 1)) _ _ (by omega) ⟨fd ++ (sides fd[k]).filter (fun g => decide (g ∈ f0 :: l') && !decide (g ∈ fd)), k + 1, p5, by simp, rfl, by simp; omega, (e2.trans e4).trans ((Ext.new hq).trans (Ext.new hp5)), by rw [put_same]; simp, ?_, fun g hg => ?_, fun g hg => ?_⟩
      · rw [List.nodup_append]
        refine ⟨q1, (sides_nodup _).filter _, fun a ha b hb z => ?_⟩
        rw [List.mem_filter] at hb
        simp at hb
        exact hb.2.2 (z ▸ ha)
      · rcases List.mem_append.mp hg with hg | hg
        · exact q2 g hg
        · rw [List.mem_filter] at hg
          simp at hg
          simpa using hg.2.1
      · rcases List.mem_append.mp hg with hg | hg
        · exact q3 g hg
        · rw [List.mem_filter] at hg
          simp only [Bool.and_eq_true, decide_eq_true_eq] at hg
          exact .step (q3 _ hmem) (side_adj (q2 _ hmem) hg.2.1 hg.1)
  · simp [hlt]
    have a1 := e2 _ _ hpl
    simp at a1
    rw [a1]
    simp
    refine hQ _ S' (fun hb => ?_) e2
    have hlen : fd.length = (f0 :: l').length := by
      simp at hb ⊢
      omega
    exact conn_of (f := f0) fun g hg => q3 g (full_of_len q1 q2 hlen g hg)
end DL

namespace DL
open PySem PySem.Spec PyProof.Rows L2

structure FieldsOk (fs : List Fd) (most : Int) : Prop where
  pos : 1 ≤ fs.length
  few : (fs.length : Int) ≤ max most 6
  rng : ∀ f ∈ fs, 0 ≤ f.1 ∧ f.1 ≤ 5 ∧ 0 ≤ f.2 ∧ f.2 ≤ 5
  ris : Ris eF fs
  conn : Conn fs
theorem draw_at {dr : List Int} (h : Draws dr) {i : Int} (h0 : 0 ≤ i) (h1 : i < 60) : ∃ c, atI (dr.map D.int) i = some (.int c) ∧ 0 ≤ c ∧ c < 1000 := by
  have hl := h.1
  exact ⟨_, atI_map h0 (by omega), h.2 _ (List.getElem_mem _)⟩
/-- the rectangle, row by row -/
def rectL (w h : Nat) : List Fd := (List.range w).flatMap fun (x : Nat) => (List.range h).map fun (y : Nat) => ((x : Int), (y : Int))
theorem mem_rectL {w h : Nat} {f : Fd} : f ∈ rectL w h ↔ ∃ x y : Nat, x < w ∧ y < h ∧ f = ((x : Int), (y : Int)) := by
  unfold rectL
  simp only [List.mem_flatMap, List.mem_range, List.mem_map]
  constructor
  · rintro ⟨x, hx, y, hy, rfl⟩; exact ⟨x, y, hx, hy, rfl⟩
  · rintro ⟨x, y, hx, hy, rfl⟩; exact ⟨x, hx, y, hy, rfl⟩
theorem rectL_succ (w h : Nat) : rectL (w + 1) h = rectL w h ++ (List.range h).map fun (y : Nat) => ((w : Int), (y : Int)) := by
  unfold rectL
  rw [List.range_succ, List.flatMap_append]
  simp
theorem rectL_nodup : ∀ (w h : Nat), (rectL w h).Nodup
  | 0, h => by simp [rectL]
  | w + 1, h => by
    rw [rectL_succ, List.nodup_append]
    refine ⟨rectL_nodup w h, List.Pairwise.map _ (fun i j k z => k (by injection z; omega)) List.nodup_range, fun a ha b hb z => ?_⟩
    obtain ⟨x, y, hx, hy, rfl⟩ := mem_rectL.mp ha
    obtain ⟨y', _, rfl⟩ := List.mem_map.mp hb
    injection z
    omega
theorem rectL_len : ∀ (w h : Nat), (rectL w h).length = w * h
  | 0, h => by simp [rectL]
  | w + 1, h => by rw [rectL_succ, List.length_append, rectL_len w h, List.length_map, List.length_range, Nat.succ_mul]
def sp__law_fields : DSp := fun args S Q _ => ∃ (pd : Addr) (dr : List Int) (most : Int), args = [.loc pd, .int most] ∧ S pd = some (.lst (dr.map D.int)) ∧ Draws dr ∧ 1 ≤ most ∧ most ≤ 16 ∧ ∀ fs S', FieldsOk fs most → Ext S S' → Q (.tup (fs.map eF)) S'
def n__law_fields : List Str := ["draws", "most", "wide", "high", "found", "x", "time", "gone", "less", "here", "y", "field"]
def l__law_fields_1 (W : DWX) : DTS := (dFor (dRng1 (dCons (dOp rModI (dOp rIxD (dVar 0) (dC (.int 1))) (dVar 1)) dNil)) (gN 6) (dSeq (dAsg (dOp rIxD (dVar 4) (dOp rModI (dOp rIxD (dVar 0) (dOp rCatD (dC (.int 2)) (dVar 6))) (dCB rLenD (dCons (dVar 4) dNil)))) (gN 9))
  (dSeq (dAsg (dOp rIxD (dCall sp__law_sides W (dCons (dVar 9) dNil)) (dOp rModI (dOp rIxD (dVar 0) (dOp rCatD (dC (.int 15)) (dVar 6))) (dC (.int 4)))) (gT 2 (gsCons (gN 5) (gsCons (gN 10) gsNil))))
  (dIfS (dAnd (dB (dChain (rI2 fun i j => .bl (decide (i ≤ j))) (rI2 fun i j => .bl (decide (i ≤ j))) (dC (.int 0)) (dVar 5) (dC (.int 5)))) (dAnd (dB (dChain (rI2 fun i j => .bl (decide (i ≤ j))) (rI2 fun i j => .bl (decide (i ≤ j))) (dC (.int 0)) (dVar 10) (dC (.int 5)))) (dB (dOp rNinD (dTup (dCons (dVar 5) (dCons (dVar 10) dNil))) (dVar 4))))) (dDrop (dBM "list" rAppD (dVar 4) (dCons (dTup (dCons (dVar 5) (dCons (dVar 10) dNil))) dNil))) dNext))))
def l__law_fields_2 (W : DWX) : DTS := (dFor (dRng1 (dCons (dOp rModI (dOp rIxD (dVar 0) (dC (.int 3))) (dC (.int 3))) dNil)) (gN 6) (dSeq (dAsg (dOp rIxD (dVar 4) (dOp rModI (dOp rIxD (dVar 0) (dOp rCatD (dC (.int 4)) (dVar 6))) (dCB rLenD (dCons (dVar 4) dNil)))) (gN 7))
  (dSeq (dAsg (dLc (dIter (dVar 4)) (gN 11) (dB (dOp rNeD (dVar 11) (dVar 7))) (dVar 11) [11]) (gN 8))
  (dIfS (dTr (dCall sp__law_joined W (dCons (dVar 8) dNil))) (dAsg (dVar 8) (gN 4)) dNext))))
def l__law_fields_3 (W : DWX) : DTS := (dFor (dRng1 (dCons (dVar 2) dNil)) (gN 5) (dAsg (dOp rCatD (dVar 4) (dLc (dRng1 (dCons (dVar 3) dNil)) (gN 10) dYes (dTup (dCons (dVar 5) (dCons (dVar 10) dNil))) [10])) (gN 4)))
def t__law_fields (W : DWX) : DTS := (dSeq (dIfS (dB (dOp rEqD (dOp rModI (dOp rIxD (dVar 0) (dC (.int 0))) (dC (.int 3))) (dC (.int 0)))) (dSeq (dAsg (dOp rCatD (dC (.int 2)) (dOp rModI (dOp rIxD (dVar 0) (dC (.int 1))) (dC (.int 3)))) (gN 2))
  (dSeq (dAsg (dOp rCatD (dC (.int 2)) (dOp rModI (dOp rIxD (dVar 0) (dC (.int 2))) (dIf (dB (dOp (rI2 fun i j => .bl (decide (i < j))) (dVar 2) (dC (.int 4)))) (dC (.int 3)) (dC (.int 2))))) (gN 3))
  (dSeq (dAsg (dLst dNil) (gN 4))
  (dSeq (l__law_fields_3 W)
  (dSeq (l__law_fields_2 W)
  (dRet (dIf (dTr (dCall sp__law_joined W (dCons (dSl (dVar 4) dNo (dPart (dCB rMax2D (dCons (dVar 1) (dCons (dC (.int 6)) dNil))))) dNil))) (dCB rTupD (dCons (dCB rSortD (dCons (dSl (dVar 4) dNo (dPart (dCB rMax2D (dCons (dVar 1) (dCons (dC (.int 6)) dNil))))) dNil)) dNil)) (dTup (dCons (dTup (dCons (dC (.int 0)) (dCons (dC (.int 0)) dNil))) dNil))))))))) dNext)
  (dSeq (dAsg (dLst (dCons (dTup (dCons (dC (.int 2)) (dCons (dC (.int 2)) dNil))) dNil)) (gN 4))
  (dSeq (l__law_fields_1 W)
  (dRet (dCB rTupD (dCons (dCB rSortD (dCons (dVar 4) dNil)) dNil))))))
theorem len__law_fields : Ln 2 sp__law_fields := fun _ _ _ _ ⟨_, _, _, h, _⟩ => by rw [h]; rfl
/-- fields on the way: none twice, small -/
structure FSt (fd : List Fd) : Prop where
  nd : fd.Nodup
  rng : ∀ f ∈ fd, 0 ≤ f.1 ∧ f.1 ≤ 5 ∧ 0 ≤ f.2 ∧ f.2 ≤ 5
abbrev σF (pd : Addr) (most : Int) (a b p c d e f g h i : Option D) : DSt := [some (.loc pd), some (.int most), a, b, p, c, d, e, f, g, h, i]
theorem loop3_fields {W : DWX} {S0 : Store} {pd pf : Addr} {most : Int} {w h : Nat} (hw : w ≤ 4) (hh : h ≤ 4) {S : Store} (he : Ext S0 S) (g0 : S pf = some (.lst [])) {E : DEnds}
    (hE : ∀ p c S', Ext S0 S' → S' p = some (.lst ((rectL w h).map eF)) → E.nx (σF pd most (some (.int w)) (some (.int h)) (some (.loc p)) c none none none none none none) S') :
    l__law_fields_3 W E (σF pd most (some (.int w)) (some (.int h)) (some (.loc pf)) none none none none none none none) S := by
  unfold l__law_fields_3
  refine dFor_inv (ds := (List.range w).map fun (i : Nat) => D.int (i : Int)) (G := fun _ => True) (S1 := S) (fun R h => ?_)
    (fun rest σ S' => ∃ (m : Nat) (p : Addr) (c : Option D), rest = ((List.range w).map fun (i : Nat) => D.int (i : Int)).drop m ∧ m ≤ w ∧ σ = σF pd most (some (.int w)) (some (.int h)) (some (.loc p)) c none none none none none none ∧ Ext S0 S' ∧ S' p = some (.lst ((rectL m h).map eF)))
    ⟨0, pf, none, rfl, by omega, rfl, he, by rw [g0]; simp [rectL]⟩ ?_ ?_
  · simp [dRng1]
    exact ⟨by omega, h⟩
  · rintro σ S' ⟨m, p, c, q1, q2, rfl, q3, q4⟩
    have hm : m = w := by
      have := congrArg List.length q1
      simp at this
      omega
    subst hm
    exact ⟨trivial, hE p c S' q3 q4⟩
  · rintro x rest σ S' ⟨m, p, c, q1, q2, rfl, q3, q4⟩
    refine ⟨trivial, fun N hN => ?_⟩
    have hm : m < w := by
      rcases Nat.lt_or_ge m w with k | k
      · exact k
      · rw [List.drop_eq_nil_of_le (by simp; omega)] at q1; cases q1
    have hd : ((List.range w).map fun (i : Nat) => D.int (i : Int)).drop m = D.int (m : Int) :: ((List.range w).map fun (i : Nat) => D.int (i : Int)).drop (m + 1) := by
      rw [List.drop_eq_getElem_cons (by simp; omega)]
      simp
    rw [hd, List.cons.injEq] at q1
    obtain ⟨rfl, rfl⟩ := q1
    simp
    have hrl := rectL_len m h
    have hmh : m * h ≤ 16 := Nat.le_trans (Nat.mul_le_mul (by omega : m ≤ 4) hh) (by decide)
    refine dLc_pure (fun x => match x with | .int y => some (eF ((m : Int), y)) | _ => none) (ds := (List.range h).map fun (i : Nat) => D.int (i : Int)) (G := fun _ => True) (S1 := S') (fun R hR => ?_) (fun _ _ => trivial) (fun x hx S'' e K hK => ?_) (fun S4 q e4 hq => ?_)
    · simp [dRng1]
      exact ⟨by omega, hR⟩
    · obtain ⟨y, _, rfl⟩ := List.mem_map.mp hx
      simp
      exact hK S'' (Ext.refl _)
    · have hfm : ((List.range h).map fun (i : Nat) => D.int (i : Int)).filterMap (fun x => match x with | .int y => some (eF ((m : Int), y)) | _ => none) = ((List.range h).map fun (y : Nat) => ((m : Int), (y : Int))).map eF := by
        rw [List.filterMap_map, List.map_map]
        rw [← List.filterMap_eq_map]
        rfl
      rw [hfm]
      have g4 := Ext.new (o := .lst (((List.range h).map fun (y : Nat) => ((m : Int), (y : Int))).map eF)) hq _ _ (e4 _ _ q4)
      simp only [g4, put_same]
      refine ⟨by simp only [List.length_map, List.length_range]; omega, fun p5 hp5 => hN _ _ ⟨m + 1, p5, some (.int m), rfl, by omega, rfl, (q3.trans e4).trans ((Ext.new hq).trans (Ext.new hp5)), ?_⟩⟩
      rw [put_same, rectL_succ, List.map_append]
theorem loop2_fields {W : DWX} {S0 : Store} {pd p0 : Addr} {most : Int} {a b c : Option D} {dr : List Int} (hdr : Draws dr) (hpd : S0 pd = some (.lst (dr.map D.int))) {fd0 : List Fd} (h0 : FSt fd0) (h4 : 4 ≤ fd0.length) (h16 : fd0.length ≤ 16) {S : Store} (he : Ext S0 S) (g0 : S p0 = some (.lst (fd0.map eF))) {E : DEnds}
    (hE : ∀ p d e f S' fd, Ext S0 S' → S' p = some (.lst (fd.map eF)) → FSt fd → 1 ≤ fd.length → fd.length ≤ 16 → E.nx (σF pd most a b (some (.loc p)) c d e f none none none) S') :
    l__law_fields_2 W E (σF pd most a b (some (.loc p0)) c none none none none none none) S := by
  unfold l__law_fields_2
  obtain ⟨d3, hd3, h31, h32⟩ := draw_at hdr (i := 3) (by decide) (by decide)
  have hr3 : 0 ≤ d3 % 3 ∧ d3 % 3 < 3 := by omega
  refine dFor_inv (ds := (List.range (d3 % 3).toNat).map fun (i : Nat) => D.int (i : Int)) (G := fun _ => True) (S1 := S) (fun R h => ?_)
    (fun rest σ S' => ∃ (m : Nat) (p : Addr) (d e f : Option D) (fd : List Fd), rest = ((List.range (d3 % 3).toNat).map fun (i : Nat) => D.int (i : Int)).drop m ∧ m ≤ (d3 % 3).toNat ∧ σ = σF pd most a b (some (.loc p)) c d e f none none none ∧ Ext S0 S' ∧ S' p = some (.lst (fd.map eF)) ∧ FSt fd ∧ 4 ≤ fd.length + m ∧ fd.length ≤ 16)
    ⟨0, p0, none, none, none, fd0, rfl, by omega, rfl, he, g0, h0, by omega, h16⟩ ?_ ?_
  · simp [dRng1, he _ _ hpd, hd3]
    exact ⟨by omega, h⟩
  · rintro σ S' ⟨m, p, d, e, f, fd, q1, q2, rfl, q3, q4, q5, q6, q7⟩
    exact ⟨trivial, hE p d e f S' fd q3 q4 q5 (by omega) q7⟩
  · rintro x rest σ S' ⟨m, p, d, e, f, fd, q1, q2, rfl, q3, q4, q5, q6, q7⟩
    refine ⟨trivial, fun N hN => ?_⟩
    have hm : m < (d3 % 3).toNat := by
      rcases Nat.lt_or_ge m (d3 % 3).toNat with k | k
      · exact k
      · rw [List.drop_eq_nil_of_le (by simp; omega)] at q1; cases q1
    have hd : ((List.range (d3 % 3).toNat).map fun (i : Nat) => D.int (i : Int)).drop m = D.int (m : Int) :: ((List.range (d3 % 3).toNat).map fun (i : Nat) => D.int (i : Int)).drop (m + 1) := by
      rw [List.drop_eq_getElem_cons (by simp; omega)]
      simp
    rw [hd, List.cons.injEq] at q1
    obtain ⟨rfl, rfl⟩ := q1
    obtain ⟨dm, hdm, hm1, hm2⟩ := draw_at hdr (i := 4 + (m : Int)) (by omega) (by omega)
    have hfl : 0 < (fd.length : Int) := by omega
    have hmod : 0 ≤ dm % (fd.length : Int) ∧ dm % (fd.length : Int) < fd.length := ⟨Int.emod_nonneg _ (by omega), Int.emod_lt_of_pos _ hfl⟩
    have hgone := atI_map (e := eF) (l := fd) hmod.1 hmod.2
    simp [q4, q3 _ _ hpd, hdm, hgone]
    refine ⟨by omega, ?_⟩
    generalize fd[(dm % (fd.length : Int)).toNat]'_ = gone
    refine dLc_flt (fun _ _ => eF_inj) (l := fd) (fun g => !decide (g = gone)) (fun R hR => ?_) (by simp) (fun g hg S'' e K hK => ?_) (fun S4 q e4 hq => ?_)
    · simp [q4]
      exact hR S' _ (Ext.refl _) fun S' e => e _ _ q4
    · have := hK S'' (Ext.refl _)
      have hee : (eF g = eF gone) ↔ g = gone := ⟨eF_inj, fun z => z ▸ rfl⟩
      have hok : (eqOk (eF g) (eF gone) S'') = true := by
        show ((eF g).pl 8 && (eF gone).pl 8) = true
        rw [pl_F, pl_F]; rfl
      refine ⟨hok, ?_⟩
      show K (!decide (eF g = eF gone)) S''
      rw [show decide (eF g = eF gone) = decide (g = gone) from by rw [Bool.eq_iff_iff]; simp [hee]]
      exact this
    · have hlen : fd.length ≤ (fd.filter fun g => !decide (g = gone)).length + 1 := by
        have h1 := len_le_of_nodup (l := fd) (m := gone :: fd.filter fun g => !decide (g = gone)) q5.nd fun g hg => by
          by_cases hgg : g = gone
          · rw [hgg]; exact List.mem_cons_self
          · exact List.mem_cons_of_mem _ (List.mem_filter.mpr ⟨hg, by simpa using hgg⟩)
        simpa using h1
      have hle : (fd.filter fun g => !decide (g = gone)).length ≤ fd.length := List.length_filter_le _ _
      have g5 : put S4 q (.lst ((fd.filter fun g => !decide (g = gone)).map eF)) q = some (.lst ((fd.filter fun g => !decide (g = gone)).map eF)) := put_same
      have g5' := Ext.new (o := .lst ((fd.filter fun g => !decide (g = gone)).map eF)) hq _ _ (e4 _ _ q4)
      have e5 := (q3.trans e4).trans (Ext.new (o := .lst ((fd.filter fun g => !decide (g = gone)).map eF)) hq)
      generalize put S4 q (.lst ((fd.filter fun g => !decide (g = gone)).map eF)) = S5 at g5 g5' e5
      refine ⟨q, _, rfl, g5, fun z => by rw [z] at hlen; simp at hlen; omega, q5.nd.filter _, by omega, fun bb S6 _ e6 => ?_⟩
      cases bb with
      | false =>
        simp
        exact hN _ _ ⟨m + 1, p, _, _, _, fd, rfl, by omega, rfl, e5.trans e6, e6 _ _ g5', q5, by omega, q7⟩
      | true =>
        simp
        exact hN _ _ ⟨m + 1, q, _, _, _, _, rfl, by omega, rfl, e5.trans e6, e6 _ _ g5, ⟨q5.nd.filter _, fun f hf => q5.rng f (List.mem_filter.mp hf).1⟩, by omega, by omega⟩
end DL

namespace DL
open PySem PySem.Spec PyProof.Rows L2

theorem conn_snoc {fd : List Fd} {f g : Fd} (h : Conn fd) (hf : f ∈ fd) (hg : g ∈ sides f) : Conn (fd ++ [g]) := by
  refine conn_of (f := f) fun x hx => ?_
  rcases List.mem_append.mp hx with hx | hx
  · exact (h f hf x hx).mono fun b hb => by
      rw [mem_bordersOf] at hb ⊢
      exact ⟨List.mem_append_left _ hb.1, List.mem_append_left _ hb.2⟩
  · rw [List.mem_singleton] at hx
    subst hx
    exact .step .refl (side_adj (List.mem_append_left _ hf) (by simp) hg)
theorem loop1_fields {W : DWX} {S0 : Store} {pd p0 : Addr} {most : Int} {dr : List Int} (hdr : Draws dr) (hm0 : 1 ≤ most) (hm16 : most ≤ 16) (hp0 : S0 p0 = none) (hpd : S0 pd = some (.lst (dr.map D.int))) {S : Store} (he : Ext S0 S) (g0 : S p0 = some (.lst [eF (2, 2)])) {E : DEnds}
    (hE : ∀ c d i j S' fd, Ext S0 S' → S' p0 = some (.lst (fd.map eF)) → FSt fd → Conn fd → 1 ≤ fd.length → (fd.length : Int) ≤ most → E.nx (σF pd most none none (some (.loc p0)) c d none none i j none) S') :
    l__law_fields_1 W E (σF pd most none none (some (.loc p0)) none none none none none none none) S := by
  unfold l__law_fields_1
  obtain ⟨d1, hd1, h11, h12⟩ := draw_at hdr (i := 1) (by decide) (by decide)
  have hr1 : 0 ≤ d1 % most ∧ d1 % most < most := ⟨Int.emod_nonneg _ (by omega), Int.emod_lt_of_pos _ (by omega)⟩
  refine dFor_inv (ds := (List.range (d1 % most).toNat).map fun (i : Nat) => D.int (i : Int)) (G := fun _ => True) (S1 := S) (fun R h => ?_)
    (fun rest σ S' => ∃ (m : Nat) (c d i j : Option D) (fd : List Fd), rest = ((List.range (d1 % most).toNat).map fun (i : Nat) => D.int (i : Int)).drop m ∧ m ≤ (d1 % most).toNat ∧ σ = σF pd most none none (some (.loc p0)) c d none none i j none ∧ Ext S0 S' ∧ S' p0 = some (.lst (fd.map eF)) ∧ FSt fd ∧ Conn fd ∧ 1 ≤ fd.length ∧ fd.length ≤ m + 1)
    ⟨0, none, none, none, none, [(2, 2)], rfl, by omega, rfl, he, g0, ⟨by simp, by simp⟩, conn_of (f := (2, 2)) (fun g hg => by simp at hg; subst hg; exact .refl), by simp, by simp⟩ ?_ ?_
  · simp [dRng1, he _ _ hpd, hd1]
    exact ⟨by omega, by omega, h⟩
  · rintro σ S' ⟨m, c, d, i, j, fd, q1, q2, rfl, q3, q4, q5, q6, q7, q8⟩
    exact ⟨trivial, hE c d i j S' fd q3 q4 q5 q6 q7 (by omega)⟩
  · rintro x rest σ S' ⟨m, c, d, i, j, fd, q1, q2, rfl, q3, q4, q5, q6, q7, q8⟩
    refine ⟨trivial, fun N hN => ?_⟩
    have hm : m < (d1 % most).toNat := by
      rcases Nat.lt_or_ge m (d1 % most).toNat with k | k
      · exact k
      · rw [List.drop_eq_nil_of_le (by simp; omega)] at q1; cases q1
    have hd : ((List.range (d1 % most).toNat).map fun (i : Nat) => D.int (i : Int)).drop m = D.int (m : Int) :: ((List.range (d1 % most).toNat).map fun (i : Nat) => D.int (i : Int)).drop (m + 1) := by
      rw [List.drop_eq_getElem_cons (by simp; omega)]
      simp
    rw [hd, List.cons.injEq] at q1
    obtain ⟨rfl, rfl⟩ := q1
    obtain ⟨da, hda, ha1, ha2⟩ := draw_at hdr (i := 2 + (m : Int)) (by omega) (by omega)
    obtain ⟨db, hdb, hb1, hb2⟩ := draw_at hdr (i := 15 + (m : Int)) (by omega) (by omega)
    have hfl : 0 < (fd.length : Int) := by omega
    have hmod : 0 ≤ da % (fd.length : Int) ∧ da % (fd.length : Int) < fd.length := ⟨Int.emod_nonneg _ (by omega), Int.emod_lt_of_pos _ hfl⟩
    have hhere := atI_map (e := eF) (l := fd) hmod.1 hmod.2
    have hmem : (fd[(da % (fd.length : Int)).toNat]'(by omega)) ∈ fd := List.getElem_mem _
    simp [q4, q3 _ _ hpd, hda, hhere]
    refine ⟨by omega, ?_⟩
    generalize (fd[(da % (fd.length : Int)).toNat]'(by omega)) = here at hmem
    refine ⟨_, ⟨here, rfl, rfl⟩, fun S2 p2 e2 hp2 h2 => ?_⟩
    have hmod4 : 0 ≤ db % 4 ∧ db % 4 < ((sides here).length : Int) := by
      have : ((sides here).length : Int) = 4 := rfl
      omega
    have hside := atI_map (e := eF) (l := sides here) hmod4.1 hmod4.2
    have hsm : ((sides here)[(db % 4).toNat]'(by omega)) ∈ sides here := List.getElem_mem _
    simp [h2, e2 _ _ (q3 _ _ hpd), hdb, hside]
    generalize ((sides here)[(db % 4).toNat]'(by omega)) = g at hsm
    obtain ⟨x, y⟩ := g
    simp [eF]
    have g2 := e2 _ _ q4
    have skip : N (σF pd most none none (some (.loc p0)) (some (.int x)) (some (.int m)) none none (some (eF here)) (some (.int y)) none) S2 := hN _ _ ⟨m + 1, _, _, _, _, fd, rfl, by omega, rfl, q3.trans e2, g2, q5, q6, q7, by omega⟩
    simp only [eF] at skip
    by_cases c1 : 0 ≤ x
    · by_cases c2 : x ≤ 5
      · by_cases c3 : 0 ≤ y
        · by_cases c4 : y ≤ 5
          · have c2' : ¬ 5 < x := by omega
            have c4' : ¬ 5 < y := by omega
            simp [c1, c2, c3, c4]
            have hpl1 : D.pl 8 (D.tup [D.int x, D.int y]) = true := pl_F (x, y)
            have hm' : (D.tup [D.int x, D.int y] ∈ fd.map eF) ↔ (x, y) ∈ fd := mem_eF (f := (x, y))
            simp only [g2, tyD]
            refine ⟨by rw [hpl1, pl_Fs 7]; rfl, ?_⟩
            by_cases c5 : (x, y) ∈ fd
            · rw [if_pos (decide_eq_true (hm'.mpr c5))]
              exact skip
            · rw [if_neg (by rw [decide_eq_true_eq]; exact fun z => c5 (hm'.mp z))]
              simp only [List.length_map]
              refine ⟨rfl, ?_⟩
              refine ⟨by omega, hN _ _ ⟨m + 1, _, _, _, _, fd ++ [(x, y)], rfl, by omega, rfl, (q3.trans e2).putN hp0, by rw [put_same]; simp [eF], ⟨?_, fun f hf => ?_⟩, conn_snoc q6 hmem hsm, by simp, by simp; omega⟩⟩
              · rw [List.nodup_append]
                exact ⟨q5.nd, by simp, fun a ha b hb z => by rw [List.mem_singleton] at hb; subst hb; exact c5 (z ▸ ha)⟩
              · rcases List.mem_append.mp hf with hf | hf
                · exact q5.rng f hf
                · rw [List.mem_singleton] at hf; subst hf; exact ⟨c1, c2, c3, c4⟩
          · have : 5 < y := by omega
            simp [c1, c2, c3, c4, this]; exact skip
        · simp [c1, c2, c3]; exact skip
      · have : 5 < x := by omega
        simp [c1, c2, this]; exact skip
    · simp [c1]; exact skip
theorem fields_of {fd : List Fd} {most : Int} (F : FSt fd) (C : Conn fd) (h1 : 1 ≤ fd.length) (h2 : (fd.length : Int) ≤ max most 6) : FieldsOk (srt eF fd) most :=
  ⟨by rw [srt_len]; exact h1, by rw [srt_len]; exact h2, fun f hf => F.rng f (mem_srt.mp hf), ris_srt oinj_F F.nd, conn_perm (fun f => mem_srt.symm) C⟩
theorem cutD_take (xs : List D) {k : Int} (hk : 0 ≤ k) : cutD xs none (some k) = xs.take k.toNat := by
  unfold cutD
  have e1 : HT.sIx xs.length 0 none = 0 := rfl
  rw [e1, List.drop_zero, Nat.sub_zero]
  have e2 : HT.sIx xs.length xs.length (some k) = min k.toNat xs.length := by
    show (if k < 0 then (k + (xs.length : Int)).toNat else min k.toNat xs.length) = _
    rw [if_neg (by omega)]
  rw [e2]
  by_cases h : k.toNat ≤ xs.length
  · rw [Nat.min_eq_left h]
  · rw [Nat.min_eq_right (by omega), List.take_length, List.take_of_length_le (by omega)]
theorem fields_tail {W : DWX} {S0 : Store} {pd p0 : Addr} {most : Int} {a b c : Option D} {dr : List Int} {Q : DQ} {E : DEnds} (hm0 : 1 ≤ most) (hm16 : most ≤ 16) (hdr : Draws dr) (hpd : S0 pd = some (.lst (dr.map D.int))) (hQ : ∀ fs S', FieldsOk fs most → Ext S0 S' → Q (.tup (fs.map eF)) S') (hE : E.rt = Q)
    {fd0 : List Fd} (h0 : FSt fd0) (h4 : 4 ≤ fd0.length) (h16 : fd0.length ≤ 16) {S : Store} (he : Ext S0 S) (g0 : S p0 = some (.lst (fd0.map eF))) :
    dSeq (l__law_fields_2 W) (dRet (dIf (dTr (dCall sp__law_joined W (dCons (dSl (dVar 4) dNo (dPart (dCB rMax2D (dCons (dVar 1) (dCons (dC (.int 6)) dNil))))) dNil))) (dCB rTupD (dCons (dCB rSortD (dCons (dSl (dVar 4) dNo (dPart (dCB rMax2D (dCons (dVar 1) (dCons (dC (.int 6)) dNil))))) dNil)) dNil)) (dTup (dCons (dTup (dCons (dC (.int 0)) (dCons (dC (.int 0)) dNil))) dNil))))
      E (σF pd most a b (some (.loc p0)) c none none none none none none) S := by
  simp only [dSeq]
  refine loop2_fields hdr hpd h0 h4 h16 he g0 fun p d e f S1 fd e1 g1 F l1 l2 => ?_
  have hk : 0 ≤ max most 6 := by omega
  simp [rMax2D, g1, cutD_take _ hk, hE]
  intro p2 hp2
  rw [← List.map_take]
  have e2 := e1.trans (Ext.new (o := .lst ((fd.take (max most 6).toNat).map eF)) hp2)
  have g2 : put S1 p2 (.lst ((fd.take (max most 6).toNat).map eF)) p2 = some (.lst ((fd.take (max most 6).toNat).map eF)) := put_same
  have g2' := Ext.new (o := .lst ((fd.take (max most 6).toNat).map eF)) hp2 _ _ g1
  generalize put S1 p2 (.lst ((fd.take (max most 6).toNat).map eF)) = S2 at e2 g2 g2'
  have htl : (fd.take (max most 6).toNat).length ≤ fd.length := by rw [List.length_take]; omega
  have ht1 : 1 ≤ (fd.take (max most 6).toNat).length := by rw [List.length_take]; omega
  have htm : ((fd.take (max most 6).toNat).length : Int) ≤ max most 6 := by rw [List.length_take]; omega
  have hsub : ∀ f ∈ fd.take (max most 6).toNat, f ∈ fd := fun f hf => List.mem_of_mem_take hf
  have hnd : (fd.take (max most 6).toNat).Nodup := List.Nodup.sublist (List.take_sublist _ _) F.nd
  refine ⟨p2, _, rfl, g2, fun z => by rw [z] at ht1; simp at ht1, hnd, by omega, fun bb S3 hbb e3 => ?_⟩
  cases bb with
  | false =>
    simp
    have hq := hQ [(0, 0)] S3 ⟨by simp, by simp; omega, by simp, List.pairwise_singleton _ _, conn_of (f := (0, 0)) fun g hg => by simp at hg; subst hg; exact .refl⟩ (e2.trans e3)
    exact hq
  | true =>
    have g3 := e3 _ _ g2'
    simp [g3, cutD_take _ hk]
    intro p4 hp4
    rw [← List.map_take]
    simp [rSortD, put_same]
    refine ⟨by rw [← List.map_take]; exact sort_F _, fun p5 hp5 => ?_⟩
    rw [← List.map_take] at hp5
    rw [← List.map_take, dsort_map]
    exact hQ _ _ (fields_of ⟨hnd, fun f hf => F.rng f (hsub f hf)⟩ (hbb rfl) ht1 htm) ((e2.trans e3).trans ((Ext.new hp4).trans (Ext.new hp5)))
theorem rect_st {w h : Nat} (hw : w ≤ 4) (hh : h ≤ 4) : FSt (rectL w h) := ⟨rectL_nodup w h, fun f hf => by
  obtain ⟨x, y, h1, h2, rfl⟩ := mem_rectL.mp hf
  simp
  omega⟩
theorem rd__law_fields : Rd n__law_fields t__law_fields sp__law_fields := fun {args S Q Ed} h => by
  obtain ⟨pd, dr, most, rfl, hpd, hdr, hm0, hm16, hQ⟩ := h
  obtain ⟨d0, hd0, _, _⟩ := draw_at hdr (i := 0) (by decide) (by decide)
  obtain ⟨d1, hd1, _, _⟩ := draw_at hdr (i := 1) (by decide) (by decide)
  obtain ⟨d2, hd2, _, _⟩ := draw_at hdr (i := 2) (by decide) (by decide)
  simp only [t__law_fields, n__law_fields]
  by_cases h0 : d0 % 3 = 0
  · simp [hpd, hd0, hd1, hd2, h0]
    obtain ⟨w, hw⟩ : ∃ w : Nat, 2 + d1 % 3 = (w : Int) := ⟨(2 + d1 % 3).toNat, by omega⟩
    have hwb : 2 ≤ w ∧ w ≤ 4 := by omega
    by_cases hw4 : 2 + d1 % 3 < 4
    · rw [if_pos hw4]
      obtain ⟨h, hh⟩ : ∃ h : Nat, 2 + d2 % 3 = (h : Int) := ⟨(2 + d2 % 3).toNat, by omega⟩
      rw [hw, hh]
      have hhb : 2 ≤ h ∧ h ≤ 4 := by omega
      have hw3 : w ≤ 3 := by omega
      intro p hp
      refine loop3_fields (S0 := S) hwb.2 hhb.2 (Ext.new hp) put_same fun q c S1 e1 g1 => ?_
      have hr := rectL_len w h
      have hlo : 4 ≤ w * h := Nat.mul_le_mul hwb.1 hhb.1
      have hhi : w * h ≤ 3 * 4 := Nat.mul_le_mul hw3 hhb.2
      exact fields_tail hm0 hm16 hdr hpd hQ rfl (rect_st hwb.2 hhb.2) (by omega) (by omega) e1 g1
    · rw [if_neg hw4]
      obtain ⟨h, hh⟩ : ∃ h : Nat, 2 + d2 % 2 = (h : Int) := ⟨(2 + d2 % 2).toNat, by omega⟩
      rw [hw, hh]
      have hhb : 2 ≤ h ∧ h ≤ 3 := by omega
      intro p hp
      refine loop3_fields (S0 := S) hwb.2 (by omega) (Ext.new hp) put_same fun q c S1 e1 g1 => ?_
      have hr := rectL_len w h
      have hlo : 4 ≤ w * h := Nat.mul_le_mul hwb.1 hhb.1
      have hhi : w * h ≤ 4 * 3 := Nat.mul_le_mul hwb.2 hhb.2
      exact fields_tail hm0 hm16 hdr hpd hQ rfl (rect_st hwb.2 (by omega)) (by omega) (by omega) e1 g1
  · simp [hpd, hd0, h0]
    intro p0 hp0
    have e1 := Ext.new (o := .lst [eF (2, 2)]) hp0
    have g1 : put S p0 (.lst [eF (2, 2)]) p0 = some (.lst [eF (2, 2)]) := put_same
    show l__law_fields_1 _ _ (σF pd most none none (some (.loc p0)) none none none none none none none) (put S p0 (.lst [eF (2, 2)]))
    generalize put S p0 (.lst [eF (2, 2)]) = S1 at e1 g1
    refine loop1_fields hdr hm0 hm16 hp0 hpd e1 g1 fun c d i j S2 fd e2 g2 F C h1 h2 => ?_
    simp [rSortD, g2]
    refine ⟨sort_F fd, fun p hp => ?_⟩
    rw [put_same, dsort_map]
    exact hQ _ _ (fields_of F C h1 (by omega)) (e2.trans (Ext.new hp))
end DL

namespace DL
open PySem PySem.Spec PyProof.Rows L2

/-! ### the sheet -/
theorem lot_all {fs : List Fd} {f : Fd} (C : Conn fs) (hf : f ∈ fs) : lotOf fs (bordersOf fs) f = fs := by
  classical
  unfold lotOf
  rw [List.filter_eq_self]
  exact fun g hg => decide_eq_true (C f hf g hg)
theorem parts_conn {fs : List Fd} (C : Conn fs) (h : fs ≠ []) : parts fs (bordersOf fs) = [fs] := by
  unfold parts
  have key : ∀ r : List Fd, (∀ f ∈ r, f ∈ fs) → partsG fs (bordersOf fs) r [fs] = [fs] := fun r => by
    induction r with
    | nil => intro _; rfl
    | cons f r ih =>
      intro hr
      rw [partsG_pos ⟨fs, by simp, hr f (by simp)⟩]
      exact ih fun g hg => hr g (List.mem_cons_of_mem _ hg)
  cases fs with
  | nil => exact (h rfl).elim
  | cons f r =>
    rw [partsG_neg (by simp), lot_all C (by simp), List.nil_append]
    exact key r fun g hg => List.mem_cons_of_mem _ hg
theorem valid_of {fs : List Fd} {most : Int} {ps : List Bd} (F : FieldsOk fs most) (hm : most ≤ 16) (hr : Ris eB ps) (hs : ∀ b ∈ ps, b ∈ bordersOf fs) : Valid fs ps :=
  ⟨F.pos, by have := F.few; omega, fun f hf => by have := F.rng f hf; exact ⟨by omega, by omega, by omega, by omega⟩, F.ris, hr, hs, by rw [parts_conn F.conn (fun z => by have := F.pos; rw [z] at this; simp at this)]; rfl⟩
def sp__law_sheet : DSp := fun args S Q _ => ∃ (a : Addr) (ns : List Int) (k most : Int), args = [.loc a, .int k, .int most] ∧ S a = some (.scr ns) ∧ 0 ≤ k ∧ 1 ≤ most ∧ most ≤ 16 ∧ ∀ fs ps S', FieldsOk fs most → Valid fs ps → Ext S S' → Q (eS fs ps) S'
def n__law_sheet : List Str := ["script", "at", "most", "draws", "fields", "inner", "way", "pricks", "spot", "one"]
def t__law_sheet (W : DWX) : DTS := (dSeq (dAsg (dCall sp__law_row W (dCons (dVar 0) (dCons (dVar 1) dNil))) (gN 3))
  (dSeq (dAsg (dCall sp__law_fields W (dCons (dVar 3) (dCons (dVar 2) dNil))) (gN 4))
  (dSeq (dAsg (dCall sp__law_inner W (dCons (dVar 4) dNil)) (gN 5))
  (dSeq (dAsg (dOp rModI (dOp rIxD (dVar 3) (dC (.int 58))) (dC (.int 4))) (gN 6))
  (dSeq (dAsg (dLc (dEnum (dCons (dVar 5) dNil)) (gT 2 (gsCons (gN 8) (gsCons (gN 9) gsNil))) (dOr (dB (dOp (rI2 fun i j => .bl (decide (i < j))) (dVar 6) (dC (.int 2)))) (dB (dOp (rI2 fun i j => .bl (decide (j < i))) (dOp rModI (dOp rIxD (dVar 3) (dOp rModI (dOp rCatD (dC (.int 28)) (dVar 8)) (dC (.int 60)))) (dOp rIxD (dLst (dCons (dC (.int 9)) (dCons (dC (.int 9)) (dCons (dC (.int 7)) (dCons (dC (.int 3)) dNil))))) (dVar 6))) (dC (.int 0))))) (dVar 9) [8, 9]) (gN 7))
  (dRet (dTup (dCons (dVar 4) (dCons (dCB rTupD (dCons (dVar 7) dNil)) dNil)))))))))
theorem len__law_sheet : Ln 3 sp__law_sheet := fun _ _ _ _ ⟨_, _, _, _, h, _⟩ => by rw [h]; rfl
def wayK (w : Int) : Int := if w = 0 then 9 else if w = 1 then 9 else if w = 2 then 7 else 3
theorem way_at {w : Int} (h0 : 0 ≤ w) (h1 : w < 4) : atI [D.int 9, .int 9, .int 7, .int 3] w = some (.int (wayK w)) := by
  rw [atI_nn h0]
  have : w = 0 ∨ w = 1 ∨ w = 2 ∨ w = 3 := by omega
  rcases this with rfl | rfl | rfl | rfl <;> rfl
theorem wayK_pos (w : Int) : 0 < wayK w := by unfold wayK; (repeat' split) <;> decide
def prF (P : Int → Bool) : D → Option D
  | .tup [.int i, x] => if P i then some x else none
  | _ => none
theorem pr_list (P : Int → Bool) (l : List Bd) (k : Nat) : (((l.map eB).zipIdx k).map fun p => D.tup [.int (p.2 : Nat), p.1]).filterMap (prF P) = (((l.zipIdx k).filter fun p => P (p.2 : Nat)).map (·.1)).map eB := by
  induction l generalizing k with
  | nil => rfl
  | cons b l ih =>
    rw [List.map_cons, List.zipIdx_cons, List.zipIdx_cons, List.map_cons, List.filter_cons]
    cases h : P (k : Nat) with
    | true =>
      rw [List.filterMap_cons_some (b := eB b) (by simp [prF, h]), ih (k + 1)]
      simp [h]
    | false =>
      rw [List.filterMap_cons_none (by simp [prF, h]), ih (k + 1)]
      simp [h]
theorem pr_sub (P : Int → Bool) (l : List Bd) (k : Nat) : (((l.zipIdx k).filter fun p => P (p.2 : Nat)).map (·.1)).Sublist l := by
  have h1 := (List.filter_sublist (p := fun p : Bd × Nat => P (p.2 : Nat)) (l := l.zipIdx k)).map (·.1)
  have h2 : (l.zipIdx k).map (·.1) = l := by simp
  rwa [h2] at h1
theorem rd__law_sheet : Rd n__law_sheet t__law_sheet sp__law_sheet := fun {args S Q Ed} h => by
  obtain ⟨a, ns, k, most, rfl, ha, hk, hm0, hm16, hQ⟩ := h
  simp [t__law_sheet, n__law_sheet]
  refine ⟨a, ns, k, rfl, ha, hk, fun dr S1 pd hdr e1 hpd h1 => ?_⟩
  refine ⟨pd, dr, most, rfl, h1, hdr, hm0, hm16, fun fs S2 F e2 => ?_⟩
  have hfl : fs.length ≤ 16 := by have := F.few; omega
  refine ⟨_, ⟨fs, rfl, by omega, rfl⟩, fun S3 pi e3 hpi h3 => ?_⟩
  obtain ⟨d58, hd58, _, _⟩ := draw_at hdr (i := 58) (by decide) (by decide)
  have h1' := (e2.trans e3) _ _ h1
  simp [h1', hd58]
  have hw : 0 ≤ d58 % 4 ∧ d58 % 4 < 4 := by omega
  generalize d58 % 4 = w at hw
  have hbl := bordersOf_len fs
  refine dLc_pure (prF fun i => decide (w < 2) || decide (0 < ((dr[((28 + i) % 60).toNat]?).getD 0) % wayK w)) (ds := enumD ((bordersOf fs).map eB)) (G := fun S => S pi = some (.lst ((bordersOf fs).map eB))) (S1 := S3) (fun R hR => ?_) (fun S' e => e _ _ h3) (fun x hx S' e K hK => ?_) (fun S4 q e4 hq => ?_)
  · simp [dEnum, h3]
    exact ⟨by omega, hR⟩
  · obtain ⟨⟨b, i⟩, hbi, rfl⟩ := List.mem_map.mp hx
    simp
    have := hK S' (Ext.refl _)
    simp only [prF] at this
    by_cases hw2 : w < 2
    · simp [hw2] at this ⊢
      exact this
    · have hidx : 0 ≤ (28 + (i : Int)) % 60 ∧ (28 + (i : Int)) % 60 < 60 := ⟨Int.emod_nonneg _ (by decide), Int.emod_lt_of_pos _ (by decide)⟩
      have hl60 := hdr.1
      have hc : atI (dr.map D.int) ((28 + (i : Int)) % 60) = some (.int ((dr[((28 + (i : Int)) % 60).toNat]?).getD 0)) := by
        rw [atI_map hidx.1 (by omega), List.getElem?_eq_getElem (by omega)]
        rfl
      have g1 := e _ _ h1'
      simp [hw2, g1, hc]
      intro p5 hp5
      simp only [put_same, way_at hw.1 hw.2]
      refine ⟨wayK_pos w, ?_⟩
      have := hK _ (Ext.new (o := .lst [D.int 9, .int 9, .int 7, .int 3]) hp5)
      simp only [prF] at this
      by_cases hz : 0 < ((dr[((28 + (i : Int)) % 60).toNat]?).getD 0) % wayK w
      · simp [hw2, hz] at this ⊢; exact this
      · simp [hw2, hz] at this ⊢; exact this
  · have hpr := pr_list (fun i => decide (w < 2) || decide (0 < ((dr[((28 + i) % 60).toNat]?).getD 0) % wayK w)) (bordersOf fs) 0
    have hsub := pr_sub (fun i => decide (w < 2) || decide (0 < ((dr[((28 + i) % 60).toNat]?).getD 0) % wayK w)) (bordersOf fs) 0
    unfold enumD
    rw [hpr]
    generalize ((((bordersOf fs).zipIdx 0).filter fun p => decide (w < 2) || decide (0 < ((dr[((28 + ((p.2 : Nat) : Int)) % 60).toNat]?).getD 0) % wayK w)).map (·.1)) = ps at hsub
    simp only [put_same]
    have hris : Ris eB ps := List.Pairwise.sublist hsub (bordersOf_ris F.ris.nodup)
    exact hQ fs ps _ F (valid_of F hm16 hris fun b hb => hsub.subset hb) ((e1.trans (e2.trans (e3.trans e4))).trans (Ext.new hq))
end DL

namespace DL
open PySem PySem.Spec PyProof.Rows L2

/-! ### the law's tears -/
def sp__law_tear : DSp := spV fun args S v => ∃ fs ps ph hs b, args = [eS fs ps, .loc ph, eB b] ∧ S ph = some (.lst (hs.map eB)) ∧ InR hs ∧ v = tD (tearAt hs ps b)
def n__law_tear : List Str := ["sheet", "hanging", "border", "found", "way", "word", "x", "y", "more", "corner", "one"]
def l__law_tear_1 (W : DWX) : DTS := (dWhile (dTr (dVar 8)) (dSeq (dAsg (dIf (dB (dOp (rI2 fun i j => .bl (decide (j < i))) (dVar 4) (dC (.int 0)))) (dTup (dCons (dVar 6) (dCons (dVar 7) dNil))) (dIf (dB (dOp rEqD (dVar 5) (dC (.str "right")))) (dTup (dCons (dVar 6) (dCons (dOp (rI2 fun i j => .int (i - j)) (dVar 7) (dC (.int 1))) dNil))) (dTup (dCons (dOp (rI2 fun i j => .int (i - j)) (dVar 6) (dC (.int 1))) (dCons (dVar 7) dNil))))) (gN 9))
  (dSeq (dAsg (dCall sp__law_full W (dCons (dVar 1) (dCons (dOp rIxD (dVar 9) (dC (.int 0))) (dCons (dOp rIxD (dVar 9) (dC (.int 1))) dNil)))) (gN 8))
  (dIfS (dTr (dVar 8)) (dSeq (dAsg (dIf (dB (dOp rEqD (dVar 5) (dC (.str "right")))) (dTup (dCons (dVar 6) (dCons (dOp rCatD (dVar 7) (dVar 4)) dNil))) (dTup (dCons (dOp rCatD (dVar 6) (dVar 4)) (dCons (dVar 7) dNil)))) (gT 2 (gsCons (gN 6) (gsCons (gN 7) gsNil))))
  (dDrop (dBM "list" rAppD (dVar 3) (dCons (dTup (dCons (dVar 5) (dCons (dVar 6) (dCons (dVar 7) dNil)))) dNil)))) dNext))))
def l__law_tear_2 (W : DWX) : DTS := (dFor (dIter (dTup (dCons (dC (.int 1)) (dCons (dUn rNegI (dC (.int 1))) dNil)))) (gN 4) (dSeq (dAsg (dVar 2) (gT 3 (gsCons (gN 5) (gsCons (gN 6) (gsCons (gN 7) gsNil)))))
  (dSeq (dAsg (dC (.bl true)) (gN 8))
  (l__law_tear_1 W))))
def t__law_tear (W : DWX) : DTS := (dSeq (dIfS (dB (dOp rNinD (dVar 2) (dVar 1))) (dRet (dC .non)) dNext)
  (dSeq (dAsg (dLst (dCons (dVar 2) dNil)) (gN 3))
  (dSeq (l__law_tear_2 W)
  (dSeq (dIfS (dB (dOp rNeD (dLc (dIter (dVar 3)) (gN 10) (dB (dOp rNinD (dVar 10) (dOp rIxD (dVar 0) (dC (.int 1))))) (dVar 10) [10]) (dLst dNil))) (dRet (dC .non)) dNext)
  (dRet (dCB rTupD (dCons (dCB rSortD (dCons (dVar 3) dNil)) dNil)))))))
theorem len__law_tear : Ln 3 sp__law_tear := fun _ _ _ _ ⟨_, ⟨_, _, _, _, _, h, _⟩, _⟩ => by rw [h]; rfl
/-- the corner that the law looks at -/
theorem law_cw {b : Bd} {w : Int} (hw : w = 1 ∨ w = -1) : cw b w = ((if 0 < w then b.2.1 else if b.1 then b.2.1 else b.2.1 - 1) + 1, (if 0 < w then b.2.2 else if b.1 then b.2.2 - 1 else b.2.2) + 1) := by
  obtain ⟨r, x, y⟩ := b
  rcases hw with rfl | rfl <;> cases r <;> simp [cw, c0, c1]
abbrev σT (fs : List Fd) (ps : List Bd) (ph : Addr) (b : Bd) (pf : Addr) (w : Int) (here : Bd) (m : Bool) (c o : Option D) : DSt := [some (eS fs ps), some (.loc ph), some (eB b), some (.loc pf), some (.int w), some (.str (wd here.1)), some (.int here.2.1), some (.int here.2.2), some (.bl m), c, o]
theorem tear_loop {W : DWX} {S0 : Store} {fs : List Fd} {ps hs : List Bd} {ph pf : Addr} {b : Bd} {w : Int} {c o : Option D} (hw : w = 1 ∨ w = -1) (hph : S0 ph = some (.lst (hs.map eB))) (hR : InR hs) (hb : b ∈ hs) (hpf : S0 pf = none) {acc : List Bd} (hal : acc.length ≤ 100) {S : Store} (he : Ext S0 S) (g0 : S pf = some (.lst (acc.map eB))) {E : DEnds}
    (hE : ∀ here c S', Ext S0 S' → S' pf = some (.lst ((acc ++ runOf hs b w).map eB)) → E.nx (σT fs ps ph b pf w here false c o) S') :
    l__law_tear_1 W E (σT fs ps ph b pf w b true c o) S := by
  unfold l__law_tear_1
  refine whileN_inv (n := room b w + 1) (fun m σ S' => ∃ (here : Bd) (more : Bool) (c : Option D) (a2 : List Bd) (k : Nat), σ = σT fs ps ph b pf w here more c o ∧ here.1 = b.1 ∧ Ext S0 S' ∧ S' pf = some (.lst (a2.map eB)) ∧
      (more = true → m = room here w + 1 ∧ here ∈ hs ∧ a2 ++ runF hs k here w = acc ++ runOf hs b w ∧ room here w ≤ k) ∧ (more = false → a2 = acc ++ runOf hs b w)) ?_
    ⟨b, true, c, acc, 16, rfl, rfl, he, g0, fun _ => ⟨rfl, hb, rfl, by have := (room_pos (w := w) (hR b hb)).2; omega⟩, fun z => by cases z⟩
  rintro m σ S' ⟨here, more, c, a2, k, rfl, hr, e1, g1, q1, q2⟩ N hN
  cases more with
  | false =>
    simp
    rw [q2 rfl] at g1
    exact hE here c S' e1 g1
  | true =>
    obtain ⟨hm, hh, hrun, hk⟩ := q1 rfl
    have hrp := room_pos (w := w) (hR here hh)
    obtain ⟨k, rfl⟩ : ∃ k', k = k' + 1 := ⟨k - 1, by omega⟩
    have hal2 : a2.length ≤ 200 := by
      have := congrArg List.length hrun
      have h2 := runF_len hs 16 b w
      rw [List.length_append, List.length_append] at this
      unfold runOf at this
      omega
    obtain ⟨r, x, y⟩ := here
    simp only at hr
    rcases hw with rfl | rfl <;> cases r
    · have hc : whole hs (x + 1, y + 1) = whole hs (cw (false, x, y) (1)) := by simp [cw, c0, c1]
      have hnx : nxt (false, x, y) (1) = (false, x + 1, y) := by simp [nxt]
      simp [wd_f, down_ne]
      refine ⟨_, ⟨ph, hs, _, _, rfl, e1 _ _ hph, rfl⟩, fun S2 e2 => ?_⟩
      rw [hc]
      have g2 := e2 _ _ g1
      cases hwc : whole hs (cw (false, x, y) (1)) with
      | false =>
        have hend : a2 = acc ++ runOf hs b (1) := by rw [← hrun]; unfold runF; rw [hwc]; simp
        simp
        exact hN (room (false, x, y) (1)) _ _ (by omega) ⟨(false, x, y), false, _, a2, k, rfl, hr, e1.trans e2, g2, fun z => (by cases z), fun _ => hend⟩
      | true =>
        have hmem := (whole_mem (hs := hs) (b := (false, x, y)) (w := 1) (by simp) hwc).2
        have hrn := room_nxt (b := (false, x, y)) (w := 1) (by simp) (hR _ hh)
        rw [hnx] at hmem hrn
        simp [tyD, g2, wd_f, down_ne]
        refine ⟨by omega, hN (room (false, x + 1, y) (1) + 1) _ _ (by omega) ⟨(false, x + 1, y), true, _, a2 ++ [(false, x + 1, y)], k, rfl, hr, (e1.trans e2).putN hpf, by rw [put_same]; simp [eB, wd_f, down_ne], fun _ => ⟨rfl, hmem, ?_, by omega⟩, fun z => by cases z⟩⟩
        rw [← hrun]
        conv => rhs; unfold runF
        rw [hwc, hnx]
        simp
    · have hc : whole hs (x + 1, y + 1) = whole hs (cw (true, x, y) (1)) := by simp [cw, c0, c1]
      have hnx : nxt (true, x, y) (1) = (true, x, y + 1) := by simp [nxt]
      simp [wd_t]
      refine ⟨_, ⟨ph, hs, _, _, rfl, e1 _ _ hph, rfl⟩, fun S2 e2 => ?_⟩
      rw [hc]
      have g2 := e2 _ _ g1
      cases hwc : whole hs (cw (true, x, y) (1)) with
      | false =>
        have hend : a2 = acc ++ runOf hs b (1) := by rw [← hrun]; unfold runF; rw [hwc]; simp
        simp
        exact hN (room (true, x, y) (1)) _ _ (by omega) ⟨(true, x, y), false, _, a2, k, rfl, hr, e1.trans e2, g2, fun z => (by cases z), fun _ => hend⟩
      | true =>
        have hmem := (whole_mem (hs := hs) (b := (true, x, y)) (w := 1) (by simp) hwc).2
        have hrn := room_nxt (b := (true, x, y)) (w := 1) (by simp) (hR _ hh)
        rw [hnx] at hmem hrn
        simp [tyD, g2, wd_t]
        refine ⟨by omega, hN (room (true, x, y + 1) (1) + 1) _ _ (by omega) ⟨(true, x, y + 1), true, _, a2 ++ [(true, x, y + 1)], k, rfl, hr, (e1.trans e2).putN hpf, by rw [put_same]; simp [eB, wd_t], fun _ => ⟨rfl, hmem, ?_, by omega⟩, fun z => by cases z⟩⟩
        rw [← hrun]
        conv => rhs; unfold runF
        rw [hwc, hnx]
        simp
    · have hc : whole hs ((x - 1) + 1, y + 1) = whole hs (cw (false, x, y) (-1)) := by simp [cw, c0, c1]
      have hnx : nxt (false, x, y) (-1) = (false, x + -1, y) := by simp [nxt]
      simp [wd_f, down_ne]
      refine ⟨_, ⟨ph, hs, _, _, rfl, e1 _ _ hph, rfl⟩, fun S2 e2 => ?_⟩
      rw [hc]
      have g2 := e2 _ _ g1
      cases hwc : whole hs (cw (false, x, y) (-1)) with
      | false =>
        have hend : a2 = acc ++ runOf hs b (-1) := by rw [← hrun]; unfold runF; rw [hwc]; simp
        simp
        exact hN (room (false, x, y) (-1)) _ _ (by omega) ⟨(false, x, y), false, _, a2, k, rfl, hr, e1.trans e2, g2, fun z => (by cases z), fun _ => hend⟩
      | true =>
        have hmem := (whole_mem (hs := hs) (b := (false, x, y)) (w := -1) (by simp) hwc).2
        have hrn := room_nxt (b := (false, x, y)) (w := -1) (by simp) (hR _ hh)
        rw [hnx] at hmem hrn
        simp [tyD, g2, wd_f, down_ne]
        refine ⟨by omega, hN (room (false, x + -1, y) (-1) + 1) _ _ (by omega) ⟨(false, x + -1, y), true, _, a2 ++ [(false, x + -1, y)], k, rfl, hr, (e1.trans e2).putN hpf, by rw [put_same]; simp [eB, wd_f, down_ne], fun _ => ⟨rfl, hmem, ?_, by omega⟩, fun z => by cases z⟩⟩
        rw [← hrun]
        conv => rhs; unfold runF
        rw [hwc, hnx]
        simp
    · have hc : whole hs (x + 1, (y - 1) + 1) = whole hs (cw (true, x, y) (-1)) := by simp [cw, c0, c1]
      have hnx : nxt (true, x, y) (-1) = (true, x, y + -1) := by simp [nxt]
      simp [wd_t]
      refine ⟨_, ⟨ph, hs, _, _, rfl, e1 _ _ hph, rfl⟩, fun S2 e2 => ?_⟩
      rw [hc]
      have g2 := e2 _ _ g1
      cases hwc : whole hs (cw (true, x, y) (-1)) with
      | false =>
        have hend : a2 = acc ++ runOf hs b (-1) := by rw [← hrun]; unfold runF; rw [hwc]; simp
        simp
        exact hN (room (true, x, y) (-1)) _ _ (by omega) ⟨(true, x, y), false, _, a2, k, rfl, hr, e1.trans e2, g2, fun z => (by cases z), fun _ => hend⟩
      | true =>
        have hmem := (whole_mem (hs := hs) (b := (true, x, y)) (w := -1) (by simp) hwc).2
        have hrn := room_nxt (b := (true, x, y)) (w := -1) (by simp) (hR _ hh)
        rw [hnx] at hmem hrn
        simp [tyD, g2, wd_t]
        refine ⟨by omega, hN (room (true, x, y + -1) (-1) + 1) _ _ (by omega) ⟨(true, x, y + -1), true, _, a2 ++ [(true, x, y + -1)], k, rfl, hr, (e1.trans e2).putN hpf, by rw [put_same]; simp [eB, wd_t], fun _ => ⟨rfl, hmem, ?_, by omega⟩, fun z => by cases z⟩⟩
        rw [← hrun]
        conv => rhs; unfold runF
        rw [hwc, hnx]
        simp
end DL

namespace DL
open PySem PySem.Spec PyProof.Rows L2

theorem rd__law_tear : Rd n__law_tear t__law_tear sp__law_tear := fun {args S Q Ed} h => by
  obtain ⟨v, ⟨fs, ps, ph, hs, b, rfl, hph, hR, rfl⟩, hQ⟩ := h
  by_cases hb : b ∈ hs
  · simp [t__law_tear, n__law_tear, hph, pl_B, mem_eB, hb]
    intro pf hpf
    have e1 := Ext.new (o := .lst [eB b]) hpf
    have g1 : put S pf (.lst [eB b]) pf = some (.lst ([b].map eB)) := put_same
    generalize put S pf (.lst [eB b]) = S1 at e1 g1
    unfold l__law_tear_2
    have hl1 : (runOf hs b 1).length ≤ 16 := runF_len hs 16 b 1
    have hl2 : (runOf hs b (-1)).length ≤ 16 := runF_len hs 16 b (-1)
    simp only [dFor, dIter, dTup, dCons, dNil, dC, dUn, rNegI]
    refine ⟨trivial, ?_⟩
    simp [eB]
    refine tear_loop (b := b) (w := 1) (.inl rfl) hph hR hb hpf (by simp) e1 g1 fun here c S2 e2 g2 => ?_
    refine ⟨trivial, ?_⟩
    simp [eB]
    refine tear_loop (b := b) (w := -1) (.inr rfl) hph hR hb hpf (by simp; omega) e2 g2 fun here' c' S3 e3 g3 => ?_
    refine ⟨trivial, ?_⟩
    have hperm : ([b] ++ runOf hs b 1 ++ runOf hs b (-1)).Perm (runOf hs b (-1) ++ [b] ++ runOf hs b 1) := by
      refine List.perm_append_comm.trans ?_
      rw [List.append_assoc]
    have hset : srt eB ([b] ++ runOf hs b 1 ++ runOf hs b (-1)) = tearSet hs b := srt_eq oinj_B hperm
    have hmem : ∀ x, x ∈ [b] ++ runOf hs b 1 ++ runOf hs b (-1) ↔ x ∈ tearSet hs b := fun x => by rw [← hset, mem_srt]
    generalize [b] ++ runOf hs b 1 ++ runOf hs b (-1) = l at g3 hset hmem
    simp only [dSeq, dIfS, dB, dOp]
    refine dLc_flt (fun _ _ => eB_inj) (l := l) (fun x => !decide (x ∈ ps)) (fun R hR' => ?_) (by simp) (fun x hx S' e K hK => ?_) (fun S7 q e7 hq => ?_)
    · simp [g3]
      exact hR' S3 _ (Ext.refl _) fun S' e => e _ _ g3
    · simp [eS, pl_B, pl_Bs 7, mem_eB]
      have := hK S' (Ext.refl _)
      by_cases hb : x ∈ ps
      · simp [hb] at this ⊢; exact this
      · simp [hb] at this ⊢; exact this
    · intro p8 hp8
      have g8 : put (put S7 q (.lst ((l.filter fun x => !decide (x ∈ ps)).map eB))) p8 (.lst []) q = some (.lst ((l.filter fun x => !decide (x ∈ ps)).map eB)) := put_get hp8 put_same
      have e8 := (e3.trans e7).trans ((Ext.new (o := .lst ((l.filter fun x => !decide (x ∈ ps)).map eB)) hq).trans (Ext.new (o := .lst []) hp8))
      have g83 : put (put S7 q (.lst ((l.filter fun x => !decide (x ∈ ps)).map eB))) p8 (.lst []) pf = some (.lst (l.map eB)) := Ext.new hp8 _ _ (Ext.new hq _ _ (e7 _ _ g3))
      simp only [rNeD, eqOk, eqV, g8, put_same]
      refine ⟨by simp [pl_Bs 7, pl_B], ?_⟩
      generalize put (put S7 q (.lst ((l.filter fun x => !decide (x ∈ ps)).map eB))) p8 (.lst []) = S8 at e8 g83
      by_cases hall : ∀ x ∈ l, x ∈ ps
      · have hnil : l.filter (fun x => !decide (x ∈ ps)) = [] := filter_none fun a ha => by simpa using hall a ha
        simp [hnil, rSortD, g83]
        refine ⟨sort_B l, fun p9 hp9 => ?_⟩
        rw [put_same, dsort_map, hset]
        have hq9 := hQ _ (e8.trans (Ext.new (o := .lst ((tearSet hs b).map eB)) hp9))
        have : tearAt hs ps b = some (tearSet hs b) := by
          unfold tearAt
          rw [if_pos hb, if_pos]
          rw [List.all_eq_true]
          exact fun x hx => by simpa using hall x ((hmem x).mpr hx)
        rw [this] at hq9
        exact hq9
      · have hne : ¬ l.filter (fun x => !decide (x ∈ ps)) = [] := fun z => hall fun x hx => by
          have := List.filter_eq_nil_iff.mp z x hx
          simpa using this
        simp [hne]
        have hq9 := hQ _ e8
        have : tearAt hs ps b = none := by
          unfold tearAt
          rw [if_pos hb, if_neg]
          rw [List.all_eq_true]
          exact fun z => hall fun x hx => by simpa using z x ((hmem x).mp hx)
        rw [this] at hq9
        exact hq9
  · have hq := hQ S (Ext.refl S)
    have : tearAt hs ps b = none := by unfold tearAt; rw [if_neg hb]
    rw [this] at hq
    simp [t__law_tear, n__law_tear, hph, pl_B, mem_eB, hb]
    exact hq
end DL

namespace DL
open PySem PySem.Spec PyProof.Rows L2

theorem rNin_T {S : Store} {a : Addr} {l : List (List Bd)} {g : List Bd} {Q : DQ} (h : S a = some (.lst (l.map eT))) (q : Q (.bl (!decide (g ∈ l))) S) : rNinD (eT g) (.loc a) S Q := by
  simp only [rNinD, inOk, inV, h, pl_T 6, pl_Ts 6, mem_eT]
  exact ⟨rfl, q⟩
def sp__law_tears : DSp := spL fun args _ ds => ∃ fs ps tn, args = [eS fs ps, eT tn] ∧ Valid fs ps ∧ ds = (tearsOf (hang fs tn) ps).map eT
def n__law_tears : List Str := ["sheet", "torn", "hanging", "found", "border", "tear"]
def l__law_tears_1 (W : DWX) : DTS := (dFor (dIter (dOp rIxD (dVar 0) (dC (.int 1)))) (gN 4) (dSeq (dAsg (dCall sp__law_tear W (dCons (dVar 0) (dCons (dVar 2) (dCons (dVar 4) dNil)))) (gN 5))
  (dIfS (dAnd (dB (dOp rNotN (dVar 5) (dC .non))) (dB (dOp rNinD (dVar 5) (dVar 3)))) (dDrop (dBM "list" rAppD (dVar 3) (dCons (dVar 5) dNil))) dNext)))
def t__law_tears (W : DWX) : DTS := (dSeq (dAsg (dCall sp__law_hang W (dCons (dVar 0) (dCons (dVar 1) dNil))) (gN 2))
  (dSeq (dAsg (dLst dNil) (gN 3))
  (dSeq (l__law_tears_1 W)
  (dRet (dCB rSortD (dCons (dVar 3) dNil))))))
theorem len__law_tears : Ln 2 sp__law_tears := fun _ _ _ _ ⟨_, ⟨_, _, _, h, _⟩, _⟩ => by rw [h]; rfl
theorem rd__law_tears : Rd n__law_tears t__law_tears sp__law_tears := fun {args S Q Ed} h => by
  obtain ⟨v, ⟨fs, ps, tn, rfl, V, rfl⟩, hQ⟩ := h
  have hfew := V.few
  have hpl := V.plen
  simp [t__law_tears, n__law_tears]
  refine ⟨_, ⟨fs, ps, tn, rfl, by omega, rfl⟩, fun S1 ph e1 hph h1 => ?_⟩
  intro pf hpf
  have e2 := e1.trans (Ext.new (o := .lst []) hpf)
  have g2 : put S1 pf (.lst []) pf = some (.lst []) := put_same
  have h1' := Ext.new (o := .lst []) hpf _ _ h1
  have hpfS := e1.free hpf
  have hne : ph ≠ pf := fun z => by rw [z, hpf] at h1; cases h1
  generalize put S1 pf (.lst []) = S2 at e2 g2 h1'
  unfold l__law_tears_1
  refine dFor_inv (ds := ps.map eB) (G := fun _ => True) (S1 := S2) (fun R h => ?_)
    (fun rest σ S' => ∃ (done gs : List Bd) (a b : Option D), rest = gs.map eB ∧ ps = done ++ gs ∧ σ = [some (eS fs ps), some (eT tn), some (.loc ph), some (.loc pf), a, b] ∧ Ext S S' ∧ S' ph = some (.lst ((hang fs tn).map eB)) ∧ S' pf = some (.lst ((done.foldl (tStep (hang fs tn) ps) []).map eT)))
    ⟨[], ps, none, none, rfl, rfl, rfl, e2, h1', g2⟩ ?_ ?_
  · simp [eS]
    exact h
  · rintro σ S' ⟨done, gs, a, b, q1, q2, rfl, q3, q4, q5⟩
    have : gs = [] := by cases gs with | nil => rfl | cons _ _ => simp at q1
    subst this
    rw [List.append_nil] at q2
    refine ⟨trivial, ?_⟩
    simp [rSortD, q5]
    refine ⟨sort_T _ fun t ht => ?_, fun p hp => ?_⟩
    · rcases mem_raw.mp ht with k | ⟨b, _, k⟩
      · simp at k
      · rw [(tearAt_some k).2.1]; exact tearSet_ne _ b
    · rw [dsort_map, ← q2]
      exact hQ _ p (q3.trans (Ext.new hp)) (q3.free hp) put_same
  · rintro x rest σ S' ⟨done, gs, a, b, q1, q2, rfl, q3, q4, q5⟩
    refine ⟨trivial, fun N hN => ?_⟩
    cases gs with
    | nil => simp at q1
    | cons bd gs =>
      simp only [List.map_cons, List.cons.injEq] at q1
      obtain ⟨rfl, rfl⟩ := q1
      simp only [dSeq, dAsg, dCall, dCons, dNil, dIfS]
      refine ⟨_, ⟨fs, ps, ph, hang fs tn, bd, rfl, q4, V.inR tn, rfl⟩, fun S3 e3 => ?_⟩
      have g3 := e3 _ _ q5
      cases ht : tearAt (hang fs tn) ps bd with
      | none =>
        simp [tD]
        refine hN _ _ ⟨done ++ [bd], gs, some (eB bd), some .non, rfl, by rw [q2]; simp, rfl, q3.trans e3, e3 _ _ q4, ?_⟩
        rw [g3, List.foldl_append]
        simp [tStep, ht]
      | some t =>
        have hlen : (done.foldl (tStep (hang fs tn) ps) []).length ≤ done.length := by have := raw_len (hs := hang fs tn) (pk := ps) (l := done) (ts := []); simpa using this
        have hdl : done.length ≤ 1000 := by have := congrArg List.length q2; simp at this; omega
        have hnn : isN (eT t) = false := rfl
        have hstep : (done ++ [bd]).foldl (tStep (hang fs tn) ps) [] = addT (done.foldl (tStep (hang fs tn) ps) []) t := by
          rw [List.foldl_append]; simp [tStep, ht]
        simp only [gN, dIfS, dAnd, dB, dOp, dC, rNotN, dBool, tD, List.set_cons_succ, List.set_cons_zero, dVar_succ, dVar_zero, hnn, Bool.not_false, if_true]
        refine rNin_T (g := t) g3 ?_
        by_cases hin : t ∈ done.foldl (tStep (hang fs tn) ps) []
        · simp [hin]
          refine hN _ _ ⟨done ++ [bd], gs, some (eB bd), some (eT t), rfl, by rw [q2]; simp, rfl, q3.trans e3, e3 _ _ q4, ?_⟩
          rw [hstep, g3]
          unfold addT
          rw [if_pos hin]
        · simp [hin, tyD, g3]
          refine ⟨by omega, hN _ _ ⟨done ++ [bd], gs, some (eB bd), some (eT t), rfl, by rw [q2]; simp, rfl, (q3.trans e3).putN hpfS, get_put (e3 _ _ q4) hne, ?_⟩⟩
          rw [hstep, put_same]
          unfold addT
          rw [if_neg hin]
          simp
/-! ### torn on the way, torn to the end -/
def sp__law_torn : DSp := fun args S Q _ => ∃ (a : Addr) (ns : List Int) (k : Int) (fs : List Fd) (ps : List Bd), args = [.loc a, .int k, eS fs ps] ∧ S a = some (.scr ns) ∧ 0 ≤ k ∧ Valid fs ps ∧ ∀ tn n S', TornOk ps tn → Steps ps n (hang fs []) (hang fs tn) → Ext S S' → Q (eT tn) S'
def n__law_torn : List Str := ["script", "at", "sheet", "draws", "torn", "time", "some"]
def l__law_torn_1 (W : DWX) : DTS := (dFor (dRng1 (dCons (dOp rModI (dOp rIxD (dVar 3) (dC (.int 0))) (dC (.int 6))) dNil)) (gN 5) (dSeq (dAsg (dCall sp__law_tears W (dCons (dVar 2) (dCons (dVar 4) dNil))) (gN 6))
  (dIfS (dB (dOp rNeD (dVar 6) (dLst dNil))) (dAsg (dCB rTupD (dCons (dCB rSortD (dCons (dOp rCatD (dVar 4) (dOp rIxD (dVar 6) (dOp rModI (dOp rIxD (dVar 3) (dOp rCatD (dC (.int 1)) (dVar 5))) (dCB rLenD (dCons (dVar 6) dNil))))) dNil)) dNil)) (gN 4)) dNext)))
def t__law_torn (W : DWX) : DTS := (dSeq (dAsg (dCall sp__law_row W (dCons (dVar 0) (dCons (dVar 1) dNil))) (gN 3))
  (dSeq (dAsg (dTup dNil) (gN 4))
  (dSeq (l__law_torn_1 W)
  (dRet (dVar 4)))))
theorem len__law_torn : Ln 3 sp__law_torn := fun _ _ _ _ ⟨_, _, _, _, _, h, _⟩ => by rw [h]; rfl
theorem ne_nil_T {S : Store} {p : Addr} {l : List (List Bd)} {Q : DQ} (h : S p = some (.lst (l.map eT))) (q : ∀ p', S p' = none → Q (.bl (!decide (l = []))) (put S p' (.lst []))) : ∀ p', S p' = none → rNeD (.loc p) (.loc p') (put S p' (.lst [])) Q := fun p' hp' => by
  have h1 := Ext.new (o := .lst []) hp' _ _ h
  simp only [rNeD, eqOk, eqV, h1, put_same]
  refine ⟨by rw [pl_Ts 6]; rfl, ?_⟩
  have e : decide (l.map eT = []) = decide (l = []) := by rw [Bool.eq_iff_iff]; simp
  rw [e]
  exact q p' hp'
theorem rd__law_torn : Rd n__law_torn t__law_torn sp__law_torn := fun {args S Q Ed} h => by
  obtain ⟨a, ns, k, fs, ps, rfl, ha, hk, V, hQ⟩ := h
  simp [t__law_torn, n__law_torn]
  refine ⟨a, ns, k, rfl, ha, hk, fun dr S1 pd hdr e1 hpd h1 => ?_⟩
  obtain ⟨d0, hd0, _, _⟩ := draw_at hdr (i := 0) (by decide) (by decide)
  unfold l__law_torn_1
  refine dFor_inv (ds := (List.range (d0 % 6).toNat).map fun (i : Nat) => D.int (i : Int)) (G := fun _ => True) (S1 := S1) (fun R h => ?_)
    (fun rest σ S' => ∃ (m : Nat) (tn : List Bd) (n : Nat) (b c : Option D), rest = ((List.range (d0 % 6).toNat).map fun (i : Nat) => D.int (i : Int)).drop m ∧ m ≤ (d0 % 6).toNat ∧ σ = [some (.loc a), some (.int k), some (eS fs ps), some (.loc pd), some (eT tn), b, c] ∧ Ext S S' ∧ S' pd = some (.lst (dr.map D.int)) ∧ TornOk ps tn ∧ Steps ps n (hang fs []) (hang fs tn))
    ⟨0, [], 0, none, none, rfl, by omega, rfl, e1, h1, torn_nil ps, .nil⟩ ?_ ?_
  · simp [dRng1, h1, hd0]
    exact ⟨by omega, h⟩
  · rintro σ S' ⟨m, tn, n, b, c, q1, q2, rfl, q3, q4, q5, q6⟩
    refine ⟨trivial, ?_⟩
    simp
    exact hQ tn n S' q5 q6 q3
  · rintro x rest σ S' ⟨m, tn, n, b, c, q1, q2, rfl, q3, q4, q5, q6⟩
    refine ⟨trivial, fun N hN => ?_⟩
    have hm : m < (d0 % 6).toNat := by
      rcases Nat.lt_or_ge m (d0 % 6).toNat with k | k
      · exact k
      · rw [List.drop_eq_nil_of_le (by simp; omega)] at q1; cases q1
    have hd : ((List.range (d0 % 6).toNat).map fun (i : Nat) => D.int (i : Int)).drop m = D.int (m : Int) :: ((List.range (d0 % 6).toNat).map fun (i : Nat) => D.int (i : Int)).drop (m + 1) := by
      rw [List.drop_eq_getElem_cons (by simp; omega)]
      simp
    rw [hd, List.cons.injEq] at q1
    obtain ⟨rfl, rfl⟩ := q1
    simp only [dSeq, dAsg, dCall, dCons, dNil, dIfS, dB, dOp, dLst]
    refine ⟨_, ⟨fs, ps, tn, rfl, V, rfl⟩, fun S2 p2 e2 hp2 h2 => ?_⟩
    refine ne_nil_T h2 fun p3 hp3 => ?_
    have e3 := e2.trans (Ext.new (o := .lst []) hp3)
    have h3 := Ext.new (o := .lst []) hp3 _ _ h2
    generalize put S2 p3 (.lst []) = S3 at e3 h3
    cases hts : tearsOf (hang fs tn) ps with
    | nil =>
      simp
      exact hN _ _ ⟨m + 1, tn, n, _, _, rfl, by omega, rfl, q3.trans e3, e3 _ _ q4, q5, q6⟩
    | cons t0 ts =>
      obtain ⟨dm, hdm, hm1, hm2⟩ := draw_at hdr (i := 1 + (m : Int)) (by omega) (by omega)
      have hl : 0 < ((t0 :: ts).length : Int) := by simp only [List.length_cons]; omega
      have hmod : 0 ≤ dm % ((t0 :: ts).length : Int) ∧ dm % ((t0 :: ts).length : Int) < (t0 :: ts).length := ⟨Int.emod_nonneg _ (by omega), Int.emod_lt_of_pos _ hl⟩
      have hat := atI_map (e := eT) (l := t0 :: ts) hmod.1 hmod.2
      have hmem : ((t0 :: ts)[(dm % ((t0 :: ts).length : Int)).toNat]'(by omega)) ∈ t0 :: ts := List.getElem_mem _
      generalize hg : ((t0 :: ts)[(dm % ((t0 :: ts).length : Int)).toNat]'(by omega)) = t at hat hmem
      have htm : t ∈ tearsOf (hang fs tn) ps := by rw [hts]; exact hmem
      rw [hts] at h3
      obtain ⟨T', hh'⟩ := torn_step V q5 htm
      have htl := q5.len V
      have htl' : t.length ≤ 32 := by
        have := T'.len V
        rw [tear1, srt_len, List.length_append] at this
        omega
      have hlm : (((t0 :: ts).map eT).length : Int) = ((t0 :: ts).length : Int) := by rw [List.length_map]
      have hd4 := e3 _ _ q4
      simp [h3, hd4, hdm]
      simp only [List.map_cons, List.length_cons] at hat
      have hat' : atI (eT t0 :: ts.map eT) (dm % ((ts.length : Int) + 1)) = some (eT t) := by
        have e : ((ts.length + 1 : Nat) : Int) = (ts.length : Int) + 1 := by omega
        rw [e] at hat
        exact hat
      simp only [hat']
      simp [eT]
      refine ⟨by omega, ?_⟩
      rw [← List.map_append]
      refine ⟨sort_B _, fun p4 hp4 => ?_⟩
      rw [dsort_map]
      simp only [put_same]
      refine hN _ _ ⟨m + 1, tear1 tn t, n + 1, _, _, rfl, by omega, rfl, (q3.trans e3).trans (Ext.new hp4), Ext.new hp4 _ _ (e3 _ _ q4), T', ?_⟩
      rw [hh']
      exact q6.snoc htm
def sp__law_end : DSp := fun args S Q _ => ∃ (fs : List Fd) (ps tn : List Bd) (pd : Addr) (dr : List Int), args = [eS fs ps, eT tn, .loc pd] ∧ S pd = some (.lst (dr.map D.int)) ∧ Draws dr ∧ Valid fs ps ∧ TornOk ps tn ∧
  ∀ (tn' : List Bd) (n : Nat) S', TornOk ps tn' → Steps ps n (hang fs tn) (hang fs tn') → tearsOf (hang fs tn') ps = [] → Ext S S' → Q (.tup [eT tn', .int n]) S'
def n__law_end : List Str := ["sheet", "torn", "draws", "many", "some"]
def l__law_end_1 (W : DWX) : DTS := (dWhile (dB (dOp rNeD (dVar 4) (dLst dNil))) (dSeq (dAsg (dCB rTupD (dCons (dCB rSortD (dCons (dOp rCatD (dVar 1) (dOp rIxD (dVar 4) (dOp rModI (dOp rIxD (dVar 2) (dOp rModI (dVar 3) (dC (.int 60)))) (dCB rLenD (dCons (dVar 4) dNil))))) dNil)) dNil)) (gN 1))
  (dSeq (dAsg (dOp rCatD (dVar 3) (dC (.int 1))) (gN 3))
  (dAsg (dCall sp__law_tears W (dCons (dVar 0) (dCons (dVar 1) dNil))) (gN 4)))))
def t__law_end (W : DWX) : DTS := (dSeq (dAsg (dC (.int 0)) (gN 3))
  (dSeq (dAsg (dCall sp__law_tears W (dCons (dVar 0) (dCons (dVar 1) dNil))) (gN 4))
  (dSeq (l__law_end_1 W)
  (dRet (dTup (dCons (dVar 1) (dCons (dVar 3) dNil)))))))
theorem len__law_end : Ln 3 sp__law_end := fun _ _ _ _ ⟨_, _, _, _, _, h, _⟩ => by rw [h]; rfl
theorem rd__law_end : Rd n__law_end t__law_end sp__law_end := fun {args S Q Ed} h => by
  obtain ⟨fs, ps, tn, pd, dr, rfl, hpd, hdr, V, T, hQ⟩ := h
  have hfew := V.few
  simp only [t__law_end, n__law_end, dSeq, dAsg, dCall, dCons, dNil, dC]
  refine ⟨_, ⟨fs, ps, tn, rfl, V, rfl⟩, fun S1 p1 e1 hp1 h1 => ?_⟩
  unfold l__law_end_1
  refine whileN_inv (n := (hang fs tn).length) (fun m σ S' => ∃ (tn' : List Bd) (k : Nat) (p : Addr), σ = [some (eS fs ps), some (eT tn'), some (.loc pd), some (.int k), some (.loc p)] ∧ m = (hang fs tn').length ∧ Ext S S' ∧ S' p = some (.lst ((tearsOf (hang fs tn') ps).map eT)) ∧ TornOk ps tn' ∧ Steps ps k (hang fs tn) (hang fs tn')) ?_
    ⟨tn, 0, p1, rfl, rfl, e1, h1, T, .nil⟩
  rintro m σ S' ⟨tn', k, p, rfl, rfl, q1, q2, q3, q4⟩ N hN
  have hd1 := q1 _ _ hpd
  simp only [dB, dOp, dLst, dNil]
  refine ne_nil_T q2 fun p3 hp3 => ?_
  have e3 := q1.trans (Ext.new (o := .lst []) hp3)
  have h3 := Ext.new (o := .lst []) hp3 _ _ q2
  generalize put S' p3 (.lst []) = S3 at e3 h3
  cases hts : tearsOf (hang fs tn') ps with
  | nil =>
    simp
    exact hQ tn' k S3 q3 q4 hts e3
  | cons t0 ts =>
    obtain ⟨dm, hdm, hm1, hm2⟩ := draw_at hdr (i := (k : Int) % 60) (Int.emod_nonneg _ (by decide)) (Int.emod_lt_of_pos _ (by decide))
    have hl : 0 < ((t0 :: ts).length : Int) := by simp only [List.length_cons]; omega
    have hmod : 0 ≤ dm % ((t0 :: ts).length : Int) ∧ dm % ((t0 :: ts).length : Int) < (t0 :: ts).length := ⟨Int.emod_nonneg _ (by omega), Int.emod_lt_of_pos _ hl⟩
    have hat := atI_map (e := eT) (l := t0 :: ts) hmod.1 hmod.2
    have hmem : ((t0 :: ts)[(dm % ((t0 :: ts).length : Int)).toNat]'(by omega)) ∈ t0 :: ts := List.getElem_mem _
    generalize hg : ((t0 :: ts)[(dm % ((t0 :: ts).length : Int)).toNat]'(by omega)) = t at hat hmem
    have htm : t ∈ tearsOf (hang fs tn') ps := by rw [hts]; exact hmem
    rw [hts] at h3
    obtain ⟨T', hh'⟩ := torn_step V q3 htm
    have hlen := (tear_len (V.inR tn') (hang_ris V.fris.nodup) htm).1
    have htl := q3.len V
    have htl' : t.length ≤ 32 := by
      have := T'.len V
      rw [tear1, srt_len, List.length_append] at this
      omega
    have hd4 := e3 _ _ hpd
    simp [h3, hd4, hdm]
    simp only [List.map_cons, List.length_cons] at hat
    have hat' : atI (eT t0 :: ts.map eT) (dm % ((ts.length : Int) + 1)) = some (eT t) := by
      have e : ((ts.length + 1 : Nat) : Int) = (ts.length : Int) + 1 := by omega
      rw [e] at hat
      exact hat
    simp only [hat']
    simp [eT]
    refine ⟨by omega, ?_⟩
    rw [← List.map_append]
    refine ⟨sort_B _, fun p4 hp4 => ?_⟩
    rw [dsort_map]
    simp only [put_same]
    refine ⟨_, ⟨fs, ps, tear1 tn' t, rfl, V, rfl⟩, fun S5 p5 e5 hp5 h5 => ?_⟩
    refine hN (hang fs (tear1 tn' t)).length _ _ (by rw [hh']; omega) ⟨tear1 tn' t, k + 1, p5, rfl, rfl, (e3.trans (Ext.new hp4)).trans e5, h5, T', ?_⟩
    rw [hh']
    exact q4.snoc htm
end DL

namespace DL
open PySem PySem.Spec PyProof.Rows L2

/-! ### the law's lots -/
def near4 (f : Fd) : List (Fd × Bd) := [((f.1 + 1, f.2), (true, f.1, f.2)), ((f.1 - 1, f.2), (true, f.1 - 1, f.2)), ((f.1, f.2 + 1), (false, f.1, f.2)), ((f.1, f.2 - 1), (false, f.1, f.2 - 1))]
def eP (p : Fd × Bd) : D := .tup [eF p.1, eB p.2]
theorem near4_adj {hs : List Bd} {f g : Fd} : Adj hs f g ↔ ∃ b, (g, b) ∈ near4 f ∧ b ∈ hs := by
  obtain ⟨x, y⟩ := f
  constructor
  · rintro ⟨⟨r, u, v⟩, hb, h⟩
    rcases h with ⟨h1, h2⟩ | ⟨h1, h2⟩
    · simp [fst'] at h1
      obtain ⟨rfl, rfl⟩ := h1
      subst h2
      refine ⟨_, ?_, hb⟩
      cases r <;> simp [near4, oth]
    · subst h1
      refine ⟨_, ?_, hb⟩
      cases r <;> simp [oth] at h2 <;> obtain ⟨h2, h3⟩ := h2 <;> simp [near4, fst'] <;> omega
  · rintro ⟨b, hm, hb⟩
    refine ⟨b, hb, ?_⟩
    simp [near4] at hm
    rcases hm with ⟨rfl, rfl⟩ | ⟨rfl, rfl⟩ | ⟨rfl, rfl⟩ | ⟨rfl, rfl⟩
    · left; simp [fst', oth]
    · right; simp [fst', oth]
    · left; simp [fst', oth]
    · right; simp [fst', oth]
theorem near4_fst (f : Fd) : ((near4 f).map (·.1)).Nodup := by
  obtain ⟨x, y⟩ := f
  simp [near4]
  omega
def sp__law_lots : DSp := spL fun args S ds => ∃ (fs : List Fd) (hs : List Bd) (ph : Addr), args = [.tup (fs.map eF), .loc ph] ∧ S ph = some (.lst (hs.map eB)) ∧ Ris eF fs ∧ fs.length ≤ 1000 ∧ InF fs hs ∧ ds = (parts fs hs).map eL
def n__law_lots : List Str := ["fields", "hanging", "found", "field", "lot", "at", "x", "y", "near", "other", "border"]
def l__law_lots_1 (W : DWX) : DTS := (dWhile (dB (dOp (rI2 fun i j => .bl (decide (i < j))) (dVar 5) (dCB rLenD (dCons (dVar 4) dNil)))) (dSeq (dAsg (dOp rIxD (dVar 4) (dVar 5)) (gT 2 (gsCons (gN 6) (gsCons (gN 7) gsNil))))
  (dSeq (dAsg (dLst (dCons (dTup (dCons (dTup (dCons (dOp rCatD (dVar 6) (dC (.int 1))) (dCons (dVar 7) dNil))) (dCons (dTup (dCons (dC (.str "right")) (dCons (dVar 6) (dCons (dVar 7) dNil)))) dNil))) (dCons (dTup (dCons (dTup (dCons (dOp (rI2 fun i j => .int (i - j)) (dVar 6) (dC (.int 1))) (dCons (dVar 7) dNil))) (dCons (dTup (dCons (dC (.str "right")) (dCons (dOp (rI2 fun i j => .int (i - j)) (dVar 6) (dC (.int 1))) (dCons (dVar 7) dNil)))) dNil))) dNil))) (gN 8))
  (dSeq (dAsg (dOp rCatD (dVar 8) (dLst (dCons (dTup (dCons (dTup (dCons (dVar 6) (dCons (dOp rCatD (dVar 7) (dC (.int 1))) dNil))) (dCons (dTup (dCons (dC (.str "down")) (dCons (dVar 6) (dCons (dVar 7) dNil)))) dNil))) (dCons (dTup (dCons (dTup (dCons (dVar 6) (dCons (dOp (rI2 fun i j => .int (i - j)) (dVar 7) (dC (.int 1))) dNil))) (dCons (dTup (dCons (dC (.str "down")) (dCons (dVar 6) (dCons (dOp (rI2 fun i j => .int (i - j)) (dVar 7) (dC (.int 1))) dNil)))) dNil))) dNil)))) (gN 8))
  (dSeq (dAsg (dOp rCatD (dVar 4) (dLc (dIter (dVar 8)) (gT 2 (gsCons (gN 9) (gsCons (gN 10) gsNil))) (dAnd (dB (dOp rInD (dVar 10) (dVar 1))) (dB (dOp rNinD (dVar 9) (dVar 4)))) (dVar 9) [9, 10])) (gN 4))
  (dAsg (dOp rCatD (dVar 5) (dC (.int 1))) (gN 5)))))))
def l__law_lots_2 (W : DWX) : DTS := (dFor (dIter (dVar 0)) (gN 3) (dIfS (dB (dOp rEqD (dLc (dIter (dVar 2)) (gN 4) (dB (dOp rInD (dVar 3) (dVar 4))) (dVar 4) [4]) (dLst dNil))) (dSeq (dAsg (dLst (dCons (dVar 3) dNil)) (gN 4))
  (dSeq (dAsg (dC (.int 0)) (gN 5))
  (dSeq (l__law_lots_1 W)
  (dDrop (dBM "list" rAppD (dVar 2) (dCons (dCB rTupD (dCons (dCB rSortD (dCons (dVar 4) dNil)) dNil)) dNil)))))) dNext))
def t__law_lots (W : DWX) : DTS := (dSeq (dAsg (dLst dNil) (gN 2))
  (dSeq (l__law_lots_2 W)
  (dRet (dVar 2))))
theorem len__law_lots : Ln 2 sp__law_lots := fun _ _ _ _ ⟨_, ⟨_, _, _, h, _⟩, _⟩ => by rw [h]; rfl
def lF (hs : List Bd) (lot : List Fd) : D → Option D
  | .tup [a, b] => if b ∈ hs.map eB ∧ a ∉ lot.map eF then some a else none
  | _ => none
def more4 (hs : List Bd) (lot : List Fd) (f : Fd) : List Fd := ((near4 f).filter fun p => decide (p.2 ∈ hs) && !decide (p.1 ∈ lot)).map (·.1)
theorem lF_list (hs : List Bd) (lot : List Fd) : ∀ l : List (Fd × Bd), (l.map eP).filterMap (lF hs lot) = ((l.filter fun p => decide (p.2 ∈ hs) && !decide (p.1 ∈ lot)).map (·.1)).map eF
  | [] => rfl
  | p :: l => by
    have ih := lF_list hs lot l
    rw [List.map_cons, List.filter_cons]
    have e : lF hs lot (eP p) = if p.2 ∈ hs ∧ p.1 ∉ lot then some (eF p.1) else none := by
      show (if eB p.2 ∈ hs.map eB ∧ eF p.1 ∉ lot.map eF then some (eF p.1) else none) = _
      simp only [mem_eB, mem_eF]
    by_cases h1 : p.2 ∈ hs <;> by_cases h2 : p.1 ∈ lot
    · rw [List.filterMap_cons_none (by rw [e]; simp [h1, h2]), ih]; simp [h1, h2]
    · rw [List.filterMap_cons_some (b := eF p.1) (by rw [e]; simp [h1, h2]), ih]; simp [h1, h2]
    · rw [List.filterMap_cons_none (by rw [e]; simp [h1, h2]), ih]; simp [h1, h2]
    · rw [List.filterMap_cons_none (by rw [e]; simp [h1, h2]), ih]; simp [h1, h2]
theorem rCat_L {S : Store} {p1 p2 : Addr} {xs ys : List D} {Q : DQ} (h1 : S p1 = some (.lst xs)) (h2 : S p2 = some (.lst ys)) (hl : xs.length + ys.length ≤ 10000) (q : ∀ p, S p = none → Q (.loc p) (put S p (.lst (xs ++ ys)))) : rCatD (.loc p1) (.loc p2) S Q := by
  simp only [rCatD, h1, h2]
  exact ⟨hl, q⟩
abbrev σL (fs : List Fd) (ph pf : Addr) (f : Fd) (pl : Addr) (k : Int) (a b c : Option D) : DSt := [some (.tup (fs.map eF)), some (.loc ph), some (.loc pf), some (eF f), some (.loc pl), some (.int k), a, b, c, none, none]
theorem lots_inner {W : DWX} {S0 : Store} {fs : List Fd} {hs : List Bd} {ph pf p0 : Addr} {f : Fd} {a b c : Option D} (hr : Ris eF fs) (hl : fs.length ≤ 1000) (hin : InF fs hs) (hf : f ∈ fs) (hph : S0 ph = some (.lst (hs.map eB))) {S : Store} (he : Ext S0 S) (g0 : S p0 = some (.lst ([f].map eF))) {E : DEnds}
    (hE : ∀ p k a b c S' fd, Ext S S' → S' p = some (.lst (fd.map eF)) → srt eF fd = lotOf fs hs f → E.nx (σL fs ph pf f p k a b c) S') :
    l__law_lots_1 W E (σL fs ph pf f p0 0 a b c) S := by
  have hAin : ∀ g h, Adj hs g h → h ∈ fs := fun g h ⟨b, hb, k⟩ => by
    rcases k with ⟨_, rfl⟩ | ⟨rfl, _⟩
    · exact (hin b hb).2
    · exact (hin b hb).1
  unfold l__law_lots_1
  refine whileN_inv (n := fs.length) (fun m σ S' => ∃ (fd : List Fd) (k : Nat) (p : Addr) (a b c : Option D), σ = σL fs ph pf f p k a b c ∧ m = fs.length - k ∧ k ≤ fd.length ∧ Ext S S' ∧ S' p = some (.lst (fd.map eF)) ∧ fd.Nodup ∧ f ∈ fd ∧ (∀ g ∈ fd, g ∈ fs) ∧ (∀ g ∈ fd, Reach hs f g) ∧ ∀ i (hi : i < fd.length), i < k → ∀ h, Adj hs fd[i] h → h ∈ fd) ?_
    ⟨[f], 0, p0, a, b, c, rfl, rfl, by simp, Ext.refl S, g0, by simp, by simp, by simp; exact hf, fun g hg => by simp at hg; subst hg; exact .refl, fun i _ h => by omega⟩
  rintro m σ S' ⟨fd, k, p, a, b, c, rfl, rfl, hk, e1, g1, q1, q2, q3, q4, q5⟩ N hN
  have hfl : fd.length ≤ fs.length := len_le_of_nodup q1 q3
  have hcond : ∀ (A B : Prop), (k < fd.length → A) → (¬ k < fd.length → B) → (if decide ((k : Int) < ((fd.map eF).length : Int)) = true then A else B) := fun A B h1 h2 => by
    by_cases h : k < fd.length
    · rw [if_pos (by simp; exact h)]; exact h1 h
    · rw [if_neg (by simp; omega)]; exact h2 h
  simp only [dB, dOp, dCB, dCons, dNil, dVar_succ, dVar_zero, rLenD, g1, rI2, dBool]
  refine hcond _ _ (fun hlt => ?_) (fun hlt => ?_)
  · have hat : atI (fd.map eF) (k : Int) = some (eF fd[k]) := by rw [atI_map (by omega) (by omega)]; rfl
    have hmem : fd[k] ∈ fd := List.getElem_mem hlt
    generalize hfk : fd[k] = here at hmem hat
    obtain ⟨x, y⟩ := here
    simp only [dSeq, dAsg, dOp, dVar_succ, dVar_zero, rIxD, g1, atK, hat, optK]
    refine ⟨rfl, ?_⟩
    intro p1 hp1 p2 hp2
    have s1 : put S' p1 (.lst [D.tup [D.tup [D.int (x + 1), D.int y], D.tup [D.str "right", D.int x, D.int y]], D.tup [D.tup [D.int (x - 1), D.int y], D.tup [D.str "right", D.int (x - 1), D.int y]]]) p1 = some (.lst [D.tup [D.tup [D.int (x + 1), D.int y], D.tup [D.str "right", D.int x, D.int y]], D.tup [D.tup [D.int (x - 1), D.int y], D.tup [D.str "right", D.int (x - 1), D.int y]]]) := put_same
    have e2 := Ext.new (o := .lst [D.tup [D.tup [D.int (x + 1), D.int y], D.tup [D.str "right", D.int x, D.int y]], D.tup [D.tup [D.int (x - 1), D.int y], D.tup [D.str "right", D.int (x - 1), D.int y]]]) hp1
    generalize put S' p1 (.lst [D.tup [D.tup [D.int (x + 1), D.int y], D.tup [D.str "right", D.int x, D.int y]], D.tup [D.tup [D.int (x - 1), D.int y], D.tup [D.str "right", D.int (x - 1), D.int y]]]) = S2 at s1 e2 hp2 ⊢
    have s2 := Ext.new (o := .lst [D.tup [D.tup [D.int x, D.int (y + 1)], D.tup [D.str "down", D.int x, D.int y]], D.tup [D.tup [D.int x, D.int (y - 1)], D.tup [D.str "down", D.int x, D.int (y - 1)]]]) hp2 _ _ s1
    show rCatD (.loc p1) (.loc p2) (put S2 p2 (.lst [D.tup [D.tup [D.int x, D.int (y + 1)], D.tup [D.str "down", D.int x, D.int y]], D.tup [D.tup [D.int x, D.int (y - 1)], D.tup [D.str "down", D.int x, D.int (y - 1)]]])) _
    have s3 : put S2 p2 (.lst [D.tup [D.tup [D.int x, D.int (y + 1)], D.tup [D.str "down", D.int x, D.int y]], D.tup [D.tup [D.int x, D.int (y - 1)], D.tup [D.str "down", D.int x, D.int (y - 1)]]]) p2 = some (.lst [D.tup [D.tup [D.int x, D.int (y + 1)], D.tup [D.str "down", D.int x, D.int y]], D.tup [D.tup [D.int x, D.int (y - 1)], D.tup [D.str "down", D.int x, D.int (y - 1)]]]) := put_same
    refine rCat_L s2 s3 (by simp) fun p3 hp3 => ?_
    have e3 := (e2.trans (Ext.new hp2)).trans (Ext.new (o := .lst ((near4 (x, y)).map eP)) hp3)
    have hlist : [D.tup [D.tup [D.int (x + 1), D.int y], D.tup [D.str "right", D.int x, D.int y]], D.tup [D.tup [D.int (x - 1), D.int y], D.tup [D.str "right", D.int (x - 1), D.int y]]] ++ [D.tup [D.tup [D.int x, D.int (y + 1)], D.tup [D.str "down", D.int x, D.int y]], D.tup [D.tup [D.int x, D.int (y - 1)], D.tup [D.str "down", D.int x, D.int (y - 1)]]] = (near4 (x, y)).map eP := by
      simp [near4, eP, eF, eB, wd]
    rw [hlist]
    simp only [gN, dSeq, dAsg, dOp, σL, List.set_cons_succ, List.set_cons_zero, dVar_succ, dVar_zero]
    have g3 : (put (put S2 p2 (.lst [D.tup [D.tup [D.int x, D.int (y + 1)], D.tup [D.str "down", D.int x, D.int y]], D.tup [D.tup [D.int x, D.int (y - 1)], D.tup [D.str "down", D.int x, D.int (y - 1)]]])) p3 (.lst ((near4 (x, y)).map eP))) p3 = some (.lst ((near4 (x, y)).map eP)) := put_same
    generalize (put (put S2 p2 (.lst [D.tup [D.tup [D.int x, D.int (y + 1)], D.tup [D.str "down", D.int x, D.int y]], D.tup [D.tup [D.int x, D.int (y - 1)], D.tup [D.str "down", D.int x, D.int (y - 1)]]])) p3 (.lst ((near4 (x, y)).map eP))) = S3 at e3 g3
    have g13 := e3 _ _ g1
    have hph3 := e3 _ _ (e1 _ _ (he _ _ hph))
    refine dLc_pure (lF hs fd) (ds := (near4 (x, y)).map eP) (G := fun S => S p3 = some (.lst ((near4 (x, y)).map eP))) (S1 := S3) (fun R hR => ?_) (fun S' e => e _ _ g3) (fun z hz S'' e K hK => ?_) (fun S4 q e4 hq => ?_)
    · simp [g3]
      exact hR
    · obtain ⟨⟨g, bd⟩, _, rfl⟩ := List.mem_map.mp hz
      have := hK S'' (Ext.refl _)
      simp only [eP, lF, mem_eB, mem_eF] at this ⊢
      refine ⟨rfl, ?_⟩
      show rInD (eB bd) (.loc ph) S'' (fun x S1 => dBool x S1 fun c S2 => if c = true then rNinD (eF g) (.loc p) S2 (fun x S3 => dBool x S3 _) else _)
      refine rIn_B (e _ _ hph3) ?_
      by_cases h1 : bd ∈ hs
      · rw [decide_eq_true h1]
        simp only [dBool, if_true]
        refine rNin_F (e _ _ g13) ?_
        by_cases h2 : g ∈ fd
        · simp [h1, h2] at this ⊢; exact this
        · simp [h1, h2] at this ⊢; exact this
      · rw [decide_eq_false h1]
        simp [h1] at this ⊢; exact this
    · rw [lF_list]
      have g4 := Ext.new (o := .lst ((more4 hs fd (x, y)).map eF)) hq _ _ (e4 _ _ g13)
      show rCatD (.loc p) (.loc q) (put S4 q (.lst ((more4 hs fd (x, y)).map eF))) _
      have hml : (more4 hs fd (x, y)).length ≤ 4 := by unfold more4; rw [List.length_map]; exact List.length_filter_le _ _
      refine rCat_L g4 put_same (by simp only [List.length_map]; omega) fun p5 hp5 => ?_
      have hmm : ∀ g, g ∈ more4 hs fd (x, y) ↔ g ∉ fd ∧ Adj hs (x, y) g := fun g => by
        unfold more4
        rw [near4_adj]
        simp only [List.mem_map, List.mem_filter, Bool.and_eq_true, decide_eq_true_eq, Bool.not_eq_true', decide_eq_false_iff_not]
        constructor
        · rintro ⟨⟨g', b'⟩, ⟨h1, h2, h3⟩, rfl⟩; exact ⟨h3, b', h1, h2⟩
        · rintro ⟨h3, b', h1, h2⟩; exact ⟨(g, b'), ⟨h1, h2, h3⟩, rfl⟩
      refine hN (fs.length - (k + 1)) _ _ (by omega) ⟨fd ++ more4 hs fd (x, y), k + 1, p5, _, _, _, rfl, rfl, by simp; omega, (e1.trans e3).trans (e4.trans ((Ext.new hq).trans (Ext.new hp5))), by rw [put_same]; simp, ?_, List.mem_append_left _ q2, fun g hg => ?_, fun g hg => ?_, fun i hi hik h hA => ?_⟩
      · rw [List.nodup_append]
        refine ⟨q1, ?_, fun a ha b hb z => ((hmm b).mp hb).1 (z ▸ ha)⟩
        unfold more4
        exact List.Nodup.sublist (List.filter_sublist.map _) (near4_fst (x, y))
      · rcases List.mem_append.mp hg with hg | hg
        · exact q3 g hg
        · exact hAin _ g ((hmm g).mp hg).2
      · rcases List.mem_append.mp hg with hg | hg
        · exact q4 g hg
        · exact .step (q4 _ hmem) ((hmm g).mp hg).2
      · have hi' : i < fd.length := by omega
        have hget : (fd ++ more4 hs fd (x, y))[i] = fd[i] := List.getElem_append_left hi'
        rw [hget] at hA
        rcases Nat.lt_or_ge i k with hlt' | hge
        · exact List.mem_append_left _ (q5 i hi' hlt' h hA)
        · have : i = k := by omega
          subst this
          rw [hfk] at hA
          by_cases hh : h ∈ fd
          · exact List.mem_append_left _ hh
          · exact List.mem_append_right _ ((hmm h).mpr ⟨hh, hA⟩)
  · refine hE p k a b c S' fd e1 g1 (lot_is hr q1 q3 q2 q4 fun g hg h hA => ?_)
    obtain ⟨i, hi, rfl⟩ := List.mem_iff_getElem.mp hg
    exact q5 i hi (by omega) h hA
end DL

namespace DL
open PySem PySem.Spec PyProof.Rows L2

theorem pl_L (n : Nat) (t : List Fd) : (eL t).pl (n + 2) = true := pl_Fs n t
theorem pl_Ls (n : Nat) (l : List (List Fd)) : (l.map eL).all (D.pl (n + 2)) = true := by
  rw [List.all_map, List.all_eq_true]; exact fun b _ => pl_L n b
theorem rd__law_lots : Rd n__law_lots t__law_lots sp__law_lots := fun {args S Q Ed} h => by
  obtain ⟨v, ⟨fs, hs, ph, rfl, hph, hris, hl, hin, rfl⟩, hQ⟩ := h
  simp only [t__law_lots, n__law_lots, dSeq, dAsg]
  intro pf hpf
  have e1 := Ext.new (o := .lst []) hpf
  have g1 : put S pf (.lst []) pf = some (.lst []) := put_same
  show l__law_lots_2 (fun cls od _ S' => Ed cls od S') _ [some (.tup (fs.map eF)), some (.loc ph), some (.loc pf), none, none, none, none, none, none, none, none] (put S pf (.lst []))
  generalize put S pf (.lst []) = S1 at e1 g1
  unfold l__law_lots_2
  refine dFor_inv (ds := fs.map eF) (G := fun _ => True) (S1 := S1) (fun R h => h)
    (fun rest σ S' => ∃ (done gs : List Fd) (o1 o2 o3 o4 o5 o6 : Option D) (acc : List (List Fd)), rest = gs.map eF ∧ fs = done ++ gs ∧ σ = [some (.tup (fs.map eF)), some (.loc ph), some (.loc pf), o1, o2, o3, o4, o5, o6, none, none] ∧ Ext S S' ∧ S' pf = some (.lst (acc.map eL)) ∧ partsG fs hs gs acc = parts fs hs ∧ acc.length ≤ done.length)
    ⟨[], fs, none, none, none, none, none, none, [], rfl, rfl, rfl, e1, g1, rfl, by simp⟩ ?_ ?_
  · rintro σ S' ⟨done, gs, o1, o2, o3, o4, o5, o6, acc, q1, q2, rfl, q3, q4, q5, q6⟩
    have : gs = [] := by cases gs with | nil => rfl | cons _ _ => simp at q1
    subst this
    have : acc = parts fs hs := q5
    rw [this] at q4
    refine ⟨trivial, ?_⟩
    simp
    exact hQ S' pf q3 hpf q4
  · rintro x rest σ S' ⟨done, gs, o1, o2, o3, o4, o5, o6, acc, q1, q2, rfl, q3, q4, q5, q6⟩
    refine ⟨trivial, fun N hN => ?_⟩
    cases gs with
    | nil => simp at q1
    | cons f gs =>
      simp only [List.map_cons, List.cons.injEq] at q1
      obtain ⟨rfl, rfl⟩ := q1
      have hff : f ∈ fs := by rw [q2]; simp
      have hdl : done.length ≤ 1000 := by have := congrArg List.length q2; simp at this; omega
      simp only [gN, dIfS, dB, dOp, List.set_cons_succ, List.set_cons_zero]
      refine dLc_flt (fun _ _ => eL_inj) (l := acc) (fun l => decide (f ∈ l)) (fun R hR' => ?_) (by simp) (fun l hl' S'' e K hK => ?_) (fun S4 q e4 hq => ?_)
      · simp [q4]
        exact hR' S' _ (Ext.refl _) fun S' e => e _ _ q4
      · have := hK S'' (Ext.refl _)
        refine ⟨?_, ?_⟩
        · show ((eF f).pl 8 && (l.map eF).all (D.pl 8)) = true
          rw [pl_F, pl_Fs 7]; rfl
        · show K (decide (eF f ∈ l.map eF)) S''
          rw [show decide (eF f ∈ l.map eF) = decide (f ∈ l) from by rw [Bool.eq_iff_iff]; simp only [decide_eq_true_eq]; exact mem_eF]
          exact this
      · intro p5 hp5
        have g4 : put (put S4 q (.lst ((acc.filter fun l => decide (f ∈ l)).map eL))) p5 (.lst []) q = some (.lst ((acc.filter fun l => decide (f ∈ l)).map eL)) := put_get hp5 put_same
        have e5 := (q3.trans e4).trans ((Ext.new (o := .lst ((acc.filter fun l => decide (f ∈ l)).map eL)) hq).trans (Ext.new (o := .lst []) hp5))
        have g5 : put (put S4 q (.lst ((acc.filter fun l => decide (f ∈ l)).map eL))) p5 (.lst []) pf = some (.lst (acc.map eL)) := Ext.new hp5 _ _ (Ext.new hq _ _ (e4 _ _ q4))
        simp only [rEqD, eqOk, eqV, g4, put_same]
        refine ⟨by rw [pl_Ls 6]; rfl, ?_⟩
        generalize put (put S4 q (.lst ((acc.filter fun l => decide (f ∈ l)).map eL))) p5 (.lst []) = S5 at e5 g5
        by_cases hex : ∃ l ∈ acc, f ∈ l
        · have hne : ¬ (acc.filter fun l => decide (f ∈ l)).map eL = [] := fun z => by
            rw [List.map_eq_nil_iff, List.filter_eq_nil_iff] at z
            obtain ⟨l, h1, h2⟩ := hex
            exact z l h1 (by simpa using h2)
          rw [decide_eq_false hne]
          simp only [dBool, dNext]
          refine hN _ _ ⟨done ++ [f], gs, some (eF f), o2, o3, o4, o5, o6, acc, rfl, by rw [q2]; simp, rfl, e5, g5, ?_, by simp; omega⟩
          rw [← q5, partsG_pos hex]
        · have hnil : (acc.filter fun l => decide (f ∈ l)).map eL = [] := by
            rw [List.map_eq_nil_iff, List.filter_eq_nil_iff]
            exact fun l h1 h2 => hex ⟨l, h1, by simpa using h2⟩
          rw [decide_eq_true hnil]
          simp only [dBool, if_true, dSeq, dAsg]
          intro p6 hp6
          have e6 := e5.trans (Ext.new (o := .lst ([f].map eF)) hp6)
          have g6 : put S5 p6 (.lst ([f].map eF)) p6 = some (.lst ([f].map eF)) := put_same
          have g56 := Ext.new (o := .lst ([f].map eF)) hp6 _ _ g5
          show l__law_lots_1 (fun cls od _ S' => Ed cls od S') _ (σL fs ph pf f p6 0 o4 o5 o6) (put S5 p6 (.lst ([f].map eF)))
          generalize put S5 p6 (.lst ([f].map eF)) = S6 at e6 g6 g56
          refine lots_inner (S0 := S) hris hl hin hff hph e6 g6 fun p k a b c S7 fd e7 g7 hlot => ?_
          have g77 := e7 _ _ g56
          simp [tyD, g77, rSortD, g7]
          refine ⟨sort_F fd, fun p8 hp8 => ?_⟩
          have g8 := Ext.new (o := .lst (dsort (fd.map eF))) hp8 _ _ g77
          rw [put_same]
          simp [g8]
          refine ⟨by omega, hN _ _ ⟨done ++ [f], gs, _, _, _, _, _, _, acc ++ [lotOf fs hs f], rfl, by rw [q2]; simp, rfl, ((e6.trans e7).trans (Ext.new hp8)).putN hpf, ?_, ?_, by simp; omega⟩⟩
          · rw [put_same, dsort_map, hlot]; simp [eL]
          · rw [← q5, partsG_neg hex]
end DL

namespace DL
open PySem PySem.Spec PyProof.Rows L2

theorem ne_TT {a b : List Bd} {S : Store} {Q : DQ} (h : a = b) (q : Q (.bl false) S) : rNeD (eT a) (eT b) S Q := by
  subst h
  refine ⟨?_, ?_⟩
  · show ((eT a).pl 8 && (eT a).pl 8) = true
    rw [pl_T 6]; rfl
  · show Q (.bl (!decide (eT a = eT a))) S
    rw [decide_eq_true rfl]; exact q
theorem eq_TT {a b : List Bd} {S : Store} {Q : DQ} (h : a = b) (q : Q (.bl true) S) : rEqD (eT a) (eT b) S Q := by
  subst h
  refine ⟨?_, ?_⟩
  · show ((eT a).pl 8 && (eT a).pl 8) = true
    rw [pl_T 6]; rfl
  · show Q (.bl (decide (eT a = eT a))) S
    rw [decide_eq_true rfl]; exact q
theorem ne_II {a b : Int} {S : Store} {Q : DQ} (h : a = b) (q : Q (.bl false) S) : rNeD (.int a) (.int b) S Q := by
  subst h
  refine ⟨rfl, ?_⟩
  show Q (.bl (!decide (D.int a = D.int a))) S
  rw [decide_eq_true rfl]; exact q
theorem eq_II {a b : Int} {S : Store} {Q : DQ} (h : a = b) (q : Q (.bl true) S) : rEqD (.int a) (.int b) S Q := by
  subst h
  refine ⟨rfl, ?_⟩
  show Q (.bl (decide (D.int a = D.int a))) S
  rw [decide_eq_true rfl]; exact q
theorem ne_LL {p p' : Addr} {ds : List D} {S : Store} {Q : DQ} (h1 : S p = some (.lst ds)) (h2 : S p' = some (.lst ds)) (hp : ds.all (D.pl 8) = true) (q : Q (.bl false) S) : rNeD (.loc p) (.loc p') S Q := by
  simp only [rNeD, eqOk, eqV, h1, h2, hp, decide_true]
  exact ⟨rfl, q⟩
theorem eq_LL {p p' : Addr} {ds : List D} {S : Store} {Q : DQ} (h1 : S p = some (.lst ds)) (h2 : S p' = some (.lst ds)) (hp : ds.all (D.pl 8) = true) (q : Q (.bl true) S) : rEqD (.loc p) (.loc p') S Q := by
  simp only [rEqD, eqOk, eqV, h1, h2, hp, decide_true]
  exact ⟨rfl, q⟩
/-! ### what the row told leads to -/
theorem head_in {t : List Bd} (h : t ≠ []) : t.headD default ∈ t := by cases t with | nil => exact (h rfl).elim | cons a b => simp
theorem go_row {pk : List Bd} : ∀ (n : Nat) (hs : List Bd), InR hs → Ris eB hs → goRow pk hs (rowF pk n hs).1 = some (rowF pk n hs).2
  | 0, hs, _, _ => rfl
  | n + 1, hs, hR, hr => by
    cases h : tearsOf hs pk with
    | nil => rw [rowF_nil _ h]; rfl
    | cons t ts =>
      rw [rowF_cons n h]
      have ht : t ∈ tearsOf hs pk := by rw [h]; simp
      obtain ⟨b, hb, e, h3⟩ := (tears_mem hR).mp ht
      have hne : t ≠ [] := by rw [e]; exact tearSet_ne hs b
      have hx := head_in hne
      obtain ⟨k1, k2, T⟩ := tear_is (b := b) hR
      have hxh : t.headD default ∈ hs := T.sub hb (e ▸ hx)
      have hat : tearAt hs pk (t.headD default) = some t := by
        unfold tearAt
        have hs' : tearSet hs (t.headD default) = t := by rw [tear_same hR (b := b) (e ▸ hx), ← e]
        rw [if_pos hxh, hs', if_pos]
        rw [List.all_eq_true]
        exact fun x hx => by simpa using h3 x hx
      simp only [goRow, hat]
      exact go_row n (less hs t) hR.less (ris_less hr)
theorem row_sub {pk : List Bd} : ∀ (n : Nat) (hs : List Bd), InR hs → ∀ b ∈ (rowF pk n hs).1, b ∈ hs
  | 0, hs, _, b, hb => by simp [rowF] at hb
  | n + 1, hs, hR, b, hb => by
    cases h : tearsOf hs pk with
    | nil => rw [rowF_nil _ h] at hb; simp at hb
    | cons t ts =>
      rw [rowF_cons n h] at hb
      have ht : t ∈ tearsOf hs pk := by rw [h]; simp
      obtain ⟨c, hc, e, h3⟩ := (tears_mem hR).mp ht
      have hne : t ≠ [] := by rw [e]; exact tearSet_ne hs c
      obtain ⟨k1, k2, T⟩ := tear_is (b := c) hR
      rcases List.mem_cons.mp hb with rfl | hb
      · exact T.sub hc (e ▸ head_in hne)
      · exact less_sub b (row_sub n (less hs t) hR.less b hb)
/-- the ends are one -/
theorem one_end {fs : List Fd} {ps tn tn' : List Bd} (V : Valid fs ps) (T : TornOk ps tn) (T' : TornOk ps tn') {n : Nat} (s : Steps ps n (hang fs tn) (hang fs tn')) (e : tearsOf (hang fs tn') ps = []) : due fs ps tn = tn' ∧ leftN fs ps tn = n := by
  obtain ⟨a, b, c, d⟩ := end_torn_ok V T
  have hh : hang fs (due fs ps tn) = hang fs tn' := Steps.end (V.inR tn) (hang_ris V.fris.nodup) d s c e
  refine ⟨?_, ?_⟩
  · rw [← torn_of V a, hh, torn_of V T']
  · unfold leftN
    rw [hh, s.meas (V.inR tn) (hang_ris V.fris.nodup)]
    omega
theorem due_same {fs : List Fd} {ps tn : List Bd} (V : Valid fs ps) (T : TornOk ps tn) {n : Nat} (s : Steps ps n (hang fs []) (hang fs tn)) : due fs ps [] = due fs ps tn := by
  obtain ⟨a, b, c, d⟩ := end_torn_ok V T
  exact (one_end V (torn_nil ps) a (s.append d) c).1
theorem left_row {fs : List Fd} {ps : List Bd} (V : Valid fs ps) : leftN fs ps [] = (rowOf ps (hang fs [])).length := by
  obtain ⟨a, b, c, d⟩ := end_torn_ok V (torn_nil ps)
  exact (one_end V (torn_nil ps) a d c).2
end DL

namespace DL
open PySem PySem.Spec PyProof.Rows L2

/-! ### the order of lots -/
theorem lex_app {p q a b : List (Int ⊕ List Nat)} (hl : p.length = q.length) (h : PyProof.Rows.lexLt PyProof.Rows.itemOrd p q = true) : PyProof.Rows.lexLt PyProof.Rows.itemOrd (p ++ a) (q ++ b) = true := by
  induction p generalizing q with
  | nil =>
    cases q with
    | nil => rw [PyProof.Rows.lex_irrefl] at h; cases h
    | cons _ _ => simp at hl
  | cons x p ih =>
    cases q with
    | nil => simp at hl
    | cons y q =>
      rw [List.cons_append, List.cons_append]
      rcases PyProof.Rows.lex_true.mp h with h | ⟨h1, h2⟩
      · exact PyProof.Rows.lex_true.mpr (.inl h)
      · exact PyProof.Rows.lex_true.mpr (.inr ⟨h1, ih (by simpa using hl) h2⟩)
theorem lt_eL {f g : Fd} {r s : List Fd} (h : D.lt (eF f) (eF g) = true) : D.lt (eL (f :: r)) (eL (g :: s)) = true := by
  show PyProof.Rows.lexLt PyProof.Rows.itemOrd (.inl 1 :: (PySem.W.keyToks (eF f).pd ++ PySem.W.keyToksAll (D.pds (r.map eF)))) (.inl 1 :: (PySem.W.keyToks (eF g).pd ++ PySem.W.keyToksAll (D.pds (s.map eF)))) = true
  rw [PyProof.Rows.lex_self]
  exact lex_app rfl h
/-! ### the lots -/
structure LotsOk (fs : List Fd) (hs : List Bd) (acc : List (List Fd)) (done : List Fd) : Prop where
  lot : ∀ l ∈ acc, ∃ f r, l = f :: r ∧ f ∈ done ∧ l = lotOf fs hs f
  cov : ∀ f ∈ done, ∃ l ∈ acc, f ∈ l
  ord : acc.Pairwise fun l m => D.lt (eL l) (eL m) = true
theorem lot_same {fs : List Fd} {hs : List Bd} {f g : Fd} (h : Reach hs f g) : lotOf fs hs f = lotOf fs hs g := by
  classical
  unfold lotOf
  congr 1
  funext x
  rw [decide_eq_decide]
  exact ⟨fun k => h.symm.trans k, fun k => h.trans k⟩
theorem lot_head {fs done rest : List Fd} {hs : List Bd} {f : Fd} (hfs : fs = done ++ f :: rest) (hn : ∀ g ∈ done, ¬ Reach hs f g) : ∃ r, lotOf fs hs f = f :: r := by
  classical
  unfold lotOf
  rw [hfs, List.filter_append]
  have h1 : done.filter (fun g => decide (Reach hs f g)) = [] := by
    rw [List.filter_eq_nil_iff]
    exact fun g hg => by simpa using hn g hg
  rw [h1, List.nil_append, List.filter_cons, if_pos (decide_eq_true .refl)]
  exact ⟨_, rfl⟩
theorem partsG_ok {fs : List Fd} {hs : List Bd} (hr : Ris eF fs) : ∀ (rest done : List Fd) (acc : List (List Fd)), fs = done ++ rest → LotsOk fs hs acc done → LotsOk fs hs (partsG fs hs rest acc) fs
  | [], done, acc, hfs, ok => by
    rw [List.append_nil] at hfs
    rw [show partsG fs hs [] acc = acc from rfl]
    rw [← hfs] at ok
    exact ok
  | f :: rest, done, acc, hfs, ok => by
    have hfs' : fs = (done ++ [f]) ++ rest := by rw [hfs]; simp
    by_cases h : ∃ l ∈ acc, f ∈ l
    · rw [partsG_pos h]
      refine partsG_ok hr rest (done ++ [f]) acc hfs' ⟨fun l hl => ?_, fun g hg => ?_, ok.ord⟩
      · obtain ⟨a, r, h1, h2, h3⟩ := ok.lot l hl
        exact ⟨a, r, h1, List.mem_append_left _ h2, h3⟩
      · rcases List.mem_append.mp hg with hg | hg
        · exact ok.cov g hg
        · rw [List.mem_singleton] at hg; subst hg; exact h
    · rw [partsG_neg h]
      have hno : ∀ g ∈ done, ¬ Reach hs f g := fun g hg hre => by
        obtain ⟨l, hl, hgl⟩ := ok.cov g hg
        obtain ⟨a, r, h1, h2, h3⟩ := ok.lot l hl
        refine h ⟨l, hl, ?_⟩
        rw [h3] at hgl ⊢
        have := (mem_lotOf.mp hgl).2
        exact mem_lotOf.mpr ⟨by rw [hfs]; simp, this.trans hre.symm⟩
      obtain ⟨r, hr'⟩ := lot_head hfs hno
      refine partsG_ok hr rest (done ++ [f]) _ hfs' ⟨fun l hl => ?_, fun g hg => ?_, ?_⟩
      · rcases List.mem_append.mp hl with hl | hl
        · obtain ⟨a, r, h1, h2, h3⟩ := ok.lot l hl
          exact ⟨a, r, h1, List.mem_append_left _ h2, h3⟩
        · rw [List.mem_singleton] at hl
          subst hl
          exact ⟨f, r, hr', by simp, rfl⟩
      · rcases List.mem_append.mp hg with hg | hg
        · obtain ⟨l, hl, hgl⟩ := ok.cov g hg
          exact ⟨l, List.mem_append_left _ hl, hgl⟩
        · rw [List.mem_singleton] at hg
          subst hg
          exact ⟨lotOf fs hs g, by simp, by rw [hr']; simp⟩
      · rw [List.pairwise_append]
        refine ⟨ok.ord, List.pairwise_singleton _ _, fun l hl m hm => ?_⟩
        rw [List.mem_singleton] at hm
        subst hm
        obtain ⟨a, r2, h1, h2, h3⟩ := ok.lot l hl
        rw [hr', h1]
        refine lt_eL ?_
        have hp : Ris eF (done ++ f :: rest) := hfs ▸ hr
        exact (List.pairwise_append.mp hp).2.2 a h2 f (by simp)
theorem parts_ok {fs : List Fd} {hs : List Bd} (hr : Ris eF fs) : LotsOk fs hs (parts fs hs) fs := partsG_ok hr fs [] [] rfl ⟨by simp, by simp, List.Pairwise.nil⟩
theorem parts_mem {fs : List Fd} {hs : List Bd} (hr : Ris eF fs) {l : List Fd} : l ∈ parts fs hs ↔ ∃ f ∈ fs, l = lotOf fs hs f := by
  constructor
  · intro h
    obtain ⟨f, r, _, h2, h3⟩ := (parts_ok hr).lot l h
    exact ⟨f, h2, h3⟩
  · rintro ⟨f, hf, rfl⟩
    obtain ⟨l, hl, hfl⟩ := (parts_ok (hs := hs) hr).cov f hf
    obtain ⟨g, r, _, h2, h3⟩ := (parts_ok hr).lot l hl
    rw [h3] at hfl
    rw [lot_same (mem_lotOf.mp hfl).2.symm, ← h3]
    exact hl
theorem lot_ris {fs : List Fd} {hs : List Bd} (hr : Ris eF fs) (f : Fd) : Ris eF (lotOf fs hs f) := by
  classical
  exact hr.filter _
theorem parts_disj {fs : List Fd} {hs : List Bd} (hr : Ris eF fs) : (parts fs hs).Pairwise fun l m => ∀ x ∈ l, x ∉ m := by
  have ok := parts_ok (hs := hs) hr
  have h2 : (parts fs hs).Pairwise fun l m => D.lt (eL l) (eL m) = true ∧ l ∈ parts fs hs ∧ m ∈ parts fs hs := by
    have := List.Pairwise.and_mem.mp ok.ord
    exact this.imp fun ⟨a, b, c⟩ => ⟨c, a, b⟩
  refine h2.imp fun {l m} ⟨h, hl, hm⟩ x hx hy => ?_
  obtain ⟨f, _, rfl⟩ := (parts_mem hr).mp hl
  obtain ⟨g, _, rfl⟩ := (parts_mem hr).mp hm
  have e := lot_same (fs := fs) ((mem_lotOf.mp hx).2.trans (mem_lotOf.mp hy).2.symm)
  rw [e, lt_irr] at h
  cases h
theorem parts_flat {fs : List Fd} {hs : List Bd} (hr : Ris eF fs) : (parts fs hs).flatten.Perm fs := by
  refine (List.perm_ext_iff_of_nodup ?_ hr.nodup).mpr fun f => ?_
  · refine List.pairwise_flatten.mpr ⟨fun l hl => ?_, (parts_disj hr).imp fun h x hx y hy => fun (z : x = y) => h x hx (by rw [z]; exact hy)⟩
    obtain ⟨f, _, rfl⟩ := (parts_mem hr).mp hl
    exact (lot_ris hr f).nodup
  · rw [List.mem_flatten]
    constructor
    · rintro ⟨l, hl, hx⟩
      obtain ⟨g, _, rfl⟩ := (parts_mem hr).mp hl
      exact (mem_lotOf.mp hx).1
    · intro h
      exact ⟨lotOf fs hs f, (parts_mem hr).mpr ⟨f, h, rfl⟩, mem_lotOf.mpr ⟨h, .refl⟩⟩
theorem parts_congr {fs : List Fd} {h1 h2 : List Bd} (h : ∀ f ∈ fs, ∀ g ∈ fs, Reach h1 f g ↔ Reach h2 f g) : parts fs h1 = parts fs h2 := by
  classical
  have hl : ∀ f ∈ fs, lotOf fs h1 f = lotOf fs h2 f := fun f hf => by
    unfold lotOf
    exact List.filter_congr fun g hg => decide_eq_decide.mpr (h f hf g hg)
  have key : ∀ (r : List Fd) (acc : List (List Fd)), (∀ f ∈ r, f ∈ fs) → partsG fs h1 r acc = partsG fs h2 r acc := fun r => by
    induction r with
    | nil => intro _ _; rfl
    | cons f r ih =>
      intro acc hr
      by_cases hc : ∃ l ∈ acc, f ∈ l
      · rw [partsG_pos hc, partsG_pos hc]
        exact ih acc fun g hg => hr g (List.mem_cons_of_mem _ hg)
      · rw [partsG_neg hc, partsG_neg hc, hl f (hr f (by simp))]
        exact ih _ fun g hg => hr g (List.mem_cons_of_mem _ hg)
  exact key fs [] fun _ h => h
/-- a lot hangs together by its own borders -/
theorem lot_conn {fs : List Fd} {hs : List Bd} (hin : InF fs hs) (f : Fd) : Conn (lotOf fs hs f) := fun g hg h hh => by
  have key : ∀ x, Reach hs f x → x ∈ fs → f ∈ fs → Reach (bordersOf (lotOf fs hs f)) f x := fun x hx => by
    induction hx with
    | refl => intro _ _; exact .refl
    | @step a b ha hab ih =>
      intro hb hf
      obtain ⟨bd, hbd, hk⟩ := hab
      have hfa : a ∈ fs := by
        rcases hk with ⟨h1, _⟩ | ⟨_, h1⟩
        · rw [← h1]; exact (hin bd hbd).1
        · rw [← h1]; exact (hin bd hbd).2
      refine .step (ih hfa hf) ⟨bd, mem_bordersOf.mpr ?_, hk⟩
      have hra : a ∈ lotOf fs hs f := mem_lotOf.mpr ⟨hfa, ha⟩
      have hrb : b ∈ lotOf fs hs f := mem_lotOf.mpr ⟨hb, .step ha ⟨bd, hbd, hk⟩⟩
      rcases hk with ⟨h1, h2⟩ | ⟨h1, h2⟩
      · rw [h1, h2]; exact ⟨hra, hrb⟩
      · rw [h1, h2]; exact ⟨hrb, hra⟩
  obtain ⟨g1, g2⟩ := mem_lotOf.mp hg
  obtain ⟨h1, h2⟩ := mem_lotOf.mp hh
  have hf : f ∈ fs := by
    cases g2 with
    | refl => exact g1
    | step _ _ =>
      have : ∀ x, Reach hs f x → x ∈ fs → f ∈ fs := fun x hx => by
        induction hx with
        | refl => exact id
        | @step a b ha hab ih =>
          intro _
          obtain ⟨bd, hbd, hk⟩ := hab
          refine ih ?_
          rcases hk with ⟨h1, _⟩ | ⟨_, h1⟩
          · rw [← h1]; exact (hin bd hbd).1
          · rw [← h1]; exact (hin bd hbd).2
      exact this _ (mem_lotOf.mp hg).2 g1
  exact (key g (mem_lotOf.mp hg).2 g1 hf).symm.trans (key h h2 h1 hf)
theorem part_one {fs : List Fd} {hs : List Bd} (hr : Ris eF fs) (hin : InF fs hs) {l : List Fd} (hl : l ∈ parts fs hs) : l ≠ [] ∧ Ris eF l ∧ (∀ f ∈ l, f ∈ fs) ∧ (parts l (bordersOf l)).length = 1 := by
  obtain ⟨f, r, h1, h2, h3⟩ := (parts_ok hr).lot l hl
  have hne : l ≠ [] := by rw [h1]; simp
  refine ⟨hne, by rw [h3]; exact lot_ris hr f, fun g hg => by rw [h3] at hg; exact (mem_lotOf.mp hg).1, ?_⟩
  have hc : Conn l := by rw [h3]; exact lot_conn hin f
  rw [parts_conn hc hne]
  rfl
end DL

namespace DL
open PySem PySem.Spec PyProof.Rows L2

/-! ### how many tears are left, and in how many rows they can be made -/
theorem tears_nodup {hs pk : List Bd} : (tearsOf hs pk).Nodup := by
  refine srt_nodup ?_
  have : ∀ (l : List Bd) (ts : List (List Bd)), ts.Nodup → (l.foldl (tStep hs pk) ts).Nodup := fun l => by
    induction l with
    | nil => intro ts h; exact h
    | cons b l ih =>
      intro ts h
      refine ih _ ?_
      unfold tStep
      split
      · unfold addT
        split
        · exact h
        · rename_i hn
          rw [List.nodup_append]
          exact ⟨h, by simp, fun a ha b hb z => by rw [List.mem_singleton] at hb; subst hb; subst z; exact hn ha⟩
      · exact h
  exact this pk [] List.nodup_nil
def LN (pk hs : List Bd) : Nat := (rowOf pk hs).length
theorem LN_nil {pk hs : List Bd} (h : tearsOf hs pk = []) : LN pk hs = 0 := by unfold LN rowOf; rw [rowF_nil _ h]; rfl
theorem LN_steps {pk hs : List Bd} (hR : InR hs) (hr : Ris eB hs) : Steps pk (LN pk hs) hs (endOf pk hs) ∧ tearsOf (endOf pk hs) pk = [] := rowF_steps _ _ hR hr (Nat.le_refl _)
theorem LN_uniq {pk hs E : List Bd} {n : Nat} (hR : InR hs) (hr : Ris eB hs) (s : Steps pk n hs E) (e : tearsOf E pk = []) : LN pk hs = n ∧ endOf pk hs = E := by
  obtain ⟨s2, e2⟩ := LN_steps (pk := pk) hR hr
  have h := Steps.end hR hr s2 s e2 e
  have m1 := s2.meas (fs := []) hR hr
  have m2 := s.meas (fs := []) hR hr
  rw [h] at m1
  exact ⟨by omega, h⟩
theorem LN_step {pk hs t : List Bd} (hR : InR hs) (hr : Ris eB hs) (h : t ∈ tearsOf hs pk) : LN pk hs = LN pk (less hs t) + 1 ∧ endOf pk hs = endOf pk (less hs t) := by
  obtain ⟨s2, e2⟩ := LN_steps (pk := pk) (hR.less (t := t)) (ris_less hr)
  have s1 : Steps pk (0 + 1) hs (less hs t) := Steps.snoc .nil h
  have := LN_uniq hR hr (s1.append s2) e2
  exact ⟨by omega, this.2⟩
theorem LN_pos {pk hs : List Bd} (hR : InR hs) (hr : Ris eB hs) (h : LN pk hs = 0) : tearsOf hs pk = [] := by
  cases e : tearsOf hs pk with
  | nil => rfl
  | cons t ts =>
    have := (LN_step hR hr (t := t) (pk := pk) (by rw [e]; simp)).1
    omega
theorem LN_le {pk hs : List Bd} (hR : InR hs) (hr : Ris eB hs) : LN pk hs ≤ hs.length := by
  have := (LN_steps (pk := pk) hR hr).1.len hR hr
  omega
/-- in how many rows -/
def cntF (pk : List Bd) : Nat → List Bd → Nat
  | 0, _ => 1
  | n + 1, hs => max ((tearsOf hs pk).map fun t => cntF pk n (less hs t)).sum 1
def cnt (pk hs : List Bd) : Nat := cntF pk hs.length hs
theorem cntF_stab {pk : List Bd} : ∀ (n m : Nat) (hs : List Bd), InR hs → Ris eB hs → hs.length ≤ n → hs.length ≤ m → cntF pk n hs = cntF pk m hs
  | 0, m, hs, _, _, h, _ => by
    have : hs = [] := List.length_eq_zero_iff.mp (by omega)
    subst this
    cases m with
    | zero => rfl
    | succ m => simp [cntF, tears_nil]
  | n + 1, m, hs, hR, hr, h, h' => by
    cases m with
    | zero =>
      have : hs = [] := List.length_eq_zero_iff.mp (by omega)
      subst this
      simp [cntF, tears_nil]
    | succ m =>
      unfold cntF
      congr 2
      refine List.map_congr_left fun t ht => ?_
      have := (tear_len hR hr ht).1
      exact cntF_stab n m _ hR.less (ris_less hr) (by omega) (by omega)
theorem cnt_eq {pk hs : List Bd} (hR : InR hs) (hr : Ris eB hs) : cnt pk hs = max ((tearsOf hs pk).map fun t => cnt pk (less hs t)).sum 1 := by
  have h1 : cnt pk hs = cntF pk (hs.length + 1) hs := cntF_stab _ _ _ hR hr (Nat.le_refl _) (by omega)
  rw [h1]
  unfold cntF
  congr 2
  refine List.map_congr_left fun t ht => ?_
  have := (tear_len hR hr ht).1
  exact cntF_stab _ _ _ hR.less (ris_less hr) (by omega) (Nat.le_refl _)
theorem cnt_pos {pk hs : List Bd} : 1 ≤ cnt pk hs := by
  unfold cnt
  cases hs.length with
  | zero => exact Nat.le_refl _
  | succ n => unfold cntF; omega
theorem cnt_nil {pk hs : List Bd} (hR : InR hs) (hr : Ris eB hs) (h : tearsOf hs pk = []) : cnt pk hs = 1 := by rw [cnt_eq hR hr, h]; rfl
theorem sum_pos : ∀ {l : List Nat}, l ≠ [] → (∀ x ∈ l, 1 ≤ x) → 1 ≤ l.sum
  | [], h, _ => (h rfl).elim
  | a :: l, _, h => by
    have := h a (by simp)
    rw [List.sum_cons]
    omega
theorem cnt_sum {pk hs : List Bd} (hR : InR hs) (hr : Ris eB hs) (h : tearsOf hs pk ≠ []) : cnt pk hs = ((tearsOf hs pk).map fun t => cnt pk (less hs t)).sum := by
  have := sum_pos (l := (tearsOf hs pk).map fun t => cnt pk (less hs t)) (by simpa using h) (fun x hx => by obtain ⟨t, _, rfl⟩ := List.mem_map.mp hx; exact cnt_pos)
  rw [cnt_eq hR hr]
  omega

/-! ### parts of what hangs that have nothing to do with the rest -/
structure Cl (hs A : List Bd) : Prop where
  sub : ∀ b ∈ A, b ∈ hs
  cl : ∀ c, whole hs c = true → ∀ x ∈ arnd c, x ∈ A → ∀ y ∈ arnd c, y ∈ A
theorem Cl.rest {hs A : List Bd} (h : Cl hs A) : Cl hs (less hs A) where
  sub := less_sub
  cl := fun c hc x hx hxA y hy => mem_less.mpr ⟨whole_iff.mp hc y hy, fun z => (mem_less.mp hxA).2 (h.cl c hc y hy z x hx)⟩
theorem Cl.whole {hs A : List Bd} (h : Cl hs A) {c : Fd} {x : Bd} (hx : x ∈ arnd c) (hA : x ∈ A) : whole A c = whole hs c := by
  rw [Bool.eq_iff_iff]
  exact ⟨whole_mono h.sub, fun w => whole_iff.mpr fun y hy => h.cl c w x hx hA y hy⟩
theorem cw_arnd {b : Bd} {w : Int} (hw : w = 1 ∨ w = -1) : b ∈ arnd (cw b w) ∧ nxt b w ∈ arnd (cw b w) := by
  obtain ⟨r, x, y⟩ := b
  rcases hw with rfl | rfl <;> cases r <;> simp [cw, c0, c1, arnd, nxt] <;> omega
theorem Cl.run {hs A : List Bd} (h : Cl hs A) {w : Int} (hw : w = 1 ∨ w = -1) : ∀ (n : Nat) (b : Bd), b ∈ A → runF A n b w = runF hs n b w ∧ ∀ x ∈ runF hs n b w, x ∈ A
  | 0, b, _ => ⟨rfl, fun x hx => by simp [runF] at hx⟩
  | n + 1, b, hb => by
    have e := h.whole (cw_arnd (b := b) hw).1 hb
    unfold runF
    rw [e]
    by_cases hc : DL.whole hs (cw b w) = true
    · have hn : nxt b w ∈ A := h.cl _ hc b (cw_arnd hw).1 hb _ (cw_arnd hw).2
      obtain ⟨e1, e2⟩ := h.run hw n (nxt b w) hn
      rw [if_pos hc, if_pos hc, e1]
      refine ⟨rfl, fun x hx => ?_⟩
      rcases List.mem_cons.mp hx with rfl | hx
      · exact hn
      · exact e2 x hx
    · rw [if_neg hc, if_neg hc]
      exact ⟨rfl, fun x hx => by simp at hx⟩
theorem Cl.tear {hs A : List Bd} (h : Cl hs A) {b : Bd} (hb : b ∈ A) : tearSet A b = tearSet hs b ∧ ∀ x ∈ tearSet hs b, x ∈ A := by
  obtain ⟨e1, f1⟩ := h.run (w := -1) (.inr rfl) 16 b hb
  obtain ⟨e2, f2⟩ := h.run (w := 1) (.inl rfl) 16 b hb
  unfold tearSet runOf
  rw [e1, e2]
  refine ⟨rfl, fun x hx => ?_⟩
  rw [mem_srt] at hx
  simp only [List.mem_append, List.mem_singleton] at hx
  rcases hx with (hx | rfl) | hx
  · exact f1 x hx
  · exact hb
  · exact f2 x hx
theorem InR.sub {hs A : List Bd} (h : InR hs) (s : ∀ b ∈ A, b ∈ hs) : InR A := fun b hb => h b (s b hb)
theorem Cl.tears {hs A pk t : List Bd} (hR : InR hs) (h : Cl hs A) : t ∈ tearsOf A pk ↔ t ∈ tearsOf hs pk ∧ ∀ x ∈ t, x ∈ A := by
  rw [tears_mem (hR.sub h.sub), tears_mem hR]
  constructor
  · rintro ⟨b, hb, rfl, hp⟩
    obtain ⟨e, f⟩ := h.tear hb
    rw [e] at hp ⊢
    exact ⟨⟨b, h.sub b hb, rfl, hp⟩, f⟩
  · rintro ⟨⟨b, hb, rfl, hp⟩, f⟩
    have hbA := f b (tear_self hR)
    exact ⟨b, hbA, (h.tear hbA).1.symm, hp⟩
theorem Cl.split {hs A pk t : List Bd} (hR : InR hs) (h : Cl hs A) : t ∈ tearsOf hs pk ↔ t ∈ tearsOf A pk ∨ t ∈ tearsOf (less hs A) pk := by
  rw [h.tears hR, h.rest.tears hR]
  constructor
  · intro ht
    obtain ⟨b, hb, rfl, hp⟩ := (tears_mem hR).mp ht
    by_cases hbA : b ∈ A
    · exact .inl ⟨ht, (h.tear hbA).2⟩
    · exact .inr ⟨ht, (h.rest.tear (mem_less.mpr ⟨hb, hbA⟩)).2⟩
  · rintro (h | h)
    · exact h.1
    · exact h.1
theorem tear_ne {hs pk t : List Bd} (ht : t ∈ tearsOf hs pk) : t ≠ [] := by
  obtain ⟨b, _, h⟩ := mem_tearsOf.mp ht
  obtain ⟨_, rfl, _⟩ := tearAt_some h
  exact tearSet_ne hs b
theorem Cl.perm {hs A pk : List Bd} (hR : InR hs) (h : Cl hs A) : (tearsOf hs pk).Perm (tearsOf A pk ++ tearsOf (less hs A) pk) := by
  refine perm_of tears_nodup ?_ fun t => ?_
  · rw [List.nodup_append]
    refine ⟨tears_nodup, tears_nodup, fun a ha b hb z => ?_⟩
    subst z
    have h1 := ((h.tears hR).mp ha).2
    have h2 := ((h.rest.tears hR).mp hb).2
    obtain ⟨x, r, e⟩ : ∃ x r, a = x :: r := by cases a with | nil => exact (tear_ne ha rfl).elim | cons x r => exact ⟨x, r, rfl⟩
    have hx : x ∈ a := by rw [e]; simp
    exact (mem_less.mp (h2 x hx)).2 (h1 x hx)
  · rw [List.mem_append]
    exact h.split hR
theorem Cl.lessA {hs A t : List Bd} (h : Cl hs A) (ht : ∀ x ∈ t, x ∈ A) : Cl (less hs t) (less A t) ∧ less (less hs t) (less A t) = less hs A where
  left := {
    sub := fun b hb => mem_less.mpr ⟨h.sub b (mem_less.mp hb).1, (mem_less.mp hb).2⟩
    cl := fun c hc x hx hxA y hy => mem_less.mpr ⟨h.cl c (whole_mono less_sub hc) x hx (mem_less.mp hxA).1 y hy, (mem_less.mp (whole_iff.mp hc y hy)).2⟩ }
  right := by
    unfold less
    rw [List.filter_filter]
    refine List.filter_congr fun b _ => ?_
    rw [Bool.eq_iff_iff]
    simp only [Bool.and_eq_true, Bool.not_eq_true', decide_eq_false_iff_not, List.mem_filter, not_and, Decidable.not_not]
    constructor
    · rintro ⟨h1, h2⟩ z
      exact h2 (h1 z)
    · intro z
      exact ⟨fun w => (z w).elim, fun w => z (ht b w)⟩
theorem Cl.lessB {hs A t : List Bd} (h : Cl hs A) (ht : ∀ x ∈ t, x ∈ less hs A) : Cl (less hs t) A ∧ less (less hs t) A = less (less hs A) t where
  left := {
    sub := fun b hb => mem_less.mpr ⟨h.sub b hb, fun z => (mem_less.mp (ht b z)).2 hb⟩
    cl := fun c hc x hx hxA y hy => h.cl c (whole_mono less_sub hc) x hx hxA y hy }
  right := less_comm

/-! ### rows of two that have nothing to do with each other -/
def bin : Nat → Nat → Nat
  | _, 0 => 1
  | 0, _ + 1 => 0
  | n + 1, k + 1 => bin n k + bin n (k + 1)
theorem bin_zero (n : Nat) : bin n 0 = 1 := by cases n <;> rfl
theorem bin_over : ∀ (n k : Nat), n < k → bin n k = 0
  | 0, k + 1, _ => rfl
  | n + 1, k + 1, h => by rw [bin, bin_over n k (by omega), bin_over n (k + 1) (by omega)]
theorem bin_self : ∀ n, bin n n = 1
  | 0 => rfl
  | n + 1 => by rw [bin, bin_self n, bin_over n (n + 1) (by omega)]
theorem bin_step : ∀ (n k : Nat), bin n (k + 1) * (k + 1) = bin n k * (n - k)
  | 0, k => by cases k <;> simp [bin]
  | n + 1, 0 => by
    have h := bin_step n 0
    rw [bin_zero] at h
    have e : bin (n + 1) (0 + 1) = bin n 0 + bin n (0 + 1) := rfl
    rw [e, bin_zero, bin_zero]
    omega
  | n + 1, k + 1 => by
    have h1 := bin_step n k
    have h2 := bin_step n (k + 1)
    by_cases hk : k + 1 ≤ n
    · have e1 : n - k = (n - (k + 1)) + 1 := by omega
      have e2 : n + 1 - (k + 1) = (n - (k + 1)) + 1 := by omega
      rw [e1] at h1
      rw [e2]
      show (bin n (k + 1) + bin n (k + 1 + 1)) * (k + 1 + 1) = (bin n k + bin n (k + 1)) * (n - (k + 1) + 1)
      generalize n - (k + 1) = d at h1 h2
      generalize bin n k = a at h1
      generalize bin n (k + 1) = b at h1 h2
      generalize bin n (k + 1 + 1) = c at h2
      have h3 : c * (k + 1 + 1) = b * d := h2
      rw [Nat.add_mul, h3, Nat.add_mul]
      have h4 : b * (k + 1 + 1) = b * (k + 1) + b := by rw [Nat.mul_succ]
      rw [h4, h1, Nat.mul_succ b d]
      omega
    · have e : n + 1 - (k + 1) = 0 := by omega
      rw [e, Nat.mul_zero, bin_over (n + 1) (k + 1 + 1) (by omega), Nat.zero_mul]
theorem bin_pascal {a b : Nat} (h : 1 ≤ a + b) : bin (a + b) a = (if a = 0 then 0 else bin (a + b - 1) (a - 1)) + (if b = 0 then 0 else bin (a + b - 1) a) := by
  obtain ⟨m, hm⟩ : ∃ m, a + b = m + 1 := ⟨a + b - 1, by omega⟩
  rw [hm, Nat.add_sub_cancel]
  cases a with
  | zero =>
    have : b ≠ 0 := by omega
    simp [this, bin_zero]
  | succ a =>
    rw [bin]
    simp only [Nat.add_sub_cancel, Nat.succ_ne_zero, if_false, Nat.add_eq_zero_iff, and_false, if_neg]
    by_cases hb : b = 0
    · rw [if_pos hb, bin_over m (a + 1) (by omega)]
    · rw [if_neg hb]
theorem sum_map_mul {α : Type} (l : List α) (f : α → Nat) (k : Nat) : (l.map fun x => k * f x).sum = k * (l.map f).sum := by
  induction l with
  | nil => simp
  | cons a l ih => rw [List.map_cons, List.sum_cons, List.map_cons, List.sum_cons, ih, Nat.mul_add]
theorem perm_sum {l m : List Nat} (h : l.Perm m) : l.sum = m.sum := by
  induction h with
  | nil => rfl
  | cons x _ ih => rw [List.sum_cons, List.sum_cons, ih]
  | swap x y l => simp only [List.sum_cons]; omega
  | trans _ _ h1 h2 => exact h1.trans h2
theorem ris_sub {hs A : List Bd} (h : Ris eB hs) (s : A.Sublist hs) : Ris eB A := List.Pairwise.sublist s h
theorem shuf {pk : List Bd} : ∀ (n : Nat) (hs A : List Bd), hs.length ≤ n → InR hs → Ris eB hs → Ris eB A → Cl hs A →
    LN pk hs = LN pk A + LN pk (less hs A) ∧ cnt pk hs = bin (LN pk A + LN pk (less hs A)) (LN pk A) * (cnt pk A * cnt pk (less hs A)) := fun n => by
  induction n with
  | zero =>
    intro hs A hn hR hr hrA h
    have : hs = [] := List.length_eq_zero_iff.mp (by omega)
    subst this
    have hA : A = [] := List.eq_nil_iff_forall_not_mem.mpr fun b hb => by simpa using h.sub b hb
    subst hA
    have e : less [] ([] : List Bd) = [] := rfl
    rw [e, LN_nil (tears_nil pk), cnt_nil hR hr (tears_nil pk)]
    exact ⟨rfl, rfl⟩
  | succ n ih =>
    intro hs A hn hR hr hrA h
    have hRA := hR.sub h.sub
    have hRB := hR.sub h.rest.sub
    have hrB : Ris eB (less hs A) := ris_less hr
    -- a tear of A, a tear of the rest
    have stA : ∀ t ∈ tearsOf A pk, LN pk hs = LN pk A + LN pk (less hs A) ∧ cnt pk (less hs t) = bin (LN pk A + LN pk (less hs A) - 1) (LN pk A - 1) * cnt pk (less hs A) * cnt pk (less A t) ∧ LN pk A ≠ 0 := fun t ht => by
      obtain ⟨ht', hs'⟩ := (h.tears hR).mp ht
      obtain ⟨h1, h2⟩ := h.lessA hs'
      have hl := (tear_len hR hr ht').1
      obtain ⟨i1, i2⟩ := ih (less hs t) (less A t) (by omega) hR.less (ris_less hr) (ris_less hrA) h1
      rw [h2] at i1 i2
      have l1 := (LN_step hR hr ht').1
      have l2 := (LN_step hRA hrA ht).1
      refine ⟨by omega, ?_, by omega⟩
      have e1 : LN pk A + LN pk (less hs A) - 1 = LN pk (less A t) + LN pk (less hs A) := by omega
      have e2 : LN pk A - 1 = LN pk (less A t) := by omega
      rw [i2, e1, e2, Nat.mul_assoc, Nat.mul_comm (cnt pk (less A t))]
    have stB : ∀ t ∈ tearsOf (less hs A) pk, LN pk hs = LN pk A + LN pk (less hs A) ∧ cnt pk (less hs t) = bin (LN pk A + LN pk (less hs A) - 1) (LN pk A) * cnt pk A * cnt pk (less (less hs A) t) ∧ LN pk (less hs A) ≠ 0 := fun t ht => by
      obtain ⟨ht', hs'⟩ := (h.rest.tears hR).mp ht
      obtain ⟨h1, h2⟩ := h.lessB hs'
      have hl := (tear_len hR hr ht').1
      obtain ⟨i1, i2⟩ := ih (less hs t) A (by omega) hR.less (ris_less hr) hrA h1
      rw [h2] at i1 i2
      have l1 := (LN_step hR hr ht').1
      have l2 := (LN_step hRB hrB ht).1
      refine ⟨by omega, ?_, by omega⟩
      have e1 : LN pk A + LN pk (less hs A) - 1 = LN pk A + LN pk (less (less hs A) t) := by omega
      rw [i2, e1, Nat.mul_assoc]
    have hp := h.perm (pk := pk) hR
    by_cases hA : tearsOf A pk = []
    · by_cases hB : tearsOf (less hs A) pk = []
      · have e : tearsOf hs pk = [] := by
          rw [hA, hB] at hp
          exact List.Perm.eq_nil hp
        rw [LN_nil e, LN_nil hA, LN_nil hB, cnt_nil hR hr e, cnt_nil hRA hrA hA, cnt_nil hRB hrB hB]
        exact ⟨rfl, rfl⟩
      · obtain ⟨t, ht⟩ := List.exists_mem_of_ne_nil _ hB
        refine ⟨(stB t ht).1, ?_⟩
        have hne : tearsOf hs pk ≠ [] := fun z => by
          have := (h.split (pk := pk) hR).mpr (.inr ht)
          rw [z] at this
          simp at this
        rw [cnt_sum hR hr hne, perm_sum (hp.map _), List.map_append, List.sum_append, hA, List.map_nil, List.sum_nil, Nat.zero_add]
        have e : (tearsOf (less hs A) pk).map (fun t => cnt pk (less hs t)) = (tearsOf (less hs A) pk).map fun t => bin (LN pk A + LN pk (less hs A) - 1) (LN pk A) * cnt pk A * cnt pk (less (less hs A) t) := List.map_congr_left fun t ht => (stB t ht).2.1
        rw [e, sum_map_mul, ← cnt_sum hRB hrB hB, LN_nil hA, bin_zero, bin_zero, Nat.one_mul, Nat.one_mul]
    · obtain ⟨t, ht⟩ := List.exists_mem_of_ne_nil _ hA
      refine ⟨(stA t ht).1, ?_⟩
      have hne : tearsOf hs pk ≠ [] := fun z => by
        have := (h.split (pk := pk) hR).mpr (.inl ht)
        rw [z] at this
        simp at this
      have ha := (stA t ht).2.2
      rw [cnt_sum hR hr hne, perm_sum (hp.map _), List.map_append, List.sum_append]
      have e : (tearsOf A pk).map (fun t => cnt pk (less hs t)) = (tearsOf A pk).map fun t => bin (LN pk A + LN pk (less hs A) - 1) (LN pk A - 1) * cnt pk (less hs A) * cnt pk (less A t) := List.map_congr_left fun t ht => (stA t ht).2.1
      have e' : (tearsOf (less hs A) pk).map (fun t => cnt pk (less hs t)) = (tearsOf (less hs A) pk).map fun t => bin (LN pk A + LN pk (less hs A) - 1) (LN pk A) * cnt pk A * cnt pk (less (less hs A) t) := List.map_congr_left fun t ht => (stB t ht).2.1
      rw [e, e', sum_map_mul, sum_map_mul, ← cnt_sum hRA hrA hA, bin_pascal (by omega), if_neg ha]
      by_cases hB : tearsOf (less hs A) pk = []
      · rw [hB, LN_nil hB, if_pos rfl, List.map_nil, List.sum_nil, Nat.mul_zero, Nat.add_zero, Nat.add_zero, Nat.add_zero, cnt_nil hRB hrB hB]
        simp
      · obtain ⟨u, hu⟩ := List.exists_mem_of_ne_nil _ hB
        rw [← cnt_sum hRB hrB hB, if_neg (stB u hu).2.2, Nat.add_mul]
        congr 1
        · rw [Nat.mul_assoc, Nat.mul_comm (cnt pk (less hs A))]
        · rw [Nat.mul_assoc]
end DL

namespace DL
open PySem PySem.Spec PyProof.Rows L2

/-! ### pieces have nothing to do with each other -/
def inn (hs : List Bd) (p : List Fd) : List Bd := hs.filter fun b => decide (fst' b ∈ p) && decide (oth b ∈ p)
theorem mem_inn {hs : List Bd} {p : List Fd} {b : Bd} : b ∈ inn hs p ↔ b ∈ hs ∧ fst' b ∈ p ∧ oth b ∈ p := by simp [inn]
theorem inn_sub {hs : List Bd} {p : List Fd} : (inn hs p).Sublist hs := List.filter_sublist
theorem inn_ris {hs : List Bd} {p : List Fd} (h : Ris eB hs) : Ris eB (inn hs p) := h.filter _
theorem inn_all {fs : List Fd} {hs : List Bd} (h : InF fs hs) : inn hs fs = hs := by
  unfold inn
  rw [List.filter_eq_self]
  exact fun b hb => by simp [h b hb]
theorem corner_reach {hs : List Bd} {c : Fd} (h : whole hs c = true) : ∀ z ∈ arnd c, Reach hs (c.1 - 1, c.2 - 1) (fst' z) ∧ Reach hs (c.1 - 1, c.2 - 1) (oth z) := by
  have hw := whole_iff.mp h
  have m : ∀ z ∈ arnd c, z ∈ hs := hw
  have a1 : Adj hs (c.1 - 1, c.2 - 1) (c.1 - 1, c.2) := ⟨(false, c.1 - 1, c.2 - 1), m _ (by simp [arnd]), .inl ⟨rfl, by simp [oth]⟩⟩
  have a2 : Adj hs (c.1, c.2 - 1) (c.1, c.2) := ⟨(false, c.1, c.2 - 1), m _ (by simp [arnd]), .inl ⟨rfl, by simp [oth]⟩⟩
  have a3 : Adj hs (c.1 - 1, c.2 - 1) (c.1, c.2 - 1) := ⟨(true, c.1 - 1, c.2 - 1), m _ (by simp [arnd]), .inl ⟨rfl, by simp [oth]⟩⟩
  have r0 : Reach hs (c.1 - 1, c.2 - 1) (c.1 - 1, c.2 - 1) := .refl
  have r1 : Reach hs (c.1 - 1, c.2 - 1) (c.1 - 1, c.2) := r0.step a1
  have r3 : Reach hs (c.1 - 1, c.2 - 1) (c.1, c.2 - 1) := r0.step a3
  have r2 : Reach hs (c.1 - 1, c.2 - 1) (c.1, c.2) := r3.step a2
  intro z hz
  simp only [arnd, List.mem_cons, List.not_mem_nil, or_false] at hz
  have e1 : c.2 - 1 + 1 = c.2 := by omega
  have e2 : c.1 - 1 + 1 = c.1 := by omega
  rcases hz with rfl | rfl | rfl | rfl
  · exact ⟨r0, by simpa [oth, e1] using r1⟩
  · exact ⟨r3, by simpa [oth, e1] using r2⟩
  · exact ⟨r0, by simpa [oth, e2] using r3⟩
  · exact ⟨r1, by simpa [oth, e2] using r2⟩
/-- fields that are closed -/
theorem cl_inn {fs : List Fd} {hs : List Bd} {P : List Fd} (hin : InF fs hs) (hP : ∀ f ∈ P, ∀ g ∈ fs, Reach hs f g → g ∈ P) : Cl hs (inn hs P) where
  sub := fun b hb => (mem_inn.mp hb).1
  cl := fun c hc x hx hxA y hy => by
    have hy' := whole_iff.mp hc y hy
    have h1 := (corner_reach hc x hx).1
    obtain ⟨h2, h3⟩ := corner_reach hc y hy
    have hf := (mem_inn.mp hxA).2.1
    exact mem_inn.mpr ⟨hy', hP _ hf _ (hin y hy').1 (h1.symm.trans h2), hP _ hf _ (hin y hy').2 (h1.symm.trans h3)⟩
theorem lot_closed {fs : List Fd} {hs : List Bd} {f : Fd} : ∀ g ∈ lotOf fs hs f, ∀ h ∈ fs, Reach hs g h → h ∈ lotOf fs hs f := fun g hg h hh r =>
  mem_lotOf.mpr ⟨hh, (mem_lotOf.mp hg).2.trans r⟩
theorem lots_closed {fs : List Fd} {hs : List Bd} (hr : Ris eF fs) {l : List (List Fd)} (hl : ∀ p ∈ l, p ∈ parts fs hs) : ∀ g ∈ l.flatten, ∀ h ∈ fs, Reach hs g h → h ∈ l.flatten := fun g hg h hh r => by
  obtain ⟨p, hp, hgp⟩ := List.mem_flatten.mp hg
  obtain ⟨f, hf, rfl⟩ := (parts_mem hr).mp (hl p hp)
  exact List.mem_flatten.mpr ⟨_, hp, lot_closed g hgp h hh r⟩
/-- one piece more -/
theorem inn_snoc {fs : List Fd} {hs : List Bd} (hr : Ris eF fs) (hin : InF fs hs) {done : List (List Fd)} {p : List Fd} {rest : List (List Fd)} (hp : parts fs hs = done ++ p :: rest) :
    Cl (inn hs (done ++ [p]).flatten) (inn hs p) ∧ less (inn hs (done ++ [p]).flatten) (inn hs p) = inn hs done.flatten := by
  have hdis : ∀ x ∈ done.flatten, x ∉ p := fun x hx hxp => by
    obtain ⟨q, hq, hxq⟩ := List.mem_flatten.mp hx
    have hd := parts_disj (hs := hs) hr
    rw [hp, List.pairwise_append] at hd
    exact hd.2.2 q hq p (by simp) x hxq hxp
  have hm : ∀ q ∈ done, q ∈ parts fs hs := fun q hq => by rw [hp]; simp [hq]
  have hpm : p ∈ parts fs hs := by rw [hp]; simp
  obtain ⟨f, hf, ep⟩ := (parts_mem hr).mp hpm
  have hcl : Cl hs (inn hs p) := cl_inn hin (by rw [ep]; exact lot_closed)
  have hfl : (done ++ [p]).flatten = done.flatten ++ p := by simp
  constructor
  · refine ⟨fun b hb => ?_, fun c hc x hx hxA y hy => hcl.cl c (whole_mono (fun b hb => (mem_inn.mp hb).1) hc) x hx hxA y hy⟩
    obtain ⟨h1, h2, h3⟩ := mem_inn.mp hb
    rw [hfl]
    exact mem_inn.mpr ⟨h1, List.mem_append_right _ h2, List.mem_append_right _ h3⟩
  · rw [hfl]
    unfold less inn
    rw [List.filter_filter]
    refine List.filter_congr fun b hb => ?_
    rw [Bool.eq_iff_iff]
    simp only [Bool.and_eq_true, Bool.not_eq_true', decide_eq_false_iff_not, decide_eq_true_eq, List.mem_filter, List.mem_append]
    have hre : Reach hs (fst' b) (oth b) := Reach.refl.step ⟨b, hb, .inl ⟨rfl, rfl⟩⟩
    have hcd := lots_closed hr hm
    constructor
    · rintro ⟨h1, h2, h3⟩
      rcases h2 with h2 | h2
      · exact ⟨h2, hcd _ h2 _ (hin b hb).2 hre⟩
      · have : oth b ∈ p := by rw [ep] at h2 ⊢; exact lot_closed _ h2 _ (hin b hb).2 hre
        exact (h1 ⟨hb, h2, this⟩).elim
    · rintro ⟨h1, h2⟩
      exact ⟨fun z => hdis _ h1 z.2.1, .inl h1, .inl h2⟩
theorem LN_empty (pk : List Bd) : LN pk [] = 0 := LN_nil (tears_nil pk)
theorem cnt_empty (pk : List Bd) : cnt pk [] = 1 := rfl
theorem inn_nil (hs : List Bd) : inn hs [] = [] := by unfold inn; rw [List.filter_eq_nil_iff]; simp
theorem rows_snoc {fs : List Fd} {hs pk : List Bd} (hR : InR hs) (hrb : Ris eB hs) (hr : Ris eF fs) (hin : InF fs hs) {done : List (List Fd)} {p : List Fd} {rest : List (List Fd)} (hp : parts fs hs = done ++ p :: rest) :
    LN pk (inn hs (done ++ [p]).flatten) = LN pk (inn hs p) + LN pk (inn hs done.flatten) ∧
      cnt pk (inn hs (done ++ [p]).flatten) = bin (LN pk (inn hs p) + LN pk (inn hs done.flatten)) (LN pk (inn hs p)) * (cnt pk (inn hs p) * cnt pk (inn hs done.flatten)) := by
  obtain ⟨h1, h2⟩ := inn_snoc hr hin hp
  have := shuf (pk := pk) _ _ _ (Nat.le_refl _) (hR.sub fun b hb => (mem_inn.mp hb).1) (inn_ris hrb) (inn_ris hrb) h1
  rw [h2] at this
  exact this
theorem inn_parts {fs : List Fd} {hs : List Bd} (hr : Ris eF fs) (hin : InF fs hs) : inn hs (parts fs hs).flatten = hs := by
  refine inn_all fun b hb => ?_
  have hp := parts_flat (hs := hs) hr
  exact ⟨hp.mem_iff.mpr (hin b hb).1, hp.mem_iff.mpr (hin b hb).2⟩
/-- a piece's state -/
structure PcSt (fs : List Fd) (hs : List Bd) : Prop where
  ne : fs ≠ []
  few : fs.length ≤ 16
  fris : Ris eF fs
  fin : ∀ f ∈ fs, inF f
  hris : Ris eB hs
  inn : InF fs hs
  con : ∀ f ∈ fs, ∀ g ∈ fs, Reach hs f g
theorem PcSt.inR {fs : List Fd} {hs : List Bd} (P : PcSt fs hs) : InR hs := fun b hb => P.fin _ (P.inn b hb).1
theorem len_inF {fs : List Fd} {hs : List Bd} (hn : hs.Nodup) (hin : InF fs hs) : hs.length ≤ 2 * fs.length :=
  Nat.le_trans (len_le_of_nodup hn fun b hb => mem_bordersOf.mpr (hin b hb)) (bordersOf_len fs)
theorem PcSt.hlen {fs : List Fd} {hs : List Bd} (P : PcSt fs hs) : hs.length ≤ 32 := by
  have := len_inF P.hris.nodup P.inn
  have := P.few
  omega
theorem reach_inn {fs : List Fd} {hs : List Bd} (hin : InF fs hs) {f g : Fd} (hf : f ∈ fs) (h : Reach hs f g) : Reach (DL.inn hs (lotOf fs hs f)) f g := by
  induction h with
  | refl => exact .refl
  | step r a ih =>
    refine ih.step ?_
    obtain ⟨b, hb, h⟩ := a
    have hm : ∀ x ∈ fs, Reach hs f x → x ∈ lotOf fs hs f := fun x hx r => mem_lotOf.mpr ⟨hx, r⟩
    refine ⟨b, mem_inn.mpr ⟨hb, ?_⟩, h⟩
    rcases h with ⟨h1, h2⟩ | ⟨h1, h2⟩
    · exact ⟨hm _ (hin b hb).1 (h1 ▸ r), hm _ (hin b hb).2 (h2 ▸ r.step ⟨b, hb, .inl ⟨h1, h2⟩⟩)⟩
    · exact ⟨hm _ (hin b hb).1 (h1 ▸ r.step ⟨b, hb, .inr ⟨h1, h2⟩⟩), hm _ (hin b hb).2 (h2 ▸ r)⟩
/-- the pieces behind a tear, or of a sheet -/
theorem pc_of {fs : List Fd} {hs : List Bd} (hr : Ris eF fs) (hfew : fs.length ≤ 16) (hfin : ∀ f ∈ fs, inF f) (hrb : Ris eB hs) (hin : InF fs hs) {p : List Fd} (hp : p ∈ parts fs hs) : PcSt p (DL.inn hs p) := by
  obtain ⟨f, hf, rfl⟩ := (parts_mem hr).mp hp
  have hff : f ∈ lotOf fs hs f := mem_lotOf.mpr ⟨hf, .refl⟩
  refine ⟨List.ne_nil_of_mem hff, ?_, lot_ris hr f, fun g hg => hfin g (mem_lotOf.mp hg).1, inn_ris hrb, fun b hb => (mem_inn.mp hb).2, fun g hg h hh => ?_⟩
  · exact Nat.le_trans (List.length_filter_le _ _) hfew
  · exact (reach_inn hin hf (mem_lotOf.mp hg).2).symm.trans (reach_inn hin hf (mem_lotOf.mp hh).2)
theorem PcSt.less {fs : List Fd} {hs t : List Bd} (P : PcSt fs hs) : InF fs (DL.less hs t) := fun b hb => P.inn b (less_sub b hb)
theorem PcSt.behind {fs : List Fd} {hs t : List Bd} (P : PcSt fs hs) {p : List Fd} (hp : p ∈ parts fs (DL.less hs t)) : PcSt p (DL.inn (DL.less hs t) p) :=
  pc_of P.fris P.few P.fin (ris_less P.hris) P.less hp
theorem cnt_fac {pk : List Bd} : ∀ (n : Nat) (hs : List Bd), hs.length ≤ n → InR hs → Ris eB hs → cnt pk hs ≤ (List.range (n + 1)).foldl (fun a i => a * max i 1) 1
  | 0, hs, h, hR, hr => by
    have : hs = [] := List.length_eq_zero_iff.mp (by omega)
    subst this
    rw [cnt_empty]; decide
  | n + 1, hs, h, hR, hr => by
    have fold : (List.range (n + 1 + 1)).foldl (fun a i => a * max i 1) 1 = (List.range (n + 1)).foldl (fun a i => a * max i 1) 1 * (n + 1) := by
      rw [List.range_succ, List.foldl_append]
      simp
    have hpos : ∀ m, 1 ≤ (List.range m).foldl (fun a i => a * max i 1) 1 := fun m => by
      induction m with
      | zero => simp
      | succ m ih =>
        rw [List.range_succ, List.foldl_append]
        exact Nat.mul_pos ih (show 0 < max m 1 by omega)
    rw [fold]
    generalize hF : (List.range (n + 1)).foldl (fun a i => a * max i 1) 1 = F
    have hF1 : 1 ≤ F := by rw [← hF]; exact hpos _
    have hle : ((tearsOf hs pk).map fun t => cnt pk (less hs t)).sum ≤ (tearsOf hs pk).length * F := by
      have : ∀ l : List (List Bd), (∀ t ∈ l, cnt pk (less hs t) ≤ F) → (l.map fun t => cnt pk (less hs t)).sum ≤ l.length * F := fun l => by
        induction l with
        | nil => intro _; simp
        | cons t l ih =>
          intro hh
          have h1 := hh t (by simp)
          have h2 := ih fun u hu => hh u (List.mem_cons_of_mem _ hu)
          rw [List.map_cons, List.sum_cons, List.length_cons, Nat.succ_mul]
          omega
      refine this _ fun t ht => ?_
      have hl := (tear_len hR hr ht).1
      rw [← hF]
      exact cnt_fac n _ (by omega) hR.less (ris_less hr)
    have hfew : (tearsOf hs pk).length ≤ hs.length := by
      have hd : ((tearsOf hs pk).map fun t => t.headD default).Nodup := by
        refine (List.pairwise_map).mpr ?_
        refine List.Pairwise.imp_of_mem (fun {a b} ha hb hne z => hne ?_) (tears_nodup (hs := hs) (pk := pk))
        obtain ⟨x, hx, rfl, _⟩ := (tears_mem hR).mp ha
        obtain ⟨y, hy, rfl, _⟩ := (tears_mem hR).mp hb
        have h1 := head_in (tearSet_ne hs x)
        have h2 := head_in (tearSet_ne hs y)
        rw [z] at h1
        exact tears_disj hR h1 h2
      have hs' := len_le_of_nodup hd (m := hs) fun a ha => by
        obtain ⟨t, ht, rfl⟩ := List.mem_map.mp ha
        exact (tear_len hR hr ht).2.2.2 _ (head_in (tear_ne ht))
      simpa using hs'
    rw [cnt_eq hR hr]
    have h3 : (tearsOf hs pk).length * F ≤ (n + 1) * F := Nat.mul_le_mul_right F (by omega)
    rw [Nat.mul_comm F (n + 1)]
    have h4 : 1 ≤ (n + 1) * F := Nat.mul_pos (by omega) hF1
    omega
theorem cnt_small {pk hs : List Bd} (hR : InR hs) (hr : Ris eB hs) (h : hs.length ≤ 18) : cnt pk hs < 2 ^ 64 := by
  have := cnt_fac (pk := pk) 18 hs h hR hr
  have e : (List.range (18 + 1)).foldl (fun a i => a * max i 1) 1 = 6402373705728000 := by decide +kernel
  rw [e] at this
  omega
end DL

namespace DL
open PySem PySem.Spec PyProof.Rows L2

/-! ### within, behind -/
def sp_within : DSp := spK fun args S ks => ∃ ph n hs fs, args = [.loc ph, .tup (fs.map eF)] ∧ S ph = some (.dic n (dT (hs.map eB))) ∧ hs.Nodup ∧ hs.length ≤ 1000 ∧ fs.Nodup ∧ fs.length ≤ 1000 ∧ ks = (inn hs fs).map eB
def n_within : List Str := ["hanging", "fields", "some", "field", "border"]
def t_within (W : DWX) : DTS := (dSeq (dAsg (dDc (dIter (dVar 1)) (dcR1 (gN 3) dYes (dVar 3) (dC (.bl true)) [3])) (gN 2))
  (dRet (dDc (dIter (dVar 0)) (dcR1 (gN 4) (dAnd (dB (dOp rInD (dOp rIxD (dCall sp_fields_at W0 (dCons (dVar 4) dNil)) (dC (.int 0))) (dVar 2))) (dB (dOp rInD (dOp rIxD (dCall sp_fields_at W0 (dCons (dVar 4) dNil)) (dC (.int 1))) (dVar 2)))) (dVar 4) (dC (.bl true)) [4]))))
theorem len_within : Ln 2 sp_within := fun _ _ _ _ ⟨_, ⟨_, _, _, _, h, _⟩, _⟩ => by rw [h]; rfl
theorem rd_within : Rd n_within t_within sp_within := fun {args S Q Ed} h => by
  obtain ⟨v, ⟨ph, n, hs, fs, rfl, hph, hhn, hhl, hfn, hfl, rfl⟩, hQ⟩ := h
  simp only [t_within, n_within, dSeq, dAsg]
  refine dDc_filter (fun _ _ => eF_inj) (l := fs) (S1 := S) (G := fun _ => True) (fun _ => true) key_F hfn (by omega) (fun R h => by simp; exact h) (fun _ _ => trivial) (by simp) (fun b hb S' e K hK => hK S' (Ext.refl _)) (fun S1 pg ng e1 hpg => ?_)
  rw [filter_all]
  simp only [gN, dRet]
  have e1' := e1.trans (Ext.new (o := .dic ng (dT (fs.map eF))) hpg)
  have g1 : put S1 pg (.dic ng (dT (fs.map eF))) pg = some (.dic ng (dT (fs.map eF))) := put_same
  generalize put S1 pg (.dic ng (dT (fs.map eF))) = S2 at e1' g1
  show dDc _ _ [some (.loc ph), some (.tup (fs.map eF)), some (.loc pg), none, none] S2 Q
  have hph2 := e1' _ _ hph
  refine dDc_flt (fun _ _ => eB_inj) (l := hs) (fun b => decide (fst' b ∈ fs) && decide (oth b ∈ fs)) key_B hhn (by omega) (fun R hR => ?_) (by simp) (fun b hb S' e K hK => ?_) (fun S4 q n e4 hq => ?_)
  · simp [hph2, dT_keys]
    exact hR S2 _ (Ext.refl _) fun S' e => e _ _ hph2
  · simp
    refine ⟨_, ⟨b, rfl, rfl⟩, fun S3 e3 => ?_⟩
    have hg := (e.trans e3) _ _ g1
    simp [hg, dget_dT, mem_eF, at0]
    by_cases h1 : fst' b ∈ fs
    · simp [h1, isK_F]
      refine ⟨_, ⟨b, rfl, rfl⟩, fun S4 e4 => ?_⟩
      have hg4 := e4 _ _ hg
      have := hK S4 (e3.trans e4)
      simp [hg4, dget_dT, mem_eF, at1]
      by_cases h2 : oth b ∈ fs
      · simp [h1, h2] at this ⊢; exact this
      · simp [h1, h2] at this ⊢; exact this
    · have := hK S3 e3
      simp [h1] at this ⊢; exact this
  · exact hQ _ q n ((e1'.trans e4).trans (Ext.new hq)) ((e1'.trans e4).free hq) put_same
/-- a list's comprehension, with what changes -/
theorem lcL_inv {g : DTG} {tt : DTT} {te : DTE} {vs : List Nat} {σ : DSt} {G : Store → Prop} {Q : List D → Store → Prop} (Inv : List D → List D → Store → Prop) (hnil : ∀ acc S, Inv [] acc S → G S ∧ Q acc S)
    (hcons : ∀ x r acc S, Inv (x :: r) acc S → G S ∧ ∀ N : List D → Store → Prop, (∀ acc' S', Inv r acc' S' → N acc' S') → g x (dwipe σ vs) S fun σ2 S2 => tt σ2 S2 fun b S3 => if b = true then te σ2 S3 fun y S4 => N (acc ++ [y]) S4 else N acc S3) : ∀ ds acc S, Inv ds acc S → lcL g tt te vs σ G Q ds acc S
  | [], acc, S, h => hnil acc S h
  | x :: r, acc, S, h => ⟨(hcons x r acc S h).1, (hcons x r acc S h).2 _ fun acc' S' h' => lcL_inv Inv hnil hcons r acc' S' h'⟩
theorem dLc_inv {ti : DTI} {g : DTG} {tt : DTT} {te : DTE} {vs : List Nat} {σ : DSt} {S S1 : Store} {G : Store → Prop} {ds : List D} {Q : DQ} (hi : ∀ R : List D → (Store → Prop) → Store → Prop, R ds G S1 → ti σ S R) (Inv : List D → List D → Store → Prop) (h0 : Inv ds [] S1)
    (hnil : ∀ acc S, Inv [] acc S → G S ∧ ∀ p, S p = none → Q (.loc p) (put S p (.lst acc)))
    (hcons : ∀ x r acc S, Inv (x :: r) acc S → G S ∧ ∀ N : List D → Store → Prop, (∀ acc' S', Inv r acc' S' → N acc' S') → g x (dwipe σ vs) S fun σ2 S2 => tt σ2 S2 fun b S3 => if b = true then te σ2 S3 fun y S4 => N (acc ++ [y]) S4 else N acc S3) : dLc ti g tt te vs σ S Q :=
  hi _ (lcL_inv Inv hnil hcons ds [] S1 h0)
abbrev PQ := List Fd × Addr × Nat
def eQ (q : PQ) : D := .tup [eL q.1, .loc q.2.1]
def sp_behind : DSp := fun args S Q _ => ∃ (fs : List Fd) (hs t : List Bd) (ph : Addr) (n : Nat), args = [.tup (fs.map eF), .loc ph, eT t] ∧ S ph = some (.dic n (dT (hs.map eB))) ∧ Ris eF fs ∧ fs.length ≤ 1000 ∧ hs.Nodup ∧ hs.length ≤ 1000 ∧ InF fs hs ∧
  ∀ S' p (l : List PQ), Ext S S' → S p = none → l.map (·.1) = parts fs (less hs t) → S' p = some (.lst (l.map eQ)) → (∀ q ∈ l, S q.2.1 = none ∧ S' q.2.1 = some (.dic q.2.2 (dT ((inn (less hs t) q.1).map eB)))) → Q (.loc p) S'
def n_behind : List Str := ["fields", "hanging", "tear", "left", "border", "piece"]
def t_behind (W : DWX) : DTS := (dSeq (dAsg (dDc (dIter (dVar 1)) (dcR1 (gN 4) (dB (dOp rNinD (dVar 4) (dVar 2))) (dVar 4) (dC (.bl true)) [4])) (gN 3))
  (dRet (dLc (dIter (dCall sp_parts_of W (dCons (dVar 0) (dCons (dCB rLstK (dCons (dVar 3) dNil)) dNil)))) (gN 5) dYes (dTup (dCons (dVar 5) (dCons (dCall sp_within W0 (dCons (dVar 3) (dCons (dVar 5) dNil))) dNil))) [5])))
theorem len_behind : Ln 3 sp_behind := fun _ _ _ _ ⟨_, _, _, _, _, h, _⟩ => by rw [h]; rfl
theorem rd_behind : Rd n_behind t_behind sp_behind := fun {args S Q Ed} h => by
  obtain ⟨fs, hs, t, ph, n, rfl, hph, hr, hfl, hhn, hhl, hin, hQ⟩ := h
  simp only [t_behind, n_behind, dSeq, dAsg]
  refine dDc_flt (fun _ _ => eB_inj) (l := hs) (fun b => !decide (b ∈ t)) key_B hhn (by omega) (fun R hR => ?_) (by simp) (fun b hb S' e K hK => ?_) (fun S1 pl nl e1 hpl => ?_)
  · simp [hph, dT_keys]
    exact hR S _ (Ext.refl _) fun S' e => e _ _ hph
  · simp [eT, pl_B, pl_Bs 7, mem_eB]
    have := hK S' (Ext.refl _)
    by_cases hb : b ∈ t
    · simp [hb] at this ⊢; exact this
    · simp [hb] at this ⊢; exact this
  have hless : (hs.filter fun b => !decide (b ∈ t)) = less hs t := rfl
  rw [hless]
  have e1' := e1.trans (Ext.new (o := .dic nl (dT ((less hs t).map eB))) hpl)
  have g1 : put S1 pl (.dic nl (dT ((less hs t).map eB))) pl = some (.dic nl (dT ((less hs t).map eB))) := put_same
  generalize put S1 pl (.dic nl (dT ((less hs t).map eB))) = S2 at e1' g1
  have hll : (less hs t).length ≤ 1000 := Nat.le_trans (List.length_filter_le _ _) hhl
  have hln : (less hs t).Nodup := hhn.filter _
  have hlin : InF fs (less hs t) := fun b hb => hin b (less_sub b hb)
  simp only [gN, dRet, List.set_cons_succ, List.set_cons_zero, dLc, dIter, dCall, dCB, dCons, dNil, dstart, List.map_cons, List.map_nil, List.length_cons, List.length_nil, List.cons_append, List.nil_append, List.replicate, dVar_succ, dVar_zero, rLstK, g1, dT_keys]
  intro p3 hp3
  have e3 := e1'.trans (Ext.new (o := .lst ((less hs t).map eB)) hp3)
  have g3 := Ext.new (o := .lst ((less hs t).map eB)) hp3 _ _ g1
  have h3 : put S2 p3 (.lst ((less hs t).map eB)) p3 = some (.lst ((less hs t).map eB)) := put_same
  generalize put S2 p3 (.lst ((less hs t).map eB)) = S3 at e3 g3 h3
  refine ⟨_, ⟨fs, less hs t, p3, rfl, h3, hr, hfl, hll, hlin, rfl⟩, fun S4 p4 e4 hp4 h4 => ?_⟩
  simp only [h4]
  have e14 := e3.trans e4
  have g4 := e4 _ _ g3
  refine lcL_inv (fun rest acc S' => ∃ (l : List PQ) (ls : List (List Fd)), rest = ls.map eL ∧ acc = l.map eQ ∧ l.map (·.1) ++ ls = parts fs (less hs t) ∧ Ext S4 S' ∧ ∀ q ∈ l, S q.2.1 = none ∧ S' q.2.1 = some (.dic q.2.2 (dT ((inn (less hs t) q.1).map eB)))) ?_ ?_ _ [] S4 ⟨[], parts fs (less hs t), rfl, rfl, rfl, Ext.refl _, by simp⟩
  · rintro acc S' ⟨l, ls, q1, rfl, q2, q3, q4⟩
    have : ls = [] := by cases ls with | nil => rfl | cons _ _ => simp at q1
    subst this
    rw [List.append_nil] at q2
    refine ⟨q3 _ _ h4, fun p hp => ?_⟩
    exact hQ _ p l ((e14.trans q3).trans (Ext.new hp)) ((e14.trans q3).free hp) q2 put_same fun q hq => ⟨(q4 q hq).1, Ext.new hp _ _ (q4 q hq).2⟩
  · rintro x rest acc S' ⟨l, ls, q1, rfl, q2, q3, q4⟩
    refine ⟨q3 _ _ h4, fun N hN => ?_⟩
    cases ls with
    | nil => simp at q1
    | cons p ls =>
      simp only [List.map_cons, List.cons.injEq] at q1
      obtain ⟨rfl, rfl⟩ := q1
      have hpm : p ∈ parts fs (less hs t) := by rw [← q2]; simp
      obtain ⟨f, hf, ep⟩ := (parts_mem hr).mp hpm
      have hpl : p.length ≤ 1000 := by rw [ep]; exact Nat.le_trans (List.length_filter_le _ _) hfl
      have hpn : p.Nodup := by rw [ep]; exact (lot_ris hr f).nodup
      simp [gN, dwipe, dYes]
      refine ⟨_, ⟨pl, nl, less hs t, p, rfl, q3 _ _ g4, hln, hll, hpn, hpl, rfl⟩, fun S5 pw nw e5 hpw h5 => ?_⟩
      refine hN _ _ ⟨l ++ [(p, pw, nw)], ls, rfl, ?_, by rw [← q2]; simp, q3.trans e5, fun q hq => ?_⟩
      · simp [eQ]
      · rcases List.mem_append.mp hq with hq | hq
        · exact ⟨(q4 q hq).1, e5 _ _ (q4 q hq).2⟩
        · rw [List.mem_singleton] at hq
          subst hq
          exact ⟨(e14.trans q3).free hpw, h5⟩
/-! ### key_of, choices -/
def eKy (fs : List Fd) (hs : List Bd) : D := .tup [.tup (fs.map eF), .tup (hs.map eB)]
theorem eKy_inj {fs gs : List Fd} {hs ks : List Bd} (h : eKy fs hs = eKy gs ks) : fs = gs ∧ hs = ks := by
  unfold eKy at h
  injection h with h
  injection h with h1 h2
  injection h2 with h2 _
  exact ⟨eL_inj h1, eT_inj h2⟩
theorem isKs_Fs (l : List Fd) : D.isKs (l.map eF) = true := by
  induction l with
  | nil => rfl
  | cons b l ih => rw [List.map_cons, D.isKs, ih]; rfl
theorem deps_Fs (l : List Fd) : D.deps (l.map eF) ≤ 1 := by
  induction l with
  | nil => simp [D.deps]
  | cons b l ih =>
    rw [List.map_cons, D.deps]
    have : (eF b).dep = 1 := by simp [eF, D.dep, D.deps]
    omega
theorem isK_Ky (fs : List Fd) (hs : List Bd) : ((eKy fs hs).isK && decide ((eKy fs hs).dep ≤ 8) && (eKy fs hs).isTup) = true := by
  have h1 := deps_Fs fs
  have h2 := deps_Bs hs
  have h3 : (eKy fs hs).isK = true := by
    simp [eKy, D.isK, D.isKs, isKs_Fs, isKs_Bs]
  have h4 : (eKy fs hs).dep ≤ 8 := by
    simp only [eKy, D.dep, D.deps]
    omega
  rw [h3, decide_eq_true h4]
  rfl
def sp_key_of : DSp := spV fun args S v => ∃ (fs : List Fd) (ph : Addr) (n : Nat) (hs : List Bd), args = [.tup (fs.map eF), .loc ph] ∧ S ph = some (.dic n (dT (hs.map eB))) ∧ Ris eB hs ∧ v = eKy fs hs
def n_key_of : List Str := ["fields", "hanging"]
def t_key_of (W : DWX) : DTS := (dRet (dTup (dCons (dVar 0) (dCons (dCB rTupD (dCons (dCB rSortD (dCons (dVar 1) dNil)) dNil)) dNil))))
theorem len_key_of : Ln 2 sp_key_of := fun _ _ _ _ ⟨_, ⟨_, _, _, _, h, _⟩, _⟩ => by rw [h]; rfl
theorem rd_key_of : Rd n_key_of t_key_of sp_key_of := fun {args S Q Ed} h => by
  obtain ⟨v, ⟨fs, ph, n, hs, rfl, hph, hr, rfl⟩, hQ⟩ := h
  simp [t_key_of, n_key_of, rSortD, hph, dT_keys]
  refine ⟨sort_B hs, fun p hp => ?_⟩
  rw [dsort_map, srt_id oinj_B hr.le]
  simp [put_same]
  exact hQ _ (Ext.new hp)
def sp_choices : DSp := spV fun args _ v => ∃ n k : Nat, args = [.int n, .int k] ∧ k ≤ n ∧ n ≤ 40 ∧ v = .int (bin n k : Nat)
def n_choices : List Str := ["many", "some", "found", "at"]
def l_choices_1 (W : DWX) : DTS := (dFor (dRng1 (dCons (dVar 1) dNil)) (gN 3) (dAsg (dOp rDivI (dOp rMulI (dVar 2) (dOp (rI2 fun i j => .int (i - j)) (dVar 0) (dVar 3))) (dOp rCatD (dVar 3) (dC (.int 1)))) (gN 2)))
def t_choices (W : DWX) : DTS := (dSeq (dAsg (dC (.int 1)) (gN 2))
  (dSeq (l_choices_1 W)
  (dRet (dVar 2))))
theorem len_choices : Ln 2 sp_choices := fun _ _ _ _ ⟨_, ⟨_, _, h, _⟩, _⟩ => by rw [h]; rfl
theorem rd_choices : Rd n_choices t_choices sp_choices := fun {args S Q Ed} h => by
  obtain ⟨v, ⟨n, k, rfl, hk, hn, rfl⟩, hQ⟩ := h
  simp only [t_choices, n_choices, dSeq, dAsg, dC, gN]
  show l_choices_1 _ _ [some (.int n), some (.int k), some (.int 1), none] S
  unfold l_choices_1
  refine dFor_inv (ds := (List.range k).map fun (i : Nat) => D.int (i : Int)) (G := fun _ => True) (S1 := S) (fun R h => ?_)
    (fun rest σ S' => ∃ (m : Nat) (o : Option D), rest = ((List.range k).map fun (i : Nat) => D.int (i : Int)).drop m ∧ m ≤ k ∧ σ = [some (.int n), some (.int k), some (.int (bin n m : Nat)), o] ∧ S' = S)
    ⟨0, none, rfl, Nat.zero_le _, by rw [bin_zero]; rfl, rfl⟩ ?_ ?_
  · simp only [dRng1, dCons, dNil, dVar_succ, dVar_zero]
    exact ⟨⟨by omega, by omega⟩, by simpa using h⟩
  · rintro σ S' ⟨m, o, q1, q2, rfl, rfl⟩
    have hm : m = k := by
      have := congrArg List.length q1
      simp at this
      omega
    subst hm
    exact ⟨trivial, hQ S' (Ext.refl _)⟩
  · rintro x rest σ S' ⟨m, o, q1, q2, rfl, rfl⟩
    refine ⟨trivial, fun N hN => ?_⟩
    have hm : m < k := by
      rcases Nat.lt_or_ge m k with h | h
      · exact h
      · rw [List.drop_eq_nil_of_le (by simp; omega)] at q1; cases q1
    have hdr : ((List.range k).map fun (i : Nat) => D.int (i : Int)).drop m = D.int (m : Int) :: ((List.range k).map fun (i : Nat) => D.int (i : Int)).drop (m + 1) := by
      rw [List.drop_eq_getElem_cons (by simp; omega)]
      simp
    rw [hdr, List.cons.injEq] at q1
    obtain ⟨rfl, rfl⟩ := q1
    simp only [gN, dAsg, dOp, dC, rI2, rMulI, rDivI, rCatD, List.set_cons_succ, List.set_cons_zero, dVar_succ, dVar_zero]
    refine ⟨.inr ⟨by omega, by omega⟩, ⟨by omega, by omega⟩, hN _ _ ⟨m + 1, some (.int (m : Int)), rfl, by omega, ?_, rfl⟩⟩
    have hst := bin_step n m
    have e : ((bin n m : Nat) : Int) * ((n : Int) - (m : Int)) / ((m : Int) + 1) = ((bin n (m + 1) : Nat) : Int) := by
      have h1 : ((n : Int) - (m : Int)) = ((n - m : Nat) : Int) := by omega
      rw [h1, ← Int.natCast_mul, ← hst]
      have h2 : ((m : Int) + 1) = ((m + 1 : Nat) : Int) := by omega
      rw [h2, ← Int.natCast_ediv, Nat.mul_div_cancel _ (by omega)]
    rw [e]
end DL

namespace DL
open PySem PySem.Spec PyProof.Rows L2

/-! ### what is kept -/
structure Univ (pk : List Bd) (U : List Fd → List Bd → Prop) : Prop where
  st : ∀ fs hs, U fs hs → PcSt fs hs
  cl : ∀ fs hs t, U fs hs → t ∈ tearsOf hs pk → ∀ p ∈ parts fs (less hs t), U p (inn (less hs t) p)
  few : ∀ l : List (List Fd × List Bd), l.Nodup → (∀ q ∈ l, U q.1 q.2) → l.length < 10000000
structure Memo (U : List Fd → List Bd → Prop) (v : List Fd → List Bd → D) (kvs : List (D × D)) : Prop where
  ok : ∃ l : List (List Fd × List Bd), l.Nodup ∧ (∀ q ∈ l, U q.1 q.2) ∧ kvs = l.map fun q => (eKy q.1 q.2, v q.1 q.2)
theorem memo_nil (U : List Fd → List Bd → Prop) (v : List Fd → List Bd → D) : Memo U v [] := ⟨[], by simp, by simp, rfl⟩
theorem dget_map {α : Type} {l : List α} {k : α → D} {v : α → D} {d : D} : dget (l.map fun q => (k q, v q)) d = (l.find? fun q => decide (k q = d)).map v := by
  unfold dget
  rw [List.find?_map, Option.map_map]
  rfl
theorem Memo.get {U : List Fd → List Bd → Prop} {v : List Fd → List Bd → D} {kvs : List (D × D)} (M : Memo U v kvs) (fs : List Fd) (hs : List Bd) : dget kvs (eKy fs hs) = none ∨ dget kvs (eKy fs hs) = some (v fs hs) := by
  obtain ⟨l, _, _, rfl⟩ := M.ok
  rw [dget_map]
  cases h : l.find? fun q => decide (eKy q.1 q.2 = eKy fs hs) with
  | none => exact .inl rfl
  | some q =>
    have := List.find?_some h
    obtain ⟨h1, h2⟩ := eKy_inj (of_decide_eq_true this)
    subst h1 h2
    exact .inr rfl
theorem Memo.put {pk : List Bd} {U : List Fd → List Bd → Prop} {v : List Fd → List Bd → D} {kvs : List (D × D)} (Un : Univ pk U) (M : Memo U v kvs) {fs : List Fd} {hs : List Bd} (hU : U fs hs) (hn : dget kvs (eKy fs hs) = none) : Memo U v (dput kvs (eKy fs hs) (v fs hs)) ∧ dget (dput kvs (eKy fs hs) (v fs hs)) (eKy fs hs) = some (v fs hs) := by
  obtain ⟨l, h1, h2, rfl⟩ := M.ok
  have hnl : (fs, hs) ∉ l := fun z => by
    rw [dget_map] at hn
    simp only [Option.map_eq_none_iff, List.find?_eq_none, decide_eq_true_eq] at hn
    exact hn _ z rfl
  have e : dput (l.map fun q => (eKy q.1 q.2, v q.1 q.2)) (eKy fs hs) (v fs hs) = (l ++ [(fs, hs)]).map fun q => (eKy q.1 q.2, v q.1 q.2) := by
    unfold dput
    rw [hn]
    simp
  rw [e]
  refine ⟨⟨l ++ [(fs, hs)], ?_, fun q hq => ?_, rfl⟩, ?_⟩
  · rw [List.nodup_append]
    exact ⟨h1, by simp, fun a ha b hb z => by rw [List.mem_singleton] at hb; subst hb; subst z; exact hnl ha⟩
  · rcases List.mem_append.mp hq with hq | hq
    · exact h2 q hq
    · rw [List.mem_singleton] at hq; subst hq; exact hU
  · rw [dget_map]
    rw [List.find?_append]
    have : (l.find? fun q => decide (eKy q.1 q.2 = eKy fs hs)) = none := by
      rw [dget_map] at hn
      simpa using hn
    rw [this]
    simp
theorem Memo.len {pk : List Bd} {U : List Fd → List Bd → Prop} {v : List Fd → List Bd → D} {kvs : List (D × D)} (Un : Univ pk U) (M : Memo U v kvs) : kvs.length < 10000000 := by
  obtain ⟨l, h1, h2, rfl⟩ := M.ok
  rw [List.length_map]
  exact Un.few l h1 h2
/-- what is asked of a def that keeps what it found -/
def spMemo (v : List Bd → List Fd → List Bd → D) (C : List Bd → Prop) (n : Nat) : DSp := fun args S Q _ => ∃ (U : List Fd → List Bd → Prop) (fs : List Fd) (hs pk : List Bd) (ph pp kn : Addr) (nh np nk : Nat) (kvs : List (D × D)),
  args = [.tup (fs.map eF), .loc ph, .loc pp, .loc kn] ∧ S ph = some (.dic nh (dT (hs.map eB))) ∧ S pp = some (.dic np (dT (pk.map eB))) ∧ S kn = some (.dic nk kvs) ∧ ph ≠ kn ∧ pp ≠ kn ∧ Univ pk U ∧ U fs hs ∧ C hs ∧ pk.Nodup ∧ pk.length ≤ 1000 ∧ Memo U (v pk) kvs ∧ hs.length < n ∧
    ∀ S' nk' kvs', ExtX kn S S' → S' kn = some (.dic nk' kvs') → Memo U (v pk) kvs' → Q (v pk fs hs) S'
theorem no_memo {v : List Bd → List Fd → List Bd → D} {C : List Bd → Prop} {args : List D} {S : Store} {Q : DQ} {E : DXK} (h : spMemo v C 0 args S Q E) : False := by
  obtain ⟨_, _, _, _, _, _, _, _, _, _, _, _, _, _, _, _, _, _, _, _, _, _, _, h, _⟩ := h
  omega
theorem len_memo {v : List Bd → List Fd → List Bd → D} {C : List Bd → Prop} {n : Nat} : Ln 4 (spMemo v C n) := fun args S Q E ⟨_, _, _, _, _, _, _, _, _, _, _, h, _⟩ => by rw [h]; rfl
/-- the pricks that hang -/
def cap (pk hs : List Bd) : List Bd := pk.filter fun b => decide (b ∈ hs)
theorem tears_cap {hs pk : List Bd} (hR : InR hs) : tearsOf hs (cap pk hs) = tearsOf hs pk := by
  have hx : ∀ t, t ∈ tearsOf hs (cap pk hs) ↔ t ∈ tearsOf hs pk := fun t => by
    rw [tears_mem hR, tears_mem hR]
    constructor
    · rintro ⟨b, hb, rfl, h⟩
      exact ⟨b, hb, rfl, fun x hx => (List.mem_filter.mp (h x hx)).1⟩
    · rintro ⟨b, hb, rfl, h⟩
      obtain ⟨k1, k2, T⟩ := tear_is (b := b) hR
      exact ⟨b, hb, rfl, fun x hx => List.mem_filter.mpr ⟨h x hx, decide_eq_true (T.sub hb hx)⟩⟩
  refine pw_uniq oinj_T (perm_of tears_nodup tears_nodup hx) (srt_pw _) (srt_pw _)
/-! ### rows_from -/
def vRows (pk : List Bd) (_ : List Fd) (hs : List Bd) : D := .tup [.int (LN pk hs : Nat), .int (cnt pk hs : Nat)]
def few18 (hs : List Bd) : Prop := hs.length ≤ 18
abbrev spR_rows_from : Nat → DSp := spMemo vRows few18
def sp_rows_from : DSp := spR_rows_from 40
def n_rows_from : List Str := ["fields", "hanging", "pricks", "known", "key", "tears", "ways", "tear", "many", "here", "piece", "rest", "more", "rows", "border"]
def l_rows_from_1 (spr : DSp) (W : DWX) : DTS := (dFor (dIter (dCall sp_behind W (dCons (dVar 0) (dCons (dVar 1) (dCons (dVar 7) dNil))))) (gT 2 (gsCons (gN 10) (gsCons (gN 11) gsNil))) (dSeq (dAsg (dCall spr W (dCons (dVar 10) (dCons (dVar 11) (dCons (dVar 2) (dCons (dVar 3) dNil))))) (gT 2 (gsCons (gN 12) (gsCons (gN 13) gsNil))))
  (dSeq (dAug 8 (dVar 12) (rI2 fun i j => .int (i + j)))
  (dAsg (dOp rMulI (dOp rMulI (dVar 9) (dVar 13)) (dCall sp_choices W (dCons (dVar 8) (dCons (dVar 12) dNil)))) (gN 9)))))
def l_rows_from_2 (spr : DSp) (W : DWX) : DTS := (dFor (dIter (dCall sp_tears_of W (dCons (dVar 1) (dCons (dDc (dIter (dVar 2)) (dcR1 (gN 14) (dB (dOp rInD (dVar 14) (dVar 1))) (dVar 14) (dC (.bl true)) [14])) dNil)))) (gN 7) (dSeq (dAsg (dTup (dCons (dC (.int 0)) (dCons (dC (.int 1)) dNil))) (gT 2 (gsCons (gN 8) (gsCons (gN 9) gsNil))))
  (dSeq (l_rows_from_1 spr W)
  (dSeq (dAsg (dOp rCatD (dVar 8) (dC (.int 1))) (gN 5))
  (dAug 6 (dVar 9) (rI2 fun i j => .int (i + j)))))))
def t_rows_from (spr : DSp) (W : DWX) : DTS := (dSeq (dAsg (dCall sp_key_of W (dCons (dVar 0) (dCons (dVar 1) dNil))) (gN 4))
  (dSeq (dIfS (dB (dOp rNinD (dVar 4) (dVar 3))) (dSeq (dAsg (dTup (dCons (dC (.int 0)) (dCons (dC (.int 0)) dNil))) (gT 2 (gsCons (gN 5) (gsCons (gN 6) gsNil))))
  (dSeq (l_rows_from_2 spr W)
  (dSetIx (dVar 3) (dVar 4) (dTup (dCons (dVar 5) (dCons (dCB rMax2D (dCons (dVar 6) (dCons (dC (.int 1)) dNil))) dNil)))))) dNext)
  (dRet (dOp rIxD (dVar 3) (dVar 4)))))
theorem no_rows_from {args : List D} {S : Store} {Q : DQ} {E : DXK} (h : spR_rows_from 0 args S Q E) : False := no_memo h
theorem len_rows_from {n : Nat} : Ln 4 (spR_rows_from n) := len_memo
abbrev σR (fs : List Fd) (ph pp kn : Addr) (hs : List Bd) (a b c d e f g h i : Option D) : DSt := [some (.tup (fs.map eF)), some (.loc ph), some (.loc pp), some (.loc kn), some (eKy fs hs), a, b, c, d, e, f, g, h, i, none]
/-- the pieces behind one tear -/
theorem rows_inner {W : DWX} {n : Nat} {U : List Fd → List Bd → Prop} {fs : List Fd} {hs pk t : List Bd} {ph pp kn p4 : Addr} {nh np : Nat} {l : List PQ} {tv wv : D} {S1 : Store} {f g h i : Option D}
    (Un : Univ pk U) (hU : U fs hs) (h18 : few18 hs) (hpn : pk.Nodup) (hpl : pk.length ≤ 1000) (hlen : hs.length < n + 1) (hph : ph ≠ kn) (hpp : pp ≠ kn) (ht : t ∈ tearsOf hs pk) (hl : l.map (·.1) = parts fs (less hs t))
    (h1 : S1 ph = some (.dic nh (dT (hs.map eB)))) (h2 : S1 pp = some (.dic np (dT (pk.map eB)))) (h4 : S1 p4 = some (.lst (l.map eQ))) (hp4 : p4 ≠ kn) (hq : ∀ q ∈ l, q.2.1 ≠ kn ∧ S1 q.2.1 = some (.dic q.2.2 (dT ((inn (less hs t) q.1).map eB))))
    {S : Store} (he : ExtX kn S1 S) {nk : Nat} {kvs : List (D × D)} (hk : S kn = some (.dic nk kvs)) (M : Memo U (vRows pk) kvs) {E : DEnds}
    (hE : ∀ f g h i S' nk' kvs', ExtX kn S1 S' → S' kn = some (.dic nk' kvs') → Memo U (vRows pk) kvs' → E.nx (σR fs ph pp kn hs (some tv) (some wv) (some (eT t)) (some (.int (LN pk (less hs t) : Nat))) (some (.int (cnt pk (less hs t) : Nat))) f g h i) S') :
    forL (gT 2 (gsCons (gN 10) (gsCons (gN 11) gsNil))) (dSeq (dAsg (dCall (spR_rows_from n) W (dCons (dVar 10) (dCons (dVar 11) (dCons (dVar 2) (dCons (dVar 3) dNil))))) (gT 2 (gsCons (gN 12) (gsCons (gN 13) gsNil))))
  (dSeq (dAug 8 (dVar 12) (rI2 fun i j => .int (i + j)))
  (dAsg (dOp rMulI (dOp rMulI (dVar 9) (dVar 13)) (dCall sp_choices W (dCons (dVar 8) (dCons (dVar 12) dNil)))) (gN 9)))) E (fun S => S p4 = some (.lst (l.map eQ))) (l.map eQ) (σR fs ph pp kn hs (some tv) (some wv) (some (eT t)) (some (.int 0)) (some (.int 1)) f g h i) S := by
  have P := Un.st fs hs hU
  have hR := P.inR
  have hlR : InR (less hs t) := hR.less
  have hlr : Ris eB (less hs t) := ris_less P.hris
  have hlin : InF fs (less hs t) := P.less
  have hll : (less hs t).length + 1 ≤ hs.length := (tear_len hR P.hris ht).1
  have h18 : hs.length ≤ 18 := h18
  refine forL_inv (fun rest σ S' => ∃ (done gs : List PQ) (f g h i : Option D) (nk : Nat) (kvs : List (D × D)), rest = gs.map eQ ∧ l = done ++ gs ∧ σ = σR fs ph pp kn hs (some tv) (some wv) (some (eT t)) (some (.int (LN pk (inn (less hs t) (done.map (·.1)).flatten) : Nat))) (some (.int (cnt pk (inn (less hs t) (done.map (·.1)).flatten) : Nat))) f g h i ∧ ExtX kn S1 S' ∧ S' kn = some (.dic nk kvs) ∧ Memo U (vRows pk) kvs)
    ?_ ?_ _ _ _ ⟨[], l, f, g, h, i, nk, kvs, rfl, rfl, ?_, he, hk, M⟩
  · rintro σ S' ⟨done, gs, f, g, h, i, nk, kvs, q1, q2, rfl, q3, q4, q5⟩
    have : gs = [] := by cases gs with | nil => rfl | cons _ _ => simp at q1
    subst this
    rw [List.append_nil] at q2
    subst q2
    refine ⟨q3 _ _ hp4 h4, ?_⟩
    rw [hl, inn_parts P.fris hlin]
    exact hE f g h i S' nk kvs q3 q4 q5
  · rintro x rest σ S' ⟨done, gs, f, g, h, i, nk, kvs, q1, q2, rfl, q3, q4, q5⟩
    refine ⟨q3 _ _ hp4 h4, fun N hN => ?_⟩
    cases gs with
    | nil => simp at q1
    | cons q gs =>
      simp only [List.map_cons, List.cons.injEq] at q1
      obtain ⟨rfl, rfl⟩ := q1
      have hqm : q ∈ l := by rw [q2]; simp
      have hpm : q.1 ∈ parts fs (less hs t) := by rw [← hl]; exact List.mem_map_of_mem hqm
      have hsplit : parts fs (less hs t) = done.map (·.1) ++ q.1 :: gs.map (·.1) := by rw [← hl, q2]; simp
      obtain ⟨hqk, hqs⟩ := hq q hqm
      have hUq := Un.cl fs hs t hU ht q.1 hpm
      have hil : (inn (less hs t) q.1).length ≤ (less hs t).length := List.length_filter_le _ _
      refine ⟨rfl, ?_⟩
      simp only [gsCons, gsNil, gN, dSeq, dAsg, dCall, dCons, dNil, List.set_cons_succ, List.set_cons_zero, dVar_succ, dVar_zero]
      refine ⟨U, q.1, inn (less hs t) q.1, pk, q.2.1, pp, kn, q.2.2, np, nk, kvs, rfl, q3 _ _ hqk hqs, q3 _ _ hpp h2, q4, hqk, hpp, Un, hUq, show _ ≤ 18 by omega, hpn, hpl, q5, by omega, fun S5 nk5 kvs5 e5 h5 M5 => ?_⟩
      obtain ⟨s1, s2⟩ := rows_snoc (pk := pk) hlR hlr P.fris hlin hsplit
      have L1 := LN_le (pk := pk) (hlR.sub (A := inn (less hs t) q.1) fun b hb => (mem_inn.mp hb).1) (inn_ris hlr)
      have L2 := LN_le (pk := pk) (hlR.sub (A := inn (less hs t) (done.map (·.1)).flatten) fun b hb => (mem_inn.mp hb).1) (inn_ris hlr)
      have hil2 : (inn (less hs t) (done.map (·.1)).flatten).length ≤ (less hs t).length := List.length_filter_le _ _
      have c1 := cnt_small (pk := pk) (hlR.sub (A := inn (less hs t) q.1) fun b hb => (mem_inn.mp hb).1) (inn_ris hlr) (by omega)
      have c2 := cnt_small (pk := pk) (hlR.sub (A := inn (less hs t) (done.map (·.1)).flatten) fun b hb => (mem_inn.mp hb).1) (inn_ris hlr) (by omega)
      refine ⟨rfl, ?_⟩
      have hb64 : ∀ n k : Nat, n ≤ 40 → bin n k < 2 ^ 64 := fun n k hn => by
        have : ∀ n k : Nat, bin n k ≤ 2 ^ n := fun n => by
          induction n with
          | zero => intro k; cases k <;> simp [bin]
          | succ n ih =>
            intro k
            cases k with
            | zero => rw [bin_zero]; exact Nat.one_le_two_pow
            | succ k =>
              rw [bin, Nat.pow_succ]
              have := ih k
              have := ih (k + 1)
              omega
        exact Nat.lt_of_le_of_lt (this n k) (Nat.pow_lt_pow_right (by omega) (by omega))
      generalize hA : LN pk (inn (less hs t) q.1) = a at s1 s2 L1
      generalize hB : LN pk (inn (less hs t) (done.map (·.1)).flatten) = b at s1 s2 L2
      generalize hC : cnt pk (inn (less hs t) q.1) = c at s2 c1
      generalize hD : cnt pk (inn (less hs t) (done.map (·.1)).flatten) = d at s2 c2
      simp only [gsCons, gsNil, gN, dAug, dOp, dCall, dCons, dNil, rI2, rMulI, List.getElem?_cons_succ, List.getElem?_cons_zero, List.set_cons_succ, List.set_cons_zero, dVar_succ, dVar_zero]
      refine ⟨.inl ⟨by omega, by omega⟩, ?_⟩
      refine ⟨_, ⟨b + a, a, by simp, by omega, by omega, rfl⟩, fun S6 e6 => ?_⟩
      have hbb := hb64 (b + a) a (by omega)
      simp only [rMulI]
      refine ⟨.inr ⟨by omega, by omega⟩, hN _ _ ⟨done ++ [q], gs, some (eL q.1), some (.loc q.2.1), some (.int (a : Nat)), some (.int (c : Nat)), nk5, kvs5, rfl, by rw [q2]; simp, ?_, (q3.trans e5).trans (ExtX.of e6), e6 _ _ h5, M5⟩⟩
      have hm1 : (done ++ [q]).map (·.1) = done.map (·.1) ++ [q.1] := by simp
      rw [hm1, s1, s2]
      have v1 : ((b : Int) + (a : Int)) = ((a + b : Nat) : Int) := by omega
      have v2 : ((d : Nat) : Int) * ((c : Nat) : Int) * ((bin (b + a) a : Nat) : Int) = ((bin (a + b) a * (c * d) : Nat) : Int) := by
        rw [← Int.natCast_mul, ← Int.natCast_mul]
        congr 1
        rw [Nat.add_comm b a, Nat.mul_comm d c, Nat.mul_comm]
      rw [v1, v2]
      rfl
  · rw [List.map_nil, List.flatten_nil, inn_nil, LN_empty, cnt_empty]
    rfl
theorem rd_rows_from {n : Nat} {args : List D} {S : Store} {Q : DQ} {Ed : DXK} (h : spR_rows_from (n + 1) args S Q Ed) : t_rows_from (spR_rows_from n) (fun cls od _ S' => Ed cls od S') { nx := fun _ S' => Q .non S', rt := Q } (dstart n_rows_from args) S := by
  obtain ⟨U, fs, hs, pk, ph, pp, kn, nh, np, nk, kvs, rfl, h1, h2, h3, hph, hpp, Un, hU, h18, hpn, hpl, M, hlen, hQ⟩ := h
  have P := Un.st fs hs hU
  have hR := P.inR
  have hfew := P.few
  have hhl := P.hlen
  simp only [t_rows_from, n_rows_from, dSeq, dAsg, dCall, dCons, dNil, dstart, List.map_cons, List.map_nil, List.length_cons, List.length_nil, List.cons_append, List.nil_append, List.replicate, dVar_succ, dVar_zero]
  refine ⟨_, ⟨fs, ph, nh, hs, rfl, h1, P.hris, rfl⟩, fun S1 e1 => ?_⟩
  simp only [gN, dSeq, dIfS, dB, dOp, List.set_cons_succ, List.set_cons_zero, dVar_succ, dVar_zero]
  have hk1 := e1 _ _ h3
  have hnin : ∀ Q : DQ, Q (.bl (!(dget kvs (eKy fs hs)).isSome)) S1 → rNinD (eKy fs hs) (.loc kn) S1 Q := fun Q q => by
    simp only [rNinD, inOk, inV, hk1]
    exact ⟨isK_Ky fs hs, q⟩
  refine hnin _ ?_
  rcases M.get fs hs with hg | hg
  · rw [hg]
    simp only [Option.isSome_none, Bool.not_false, dBool, if_true]
    simp only [dSeq, dAsg, dTup, dCons, dNil, dC, gT, gsCons, gsNil, gN, List.set_cons_succ, List.set_cons_zero]
    refine ⟨rfl, ?_⟩
    unfold l_rows_from_2
    simp only [dFor, dIter, dCall, dCons, dNil, dVar_succ, dVar_zero]
    refine dDc_flt (fun _ _ => eB_inj) (l := pk) (fun b => decide (b ∈ hs)) key_B hpn (by omega) (fun R hR' => ?_) (by simp) (fun b hb S' e K hK => ?_) (fun S2 pc nc e2 hpc => ?_)
    · have := e1 _ _ h2
      simp [this, dT_keys]
      exact hR' S1 _ (Ext.refl _) fun S' e => e _ _ this
    · have := (e1.trans e) _ _ h1
      simp [this, dget_dT, mem_eB]
      have := hK S' (Ext.refl _)
      by_cases hb : b ∈ hs
      · simp [hb] at this ⊢; exact this
      · simp [hb] at this ⊢; exact this
    have hcap : (pk.filter fun b => decide (b ∈ hs)) = cap pk hs := rfl
    rw [hcap]
    have e2' := e1.trans (e2.trans (Ext.new (o := .dic nc (dT ((cap pk hs).map eB))) hpc))
    have g2 : put S2 pc (.dic nc (dT ((cap pk hs).map eB))) pc = some (.dic nc (dT ((cap pk hs).map eB))) := put_same
    generalize put S2 pc (.dic nc (dT ((cap pk hs).map eB))) = S3 at e2' g2
    refine ⟨_, ⟨ph, nh, hs, pc, nc, cap pk hs, rfl, e2' _ _ h1, g2, hR, Nat.le_trans (List.length_filter_le _ _) hpl, rfl⟩, fun S4 p4 e4 hp4 h4 => ?_⟩
    rw [tears_cap hR] at h4
    simp only [h4]
    have e14 := e2'.trans e4
    have hp4k : p4 ≠ kn := fun z => by rw [z] at hp4; rw [e2' _ _ h3] at hp4; cases hp4
    refine forL_inv (fun rest σ S' => ∃ (done ts : List (List Bd)) (c d e f g h i : Option D) (tv : Nat) (nk : Nat) (kvs : List (D × D)), rest = ts.map eT ∧ tearsOf hs pk = done ++ ts ∧ (done = [] ∧ tv = 0 ∨ tv = LN pk hs) ∧ σ = σR fs ph pp kn hs (some (.int (tv : Nat))) (some (.int ((done.map fun t => cnt pk (less hs t)).sum : Nat))) c d e f g h i ∧ ExtX kn S4 S' ∧ S' kn = some (.dic nk kvs) ∧ Memo U (vRows pk) kvs)
      ?_ ?_ _ _ _ ⟨[], tearsOf hs pk, none, none, none, none, none, none, none, 0, nk, kvs, rfl, rfl, .inl ⟨rfl, rfl⟩, rfl, ExtX.of (Ext.refl _), e14 _ _ h3, M⟩
    · rintro σ S' ⟨done, ts, c, d, e, f, g, h, i, tv, nk', kvs', q1, q2, q3, rfl, q4, q5, q6⟩
      have : ts = [] := by cases ts with | nil => rfl | cons _ _ => simp at q1
      subst this
      rw [List.append_nil] at q2
      subst q2
      refine ⟨q4 _ _ hp4k h4, ?_⟩
      have hv : tv = LN pk hs := by
        rcases q3 with ⟨q3, rfl⟩ | q3
        · rw [LN_nil q3]
        · exact q3
      subst hv
      simp only [dSetIx, dTup, dCons, dNil, dCB, dC, dVar_succ, dVar_zero, rMax2D, rSetD, q5]
      refine ⟨isK_Ky fs hs, q6.len Un, fun n' => ?_⟩
      have hmx : max (((tearsOf hs pk).map fun t => cnt pk (less hs t)).sum : Int) 1 = ((cnt pk hs : Nat) : Int) := by
        rw [cnt_eq hR P.hris]
        omega
      have hmx' : max ((((tearsOf hs pk).map fun t => cnt pk (less hs t)).sum : Nat) : Int) 1 = ((cnt pk hs : Nat) : Int) := by
        rw [cnt_eq hR P.hris]
        omega
      rw [hmx']
      rcases q6.get fs hs with hg' | hg'
      · obtain ⟨m1, m2⟩ := q6.put Un hU hg'
        simp only [dRet, dOp, dVar_succ, dVar_zero, rIxD, put_same]
        refine ⟨isK_Ky fs hs, ?_⟩
        have m2' : dget (dput kvs' (eKy fs hs) (.tup [.int (LN pk hs : Nat), .int (cnt pk hs : Nat)])) (eKy fs hs) = some (vRows pk fs hs) := m2
        rw [m2']
        exact hQ _ n' _ (((ExtX.of e14).trans q4).trans ExtX.put) put_same m1
      · have he : dput kvs' (eKy fs hs) (.tup [.int (LN pk hs : Nat), .int (cnt pk hs : Nat)]) = kvs' := by
          unfold dput
          rw [hg']
          simp only [Option.isSome_some, if_true]
          obtain ⟨l, hl1, hl2, rfl⟩ := q6.ok
          rw [List.map_map]
          refine List.map_congr_left fun q hq => ?_
          show (if eKy q.1 q.2 = eKy fs hs then _ else _) = _
          split
          · rename_i he
            obtain ⟨h1, h2⟩ := eKy_inj he
            show (eKy q.1 q.2, vRows pk fs hs) = (eKy q.1 q.2, vRows pk q.1 q.2)
            rw [h1, h2]
          · rfl
        rw [he]
        simp only [dRet, dOp, dVar_succ, dVar_zero, rIxD, put_same]
        refine ⟨isK_Ky fs hs, ?_⟩
        rw [hg']
        exact hQ _ n' _ (((ExtX.of e14).trans q4).trans ExtX.put) put_same q6
    · rintro x rest σ S' ⟨done, ts, c, d, e, f, g, h, i, tv, nk', kvs', q1, q2, q3, rfl, q4, q5, q6⟩
      refine ⟨q4 _ _ hp4k h4, fun N hN => ?_⟩
      cases ts with
      | nil => simp at q1
      | cons t ts =>
        simp only [List.map_cons, List.cons.injEq] at q1
        obtain ⟨rfl, rfl⟩ := q1
        have ht : t ∈ tearsOf hs pk := by rw [q2]; simp
        simp only [gN, gT, gsCons, gsNil, dSeq, dAsg, dTup, dCons, dNil, dC, List.set_cons_succ, List.set_cons_zero]
        refine ⟨rfl, ?_⟩
        unfold l_rows_from_1
        simp only [dFor, dIter, dCall, dCons, dNil, dVar_succ, dVar_zero]
        have hph' : S' ph = some (.dic nh (dT (hs.map eB))) := q4 _ _ hph (e14 _ _ h1)
        refine ⟨fs, hs, t, ph, nh, rfl, hph', P.fris, by omega, P.hris.nodup, by omega, P.inn, fun S5 p5 l e5 hp5 hl h5 hq => ?_⟩
        simp only [h5]
        have hp5k : p5 ≠ kn := fun z => by rw [z, q5] at hp5; cases hp5
        refine rows_inner (S1 := S5) Un hU h18 hpn hpl hlen hph hpp ht hl (e5 _ _ hph') (e5 _ _ (q4 _ _ hpp (e14 _ _ h2))) h5 hp5k (fun q hq' => ⟨fun z => (by have h := (hq q hq').1; rw [z, q5] at h; cases h), (hq q hq').2⟩) (ExtX.of (Ext.refl _)) (e5 _ _ q5) q6 fun f g h i S6 nk6 kvs6 e6 h6 M6 => ?_
        obtain ⟨l1, _⟩ := LN_step hR P.hris ht
        simp only [dAug, dOp, dC, rCatD, rI2, gN, List.getElem?_cons_succ, List.getElem?_cons_zero, List.set_cons_succ, List.set_cons_zero, dVar_succ, dVar_zero]
        refine hN _ _ ⟨done ++ [t], ts, some (eT t), some (.int (LN pk (less hs t) : Nat)), some (.int (cnt pk (less hs t) : Nat)), f, g, h, i, LN pk hs, nk6, kvs6, rfl, by rw [q2]; simp, .inr rfl, ?_, (q4.trans (ExtX.of e5)).trans e6, h6, M6⟩
        rw [List.map_append, List.sum_append, l1]
        simp
  · rw [hg]
    simp only [Option.isSome_some, Bool.not_true, dBool, Bool.false_eq_true, if_false, dNext]
    simp only [dRet, dOp, dVar_succ, dVar_zero, rIxD, hk1, hg]
    exact ⟨isK_Ky fs hs, hQ S1 nk kvs (ExtX.of e1) hk1 M⟩
end DL

namespace DL
open PySem PySem.Spec PyProof.Rows L2

/-! ### how many states a sheet has -/
def subs {α : Type} : List α → List (List α)
  | [] => [[]]
  | a :: l => subs l ++ (subs l).map (a :: ·)
theorem subs_len {α : Type} : ∀ l : List α, (subs l).length = 2 ^ l.length
  | [] => rfl
  | a :: l => by rw [subs, List.length_append, List.length_map, subs_len l, List.length_cons, Nat.pow_succ]; omega
theorem mem_subs {α : Type} {s l : List α} (h : s.Sublist l) : s ∈ subs l := by
  induction h with
  | slnil => simp [subs]
  | cons a _ ih => rw [subs]; exact List.mem_append_left _ ih
  | cons_cons a _ ih => rw [subs]; exact List.mem_append_right _ (List.mem_map_of_mem ih)
theorem reach_in {fs : List Fd} {hs : List Bd} (hin : InF fs hs) {f g : Fd} (hf : f ∈ fs) (h : Reach hs f g) : g ∈ fs := by
  induction h with
  | refl => exact hf
  | step _ a _ =>
    obtain ⟨b, hb, h | h⟩ := a
    · exact h.2 ▸ (hin b hb).2
    · exact h.1 ▸ (hin b hb).1
theorem pc_lot {fs fs' : List Fd} {hs : List Bd} (hr : Ris eF fs) (P : PcSt fs' hs) (hs' : ∀ f ∈ fs', f ∈ fs) {f : Fd} (hf : f ∈ fs') : fs' = lotOf fs hs f := by
  refine Ris.uniq oinj_F P.fris (lot_ris hr f) fun g => ?_
  rw [mem_lotOf]
  exact ⟨fun hg => ⟨hs' g hg, P.con f hf g hg⟩, fun ⟨_, h⟩ => reach_in P.inn hf h⟩
def UAll (fs : List Fd) (hs0 : List Bd) (fs' : List Fd) (hs : List Bd) : Prop := PcSt fs' hs ∧ hs.Sublist hs0 ∧ ∀ f ∈ fs', f ∈ fs
theorem few_all {fs : List Fd} {hs0 : List Bd} (hr : Ris eF fs) (hf : fs.length ≤ 16) (hh : hs0.length ≤ 18) : ∀ l : List (List Fd × List Bd), l.Nodup → (∀ q ∈ l, UAll fs hs0 q.1 q.2) → l.length < 10000000 := fun l hn hl => by
  have hm : ∀ q ∈ l, q ∈ (subs hs0).flatMap fun h => fs.map fun f => (lotOf fs h f, h) := fun q hq => by
    obtain ⟨P, h1, h2⟩ := hl q hq
    obtain ⟨f, r, e⟩ : ∃ f r, q.1 = f :: r := by cases h : q.1 with | nil => exact (P.ne h).elim | cons f r => exact ⟨f, r, rfl⟩
    have hf : f ∈ q.1 := by rw [e]; simp
    refine List.mem_flatMap.mpr ⟨q.2, mem_subs h1, List.mem_map.mpr ⟨f, h2 f hf, ?_⟩⟩
    rw [← pc_lot hr P h2 hf]
  have h1 := len_le_of_nodup hn hm
  have h2 : ((subs hs0).flatMap fun h => fs.map fun f => (lotOf fs h f, h)).length = 2 ^ hs0.length * fs.length := by
    rw [List.length_flatMap]
    have : (subs hs0).map (fun h => (fs.map fun f => (lotOf fs h f, h)).length) = List.replicate (subs hs0).length fs.length := by
      rw [List.eq_replicate_iff]
      exact ⟨by simp, fun b hb => by obtain ⟨h, _, rfl⟩ := List.mem_map.mp hb; simp⟩
    rw [this, List.sum_replicate_nat, subs_len]
  rw [h2] at h1
  have h3 : 2 ^ hs0.length ≤ 2 ^ 18 := Nat.pow_le_pow_right (by omega) hh
  have h4 : 2 ^ hs0.length * fs.length ≤ 2 ^ 18 * 16 := Nat.mul_le_mul h3 hf
  omega
theorem univ_all {fs : List Fd} {hs0 pk : List Bd} (hr : Ris eF fs) (hf : fs.length ≤ 16) (hh : hs0.length ≤ 18) : Univ pk (UAll fs hs0) where
  st := fun _ _ h => h.1
  cl := fun fs' hs t ⟨P, h1, h2⟩ ht p hp => by
    refine ⟨P.behind hp, (inn_sub.trans List.filter_sublist).trans h1, fun f hf => h2 f ?_⟩
    obtain ⟨g, _, rfl⟩ := (parts_mem P.fris).mp hp
    exact (mem_lotOf.mp hf).1
  few := few_all hr hf hh
theorem valid_conn {fs : List Fd} {ps : List Bd} (V : Valid fs ps) : ∀ f ∈ fs, ∀ g ∈ fs, Reach (bordersOf fs) f g := fun f hf g hg => by
  have h1 := (parts_mem (hs := bordersOf fs) V.fris).mpr ⟨f, hf, rfl⟩
  have h2 := (parts_mem (hs := bordersOf fs) V.fris).mpr ⟨g, hg, rfl⟩
  have h3 := V.one
  obtain ⟨l, hl⟩ := List.length_eq_one_iff.mp h3
  rw [hl, List.mem_singleton] at h1 h2
  have h4 : g ∈ lotOf fs (bordersOf fs) f := by rw [h1, ← h2]; exact mem_lotOf.mpr ⟨hg, .refl⟩
  exact (mem_lotOf.mp h4).2
theorem hang_nil (fs : List Fd) : hang fs [] = bordersOf fs := by unfold hang; rw [List.filter_eq_self]; simp
theorem valid_pc {fs : List Fd} {ps : List Bd} (V : Valid fs ps) : PcSt fs (hang fs []) where
  ne := fun z => by have := V.pos; rw [z] at this; simp at this
  few := V.few
  fris := V.fris
  fin := V.fin
  hris := hang_ris V.fris.nodup
  inn := fun b hb => mem_bordersOf.mp (mem_hang.mp hb).1
  con := by rw [hang_nil]; exact valid_conn V
/-! ### rows, winner -/
def sp_rows : DSp := spV fun args _ v => ∃ fs ps, args = [eS fs ps] ∧ Valid fs ps ∧ fs.length ≤ 9 ∧ v = .int (cnt ps (hang fs []) : Nat)
def n_rows : List Str := ["sheet"]
def t_rows (W : DWX) : DTS := (dSeq (dDrop (dCall sp_look W (dCons (dVar 0) dNil)))
  (dRet (dOp rIxD (dCall sp_rows_from W (dCons (dOp rIxD (dVar 0) (dC (.int 0))) (dCons (dCall sp_hanging_of W (dCons (dVar 0) (dCons (dTup dNil) dNil))) (dCons (dCall sp_pricks_of W (dCons (dVar 0) dNil)) (dCons dDict0 dNil))))) (dC (.int 1)))))
theorem len_rows : Ln 1 sp_rows := fun _ _ _ _ ⟨_, ⟨_, _, h, _⟩, _⟩ => by rw [h]; rfl
theorem rd_rows : Rd n_rows t_rows sp_rows := fun {args S Q Ed} h => by
  obtain ⟨v, ⟨fs, ps, rfl, V, h9, rfl⟩, hQ⟩ := h
  have hpl := V.plen
  have hhl := hang_len fs []
  simp only [t_rows, n_rows, dSeq, dDrop, dRet, dOp, dC, dCall, dCons, dNil, dTup, dstart, List.map_cons, List.map_nil, List.length_cons, List.length_nil, List.cons_append, List.nil_append, List.replicate, dVar_succ, dVar_zero]
  refine ⟨_, ⟨fs, ps, rfl, V, rfl⟩, fun S1 e1 => ?_⟩
  show rIxD (eS fs ps) (.int 0) S1 _
  have hix0 : ∀ S Q, Q (.tup (fs.map eF)) S → rIxD (eS fs ps) (.int 0) S Q := fun S Q q => by simp [rIxD, eS, at0]; exact q
  refine hix0 _ _ ?_
  refine ⟨_, ⟨fs, ps, [], rfl, V.fris.nodup, by omega, by simp, by simp, rfl⟩, fun S2 ph nh e2 hph h2 => ?_⟩
  refine ⟨_, ⟨fs, ps, rfl, V.pris.nodup, by omega, rfl⟩, fun S3 pp np e3 hpp h3 => ?_⟩
  intro kn nk hkn
  have e4 := Ext.new (o := .dic nk []) hkn
  refine ⟨UAll fs (hang fs []), fs, hang fs [], ps, ph, pp, kn, nh, np, nk, [], rfl, e4 _ _ (e3 _ _ h2), e4 _ _ h3, put_same, ?_, ?_, univ_all V.fris (by omega) (by omega), ⟨valid_pc V, List.Sublist.refl _, fun f hf => hf⟩, show _ ≤ 18 by omega, V.pris.nodup, by omega, memo_nil _ _, by omega, fun S5 nk5 kvs5 e5 h5 M5 => ?_⟩
  · intro z; rw [← z, e3 _ _ h2] at hkn; cases hkn
  · intro z; rw [← z, h3] at hkn; cases hkn
  have hx : Ext S S5 := fun b o hb => e5 b o (fun z => by rw [z] at hb; have := (e1.trans (e2.trans e3)) _ _ hb; rw [hkn] at this; cases this) (e4 _ _ ((e1.trans (e2.trans e3)) _ _ hb))
  simp [rIxD, vRows, at1]
  exact hQ S5 hx
theorem eqI {i j : Int} {S : Store} {Q : DQ} (q : Q (.bl (decide (i = j))) S) : rEqD (.int i) (.int j) S Q := by
  refine ⟨rfl, ?_⟩
  show Q (.bl (decide (D.int i = D.int j))) S
  have e : decide (D.int i = D.int j) = decide (i = j) := by rw [Bool.eq_iff_iff]; simp
  rw [e]; exact q
def winN (n : Int) : Int := if n % 2 = 1 then 0 else 1
def sp_winner : DSp := spV fun args _ v => ∃ fs ps, args = [eS fs ps] ∧ Valid fs ps ∧ v = .int (winN (LN ps (hang fs []) : Nat))
def n_winner : List Str := ["sheet"]
def t_winner (W : DWX) : DTS := (dSeq (dDrop (dCall sp_look W (dCons (dVar 0) dNil)))
  (dRet (dIf (dB (dOp rEqD (dOp rModI (dCall sp_left_of W (dCons (dVar 0) (dCons (dTup dNil) dNil))) (dC (.int 2))) (dC (.int 1)))) (dC (.int 0)) (dC (.int 1)))))
theorem len_winner : Ln 1 sp_winner := fun _ _ _ _ ⟨_, ⟨_, _, h, _⟩, _⟩ => by rw [h]; rfl
theorem rd_winner : Rd n_winner t_winner sp_winner := fun {args S Q Ed} h => by
  obtain ⟨v, ⟨fs, ps, rfl, V, rfl⟩, hQ⟩ := h
  simp only [t_winner, n_winner, dSeq, dDrop, dRet, dOp, dC, dB, dIf, dCall, dCons, dNil, dTup, dstart, List.map_cons, List.map_nil, List.length_cons, List.length_nil, List.cons_append, List.nil_append, List.replicate, dVar_succ, dVar_zero]
  refine ⟨_, ⟨fs, ps, rfl, V, rfl⟩, fun S1 e1 => ?_⟩
  refine ⟨_, ⟨fs, ps, [], rfl, V, torn_nil ps, rfl⟩, fun S2 e2 => ?_⟩
  rw [left_row V]
  have hq := hQ S2 (e1.trans e2)
  unfold LN winN at hq
  refine ⟨by decide, eqI ?_⟩
  by_cases hh : ((rowOf ps (hang fs [])).length : Int) % 2 = 1
  · rw [if_pos hh] at hq
    rw [decide_eq_true hh]
    exact hq
  · rw [if_neg hh] at hq
    rw [decide_eq_false hh]
    exact hq
/-! ### the law's rows, from torn borders to torn borders -/
theorem torn_sub {ps tn : List Bd} (hp : Ris eB ps) (T : TornOk ps tn) : tn ∈ subs ps := by
  have : tn = ps.filter fun b => decide (b ∈ tn) := Ris.uniq oinj_B T.ris (hp.filter _) fun b => by
    simp only [List.mem_filter, decide_eq_true_eq]
    exact ⟨fun h => ⟨T.sub b h, h⟩, fun h => h.2⟩
  rw [this]
  exact mem_subs List.filter_sublist
structure MemoT (ps : List Bd) (v : List Bd → D) (kvs : List (D × D)) : Prop where
  ok : ∃ l : List (List Bd), l.Nodup ∧ (∀ q ∈ l, TornOk ps q) ∧ kvs = l.map fun q => (eT q, v q)
theorem memoT_nil (ps : List Bd) (v : List Bd → D) : MemoT ps v [] := ⟨[], by simp, by simp, rfl⟩
theorem MemoT.get {ps : List Bd} {v : List Bd → D} {kvs : List (D × D)} (M : MemoT ps v kvs) (tn : List Bd) : dget kvs (eT tn) = none ∨ dget kvs (eT tn) = some (v tn) := by
  obtain ⟨l, _, _, rfl⟩ := M.ok
  rw [dget_map]
  cases h : l.find? fun q => decide (eT q = eT tn) with
  | none => exact .inl rfl
  | some q =>
    have := List.find?_some h
    have h1 := eT_inj (of_decide_eq_true this)
    subst h1
    exact .inr rfl
/-- what stands there behind a store, whether it was there or not -/
theorem MemoT.put {ps : List Bd} {v : List Bd → D} {kvs : List (D × D)} (M : MemoT ps v kvs) {tn : List Bd} (T : TornOk ps tn) : MemoT ps v (dput kvs (eT tn) (v tn)) ∧ dget (dput kvs (eT tn) (v tn)) (eT tn) = some (v tn) := by
  rcases M.get tn with hn | hg
  · obtain ⟨l, h1, h2, rfl⟩ := M.ok
    have hnl : tn ∉ l := fun z => by
      rw [dget_map] at hn
      simp only [Option.map_eq_none_iff, List.find?_eq_none, decide_eq_true_eq] at hn
      exact hn _ z rfl
    have e : dput (l.map fun q => (eT q, v q)) (eT tn) (v tn) = (l ++ [tn]).map fun q => (eT q, v q) := by
      unfold dput
      rw [hn]
      simp
    rw [e]
    refine ⟨⟨l ++ [tn], ?_, fun q hq => ?_, rfl⟩, ?_⟩
    · rw [List.nodup_append]
      exact ⟨h1, by simp, fun a ha b hb z => by rw [List.mem_singleton] at hb; subst hb; subst z; exact hnl ha⟩
    · rcases List.mem_append.mp hq with hq | hq
      · exact h2 q hq
      · rw [List.mem_singleton] at hq; subst hq; exact T
    · rw [dget_map, List.find?_append]
      have : (l.find? fun q => decide (eT q = eT tn)) = none := by
        rw [dget_map] at hn
        simpa using hn
      rw [this]
      simp
  · have he : dput kvs (eT tn) (v tn) = kvs := by
      unfold dput
      rw [hg]
      simp only [Option.isSome_some, if_true]
      obtain ⟨l, hl1, hl2, rfl⟩ := M.ok
      rw [List.map_map]
      refine List.map_congr_left fun q hq => ?_
      show (if eT q = eT tn then _ else _) = _
      split
      · rename_i he
        have h1 := eT_inj he
        show (eT q, v tn) = (eT q, v q)
        rw [h1]
      · rfl
    rw [he]
    exact ⟨M, hg⟩
theorem MemoT.len {ps : List Bd} {v : List Bd → D} {kvs : List (D × D)} (hp : Ris eB ps) (hl : ps.length ≤ 20) (M : MemoT ps v kvs) : kvs.length < 10000000 := by
  obtain ⟨l, h1, h2, rfl⟩ := M.ok
  rw [List.length_map]
  have h3 := len_le_of_nodup h1 (m := subs ps) fun q hq => torn_sub hp (h2 q hq)
  rw [subs_len] at h3
  have h4 : 2 ^ ps.length ≤ 2 ^ 20 := Nat.pow_le_pow_right (by omega) hl
  omega
theorem isK_T (t : List Bd) : ((eT t).isK && decide ((eT t).dep ≤ 8) && (eT t).isTup) = true := by
  have h2 := deps_Bs t
  have h3 : (eT t).isK = true := isKs_Bs t
  have h4 : (eT t).dep ≤ 8 := by
    simp only [eT, D.dep]
    omega
  rw [h3, decide_eq_true h4]
  rfl
def spMemoT (v : List Fd → List Bd → List Bd → D) (n : Nat) : DSp := fun args S Q _ => ∃ (fs : List Fd) (ps tn : List Bd) (kn : Addr) (nk : Nat) (kvs : List (D × D)),
  args = [eS fs ps, eT tn, .loc kn] ∧ S kn = some (.dic nk kvs) ∧ Valid fs ps ∧ ps.length ≤ 20 ∧ TornOk ps tn ∧ MemoT ps (v fs ps) kvs ∧ (hang fs tn).length < n ∧
    ∀ S' nk' kvs', ExtX kn S S' → S' kn = some (.dic nk' kvs') → MemoT ps (v fs ps) kvs' → Q (v fs ps tn) S'
theorem no_memoT {v : List Fd → List Bd → List Bd → D} {args : List D} {S : Store} {Q : DQ} {E : DXK} (h : spMemoT v 0 args S Q E) : False := by
  obtain ⟨_, _, _, _, _, _, _, _, _, _, _, _, h, _⟩ := h
  omega
theorem len_memoT {v : List Fd → List Bd → List Bd → D} {n : Nat} : Ln 3 (spMemoT v n) := fun args S Q E ⟨_, _, _, _, _, _, h, _⟩ => by rw [h]; rfl
/-- the next torn borders, as told -/
theorem next_torn {fs : List Fd} {ps tn t : List Bd} (V : Valid fs ps) (T : TornOk ps tn) (ht : t ∈ tearsOf (hang fs tn) ps) {S : Store} {Q : DQ} (q : ∀ (p : Addr) (S' : Store), Ext S S' → TornOk ps (tear1 tn t) → Q (eT (tear1 tn t)) S') :
    rCatD (eT tn) (eT t) S fun d S1 => rSortD [d] S1 fun d S2 => rTupD [d] S2 Q := by
  have T' := (torn_step V T ht).1
  have htl := T'.len V
  rw [tear1, srt_len, List.length_append] at htl
  simp only [eT, rCatD]
  refine ⟨by simp; omega, ?_⟩
  rw [← List.map_append]
  simp only [rSortD]
  refine ⟨sort_B _, fun p hp => ?_⟩
  rw [dsort_map]
  simp only [rTupD, put_same]
  exact q p _ (Ext.new hp) T'
def vLR (fs : List Fd) (ps tn : List Bd) : D := .int (cnt ps (hang fs tn) : Nat)
abbrev spR__law_rows : Nat → DSp := spMemoT vLR
def sp__law_rows : DSp := spR__law_rows 40
def n__law_rows : List Str := ["sheet", "torn", "known", "total", "tear"]
def l__law_rows_1 (spr : DSp) (W : DWX) : DTS := (dFor (dIter (dCall sp__law_tears W (dCons (dVar 0) (dCons (dVar 1) dNil)))) (gN 4) (dAsg (dOp rCatD (dVar 3) (dCall spr W (dCons (dVar 0) (dCons (dCB rTupD (dCons (dCB rSortD (dCons (dOp rCatD (dVar 1) (dVar 4)) dNil)) dNil)) (dCons (dVar 2) dNil))))) (gN 3)))
def t__law_rows (spr : DSp) (W : DWX) : DTS := (dSeq (dIfS (dB (dOp rNinD (dVar 1) (dVar 2))) (dSeq (dAsg (dC (.int 0)) (gN 3))
  (dSeq (l__law_rows_1 spr W)
  (dSetIx (dVar 2) (dVar 1) (dCB rMax2D (dCons (dVar 3) (dCons (dC (.int 1)) dNil)))))) dNext)
  (dRet (dOp rIxD (dVar 2) (dVar 1))))
theorem no__law_rows {args : List D} {S : Store} {Q : DQ} {E : DXK} (h : spR__law_rows 0 args S Q E) : False := no_memoT h
theorem len__law_rows {n : Nat} : Ln 3 (spR__law_rows n) := len_memoT
theorem rd__law_rows {n : Nat} {args : List D} {S : Store} {Q : DQ} {Ed : DXK} (h : spR__law_rows (n + 1) args S Q Ed) : t__law_rows (spR__law_rows n) (fun cls od _ S' => Ed cls od S') { nx := fun _ S' => Q .non S', rt := Q } (dstart n__law_rows args) S := by
  obtain ⟨fs, ps, tn, kn, nk, kvs, rfl, h3, V, hps, T, M, hlen, hQ⟩ := h
  have hR := V.inR tn
  have hr : Ris eB (hang fs tn) := hang_ris V.fris.nodup
  simp only [t__law_rows, n__law_rows, dSeq, dIfS, dB, dOp, dstart, List.map_cons, List.map_nil, List.length_cons, List.length_nil, List.cons_append, List.nil_append, List.replicate, dVar_succ, dVar_zero]
  have hnin : ∀ Q : DQ, Q (.bl (!(dget kvs (eT tn)).isSome)) S → rNinD (eT tn) (.loc kn) S Q := fun Q q => by
    simp only [rNinD, inOk, inV, h3]
    exact ⟨isK_T tn, q⟩
  refine hnin _ ?_
  rcases M.get tn with hg | hg
  · rw [hg]
    simp only [Option.isSome_none, Bool.not_false, dBool, if_true]
    simp only [dSeq, dAsg, dC, gN, List.set_cons_succ, List.set_cons_zero]
    unfold l__law_rows_1
    simp only [dFor, dIter, dCall, dCons, dNil, dVar_succ, dVar_zero]
    refine ⟨_, ⟨fs, ps, tn, rfl, V, rfl⟩, fun S4 p4 e4 hp4 h4 => ?_⟩
    simp only [h4]
    have hp4k : p4 ≠ kn := fun z => by rw [z, h3] at hp4; cases hp4
    refine forL_inv (fun rest σ S' => ∃ (done ts : List (List Bd)) (o : Option D) (nk : Nat) (kvs : List (D × D)), rest = ts.map eT ∧ tearsOf (hang fs tn) ps = done ++ ts ∧ σ = [some (eS fs ps), some (eT tn), some (.loc kn), some (.int ((done.map fun t => cnt ps (less (hang fs tn) t)).sum : Nat)), o] ∧ ExtX kn S4 S' ∧ S' kn = some (.dic nk kvs) ∧ MemoT ps (vLR fs ps) kvs)
      ?_ ?_ _ _ _ ⟨[], tearsOf (hang fs tn) ps, none, nk, kvs, rfl, rfl, rfl, ExtX.of (Ext.refl _), e4 _ _ h3, M⟩
    · rintro σ S' ⟨done, ts, o, nk', kvs', q1, q2, rfl, q4, q5, q6⟩
      have : ts = [] := by cases ts with | nil => rfl | cons _ _ => simp at q1
      subst this
      rw [List.append_nil] at q2
      subst q2
      refine ⟨q4 _ _ hp4k h4, ?_⟩
      simp only [dSetIx, dCons, dNil, dCB, dC, dVar_succ, dVar_zero, rMax2D, rSetD, q5]
      refine ⟨isK_T tn, q6.len V.pris hps, fun n' => ?_⟩
      have hmx' : max ((((tearsOf (hang fs tn) ps).map fun t => cnt ps (less (hang fs tn) t)).sum : Nat) : Int) 1 = ((cnt ps (hang fs tn) : Nat) : Int) := by
        rw [cnt_eq hR hr]
        omega
      rw [hmx']
      obtain ⟨m1, m2⟩ := q6.put T
      simp only [dRet, dOp, dVar_succ, dVar_zero, rIxD, put_same]
      refine ⟨isK_T tn, ?_⟩
      have m2' : dget (dput kvs' (eT tn) (.int (cnt ps (hang fs tn) : Nat))) (eT tn) = some (vLR fs ps tn) := m2
      rw [m2']
      exact hQ _ n' _ (((ExtX.of e4).trans q4).trans ExtX.put) put_same m1
    · rintro x rest σ S' ⟨done, ts, o, nk', kvs', q1, q2, rfl, q4, q5, q6⟩
      refine ⟨q4 _ _ hp4k h4, fun N hN => ?_⟩
      cases ts with
      | nil => simp at q1
      | cons t ts =>
        simp only [List.map_cons, List.cons.injEq] at q1
        obtain ⟨rfl, rfl⟩ := q1
        have ht : t ∈ tearsOf (hang fs tn) ps := by rw [q2]; simp
        simp only [gN, dAsg, dOp, dCall, dCB, dCons, dNil, List.set_cons_succ, List.set_cons_zero, dVar_succ, dVar_zero]
        refine next_torn V T ht fun p S5 e5 T5 => ?_
        have hh := (torn_step V T ht).2
        have hl := (tear_len hR hr ht).1
        refine ⟨fs, ps, tear1 tn t, kn, nk', kvs', rfl, e5 _ _ q5, V, hps, T5, q6, by rw [hh]; omega, fun S6 nk6 kvs6 e6 h6 M6 => ?_⟩
        simp only [vLR, rCatD]
        refine hN _ _ ⟨done ++ [t], ts, some (eT t), nk6, kvs6, rfl, by rw [q2]; simp, ?_, (q4.trans (ExtX.of e5)).trans e6, h6, M6⟩
        rw [List.map_append, List.sum_append, hh]
        simp
  · rw [hg]
    simp only [Option.isSome_some, Bool.not_true, dBool, Bool.false_eq_true, if_false, dNext]
    simp only [dRet, dOp, dVar_succ, dVar_zero, rIxD, h3, hg]
    exact ⟨isK_T tn, hQ S nk kvs (ExtX.of (Ext.refl _)) h3 M⟩
/-! ### who wins -/
def vLW (fs : List Fd) (ps tn : List Bd) : D := .bl (decide (LN ps (hang fs tn) % 2 = 1))
abbrev spR__law_wins : Nat → DSp := spMemoT vLW
def sp__law_wins : DSp := spR__law_wins 40
def n__law_wins : List Str := ["sheet", "torn", "known", "there", "tear"]
def t__law_wins (spr : DSp) (W : DWX) : DTS := (dSeq (dIfS (dB (dOp rNinD (dVar 1) (dVar 2))) (dSeq (dAsg (dLc (dIter (dCall sp__law_tears W (dCons (dVar 0) (dCons (dVar 1) dNil)))) (gN 4) dYes (dCall spr W0 (dCons (dVar 0) (dCons (dCB rTupD (dCons (dCB rSortD (dCons (dOp rCatD (dVar 1) (dVar 4)) dNil)) dNil)) (dCons (dVar 2) dNil)))) [4]) (gN 3))
  (dSetIx (dVar 2) (dVar 1) (dOp rInB (dC (.bl false)) (dVar 3)))) dNext)
  (dRet (dOp rIxD (dVar 2) (dVar 1))))
theorem no__law_wins {args : List D} {S : Store} {Q : DQ} {E : DXK} (h : spR__law_wins 0 args S Q E) : False := no_memoT h
theorem len__law_wins {n : Nat} : Ln 3 (spR__law_wins n) := len_memoT
theorem wins_in {fs : List Fd} {ps tn : List Bd} (V : Valid fs ps) : decide (D.bl false ∈ (tearsOf (hang fs tn) ps).map fun t => D.bl (decide (LN ps (less (hang fs tn) t) % 2 = 1))) = decide (LN ps (hang fs tn) % 2 = 1) := by
  have hR := V.inR tn
  have hr : Ris eB (hang fs tn) := hang_ris V.fris.nodup
  rw [Bool.eq_iff_iff]
  simp only [decide_eq_true_eq, List.mem_map]
  constructor
  · rintro ⟨t, ht, e⟩
    injection e with e
    have := (LN_step hR hr ht).1
    have h2 := of_decide_eq_false e
    omega
  · intro h
    cases hts : tearsOf (hang fs tn) ps with
    | nil => rw [LN_nil hts] at h; simp at h
    | cons t ts =>
      refine ⟨t, by simp, ?_⟩
      have := (LN_step hR hr (t := t) (pk := ps) (by rw [hts]; simp)).1
      rw [decide_eq_false (by omega)]
theorem rd__law_wins {n : Nat} {args : List D} {S : Store} {Q : DQ} {Ed : DXK} (h : spR__law_wins (n + 1) args S Q Ed) : t__law_wins (spR__law_wins n) (fun cls od _ S' => Ed cls od S') { nx := fun _ S' => Q .non S', rt := Q } (dstart n__law_wins args) S := by
  obtain ⟨fs, ps, tn, kn, nk, kvs, rfl, h3, V, hps, T, M, hlen, hQ⟩ := h
  have hR := V.inR tn
  have hr : Ris eB (hang fs tn) := hang_ris V.fris.nodup
  simp only [t__law_wins, n__law_wins, dSeq, dIfS, dB, dOp, dstart, List.map_cons, List.map_nil, List.length_cons, List.length_nil, List.cons_append, List.nil_append, List.replicate, dVar_succ, dVar_zero]
  have hnin : ∀ Q : DQ, Q (.bl (!(dget kvs (eT tn)).isSome)) S → rNinD (eT tn) (.loc kn) S Q := fun Q q => by
    simp only [rNinD, inOk, inV, h3]
    exact ⟨isK_T tn, q⟩
  refine hnin _ ?_
  rcases M.get tn with hg | hg
  · rw [hg]
    simp only [Option.isSome_none, Bool.not_false, dBool, if_true]
    simp only [dSeq, dAsg, dLc, dIter, dCall, dCons, dNil, dVar_succ, dVar_zero]
    refine ⟨_, ⟨fs, ps, tn, rfl, V, rfl⟩, fun S4 p4 e4 hp4 h4 => ?_⟩
    simp only [h4]
    have hp4k : p4 ≠ kn := fun z => by rw [z, h3] at hp4; cases hp4
    refine lcL_inv (fun rest acc S' => ∃ (done ts : List (List Bd)) (nk : Nat) (kvs : List (D × D)), rest = ts.map eT ∧ tearsOf (hang fs tn) ps = done ++ ts ∧ acc = (done.map fun t => D.bl (decide (LN ps (less (hang fs tn) t) % 2 = 1))) ∧ ExtX kn S4 S' ∧ S' kn = some (.dic nk kvs) ∧ MemoT ps (vLW fs ps) kvs)
      ?_ ?_ _ _ _ ⟨[], tearsOf (hang fs tn) ps, nk, kvs, rfl, rfl, rfl, ExtX.of (Ext.refl _), e4 _ _ h3, M⟩
    · rintro acc S' ⟨done, ts, nk', kvs', q1, q2, rfl, q4, q5, q6⟩
      have : ts = [] := by cases ts with | nil => rfl | cons _ _ => simp at q1
      subst this
      rw [List.append_nil] at q2
      subst q2
      refine ⟨q4 _ _ hp4k h4, fun p5 hp5 => ?_⟩
      have h5 : put S' p5 (.lst ((tearsOf (hang fs tn) ps).map fun t => D.bl (decide (LN ps (less (hang fs tn) t) % 2 = 1)))) p5 = some (.lst ((tearsOf (hang fs tn) ps).map fun t => D.bl (decide (LN ps (less (hang fs tn) t) % 2 = 1)))) := put_same
      have k5 := Ext.new (o := .lst ((tearsOf (hang fs tn) ps).map fun t => D.bl (decide (LN ps (less (hang fs tn) t) % 2 = 1)))) hp5 _ _ q5
      have e5 := Ext.new (o := .lst ((tearsOf (hang fs tn) ps).map fun t => D.bl (decide (LN ps (less (hang fs tn) t) % 2 = 1)))) hp5
      generalize put S' p5 (.lst ((tearsOf (hang fs tn) ps).map fun t => D.bl (decide (LN ps (less (hang fs tn) t) % 2 = 1)))) = S5 at h5 k5 e5
      simp only [gN, dSetIx, dOp, dC, List.set_cons_succ, List.set_cons_zero, dVar_succ, dVar_zero, rInB, h5]
      refine ⟨rfl, by rw [List.all_map, List.all_eq_true]; intros; rfl, ?_⟩
      rw [wins_in V]
      simp only [rSetD, k5]
      refine ⟨isK_T tn, q6.len V.pris hps, fun n' => ?_⟩
      obtain ⟨m1, m2⟩ := q6.put T
      simp only [dRet, dOp, dVar_succ, dVar_zero, rIxD, put_same]
      refine ⟨isK_T tn, ?_⟩
      have m2' : dget (dput kvs' (eT tn) (.bl (decide (LN ps (hang fs tn) % 2 = 1)))) (eT tn) = some (vLW fs ps tn) := m2
      rw [m2']
      exact hQ _ n' _ (((ExtX.of e4).trans q4).trans ((ExtX.of e5).trans ExtX.put)) put_same m1
    · rintro x rest acc S' ⟨done, ts, nk', kvs', q1, q2, rfl, q4, q5, q6⟩
      refine ⟨q4 _ _ hp4k h4, fun N hN => ?_⟩
      cases ts with
      | nil => simp at q1
      | cons t ts =>
        simp only [List.map_cons, List.cons.injEq] at q1
        obtain ⟨rfl, rfl⟩ := q1
        have ht : t ∈ tearsOf (hang fs tn) ps := by rw [q2]; simp
        simp only [gN, dwipe, dYes, if_true, dOp, dCall, dCB, dCons, dNil, List.set_cons_succ, List.set_cons_zero, dVar_succ, dVar_zero]
        refine next_torn V T ht fun p S5 e5 T5 => ?_
        have hh := (torn_step V T ht).2
        have hl := (tear_len hR hr ht).1
        refine ⟨fs, ps, tear1 tn t, kn, nk', kvs', rfl, e5 _ _ q5, V, hps, T5, q6, by rw [hh]; omega, fun S6 nk6 kvs6 e6 h6 M6 => ?_⟩
        refine hN _ _ ⟨done ++ [t], ts, nk6, kvs6, rfl, by rw [q2]; simp, ?_, (q4.trans (ExtX.of e5)).trans e6, h6, M6⟩
        rw [List.map_append]
        simp only [vLW, hh, List.map_cons, List.map_nil]
  · rw [hg]
    simp only [Option.isSome_some, Bool.not_true, dBool, Bool.false_eq_true, if_false, dNext]
    simp only [dRet, dOp, dVar_succ, dVar_zero, rIxD, h3, hg]
    exact ⟨isK_T tn, hQ S nk kvs (ExtX.of (Ext.refl _)) h3 M⟩
end DL

namespace DL
open PySem PySem.Spec PyProof.Rows L2

/-! ### the fewest goes -/
def mx (l : List Nat) : Nat := l.foldl max 0
def mn : List Nat → Nat
  | [] => 0
  | a :: l => l.foldl min a
theorem mx_init (l : List Nat) : ∀ a, l.foldl max a = max a (mx l) := by
  induction l with
  | nil => intro a; simp [mx]
  | cons b l ih =>
    intro a
    unfold mx
    rw [List.foldl_cons, List.foldl_cons, ih, ih (max 0 b)]
    omega
theorem mx_cons (a : Nat) (l : List Nat) : mx (a :: l) = max a (mx l) := by
  have := mx_init l (max 0 a)
  unfold mx at this ⊢
  rw [List.foldl_cons, this]
  omega
theorem le_mx {l : List Nat} {a : Nat} (h : a ∈ l) : a ≤ mx l := by
  induction l with
  | nil => simp at h
  | cons b l ih =>
    rw [mx_cons]
    rcases List.mem_cons.mp h with rfl | h
    · omega
    · have := ih h; omega
theorem mx_le {l : List Nat} {k : Nat} (h : ∀ a ∈ l, a ≤ k) : mx l ≤ k := by
  induction l with
  | nil => simp [mx]
  | cons b l ih =>
    rw [mx_cons]
    have := h b (by simp)
    have := ih fun a ha => h a (List.mem_cons_of_mem _ ha)
    omega
theorem mx_in {l : List Nat} (h : l ≠ []) : mx l ∈ l := by
  induction l with
  | nil => exact (h rfl).elim
  | cons b l ih =>
    rw [mx_cons]
    by_cases hl : l = []
    · subst hl; simp [mx]
    · have := ih hl
      by_cases hb : b ≤ mx l
      · rw [Nat.max_eq_right hb]; exact List.mem_cons_of_mem _ this
      · rw [Nat.max_eq_left (by omega)]; simp
theorem mn_snoc {l : List Nat} (h : l ≠ []) (x : Nat) : mn (l ++ [x]) = min (mn l) x := by
  cases l with
  | nil => exact (h rfl).elim
  | cons a l => simp [mn, List.foldl_append]
theorem fold_min_le (l : List Nat) : ∀ a, l.foldl min a ≤ a ∧ (∀ b ∈ l, l.foldl min a ≤ b) ∧ (l.foldl min a = a ∨ l.foldl min a ∈ l) := by
  induction l with
  | nil => intro a; simp
  | cons b l ih =>
    intro a
    rw [List.foldl_cons]
    obtain ⟨h1, h2, h3⟩ := ih (min a b)
    refine ⟨by omega, fun c hc => ?_, ?_⟩
    · rcases List.mem_cons.mp hc with rfl | hc
      · omega
      · exact h2 c hc
    · rcases h3 with h3 | h3
      · by_cases hab : a ≤ b
        · left; omega
        · right; rw [h3, Nat.min_eq_right (by omega)]; simp
      · exact .inr (List.mem_cons_of_mem _ h3)
theorem mn_in {l : List Nat} (h : l ≠ []) : mn l ∈ l := by
  cases l with
  | nil => exact (h rfl).elim
  | cons a l =>
    rcases (fold_min_le l a).2.2 with h | h
    · show l.foldl min a ∈ _; rw [h]; simp
    · exact List.mem_cons_of_mem _ h
theorem mn_le {l : List Nat} {a : Nat} (h : a ∈ l) : mn l ≤ a := by
  cases l with
  | nil => simp at h
  | cons b l =>
    rcases List.mem_cons.mp h with rfl | h
    · exact (fold_min_le l a).1
    · exact (fold_min_le l b).2.1 a h
noncomputable def fewF (pk : List Bd) : Nat → List Fd → List Bd → Nat
  | 0, _, _ => 0
  | n + 1, fs, hs => mn ((tearsOf hs pk).map fun t => mx ((parts fs (less hs t)).map fun p => fewF pk n p (inn (less hs t) p)) + 1)
noncomputable def Few (pk : List Bd) (fs : List Fd) (hs : List Bd) : Nat := fewF pk hs.length fs hs
theorem fewF_stab {pk : List Bd} : ∀ (n m : Nat) (fs : List Fd) (hs : List Bd), InR hs → Ris eB hs → hs.length ≤ n → hs.length ≤ m → fewF pk n fs hs = fewF pk m fs hs
  | 0, m, fs, hs, _, _, h, _ => by
    have : hs = [] := List.length_eq_zero_iff.mp (by omega)
    subst this
    cases m with
    | zero => rfl
    | succ m => simp [fewF, tears_nil, mn]
  | n + 1, m, fs, hs, hR, hr, h, h' => by
    cases m with
    | zero =>
      have : hs = [] := List.length_eq_zero_iff.mp (by omega)
      subst this
      simp [fewF, tears_nil, mn]
    | succ m =>
      unfold fewF
      congr 1
      refine List.map_congr_left fun t ht => ?_
      congr 2
      refine List.map_congr_left fun p hp => ?_
      have h1 := (tear_len hR hr ht).1
      have h2 : (inn (less hs t) p).length ≤ (less hs t).length := List.length_filter_le _ _
      exact fewF_stab n m _ _ (hR.less.sub fun b hb => (mem_inn.mp hb).1) (inn_ris (ris_less hr)) (by omega) (by omega)
theorem Few_eq {pk : List Bd} {fs : List Fd} {hs : List Bd} (hR : InR hs) (hr : Ris eB hs) : Few pk fs hs = mn ((tearsOf hs pk).map fun t => mx ((parts fs (less hs t)).map fun p => Few pk p (inn (less hs t) p)) + 1) := by
  have h1 : Few pk fs hs = fewF pk (hs.length + 1) fs hs := fewF_stab _ _ _ _ hR hr (Nat.le_refl _) (by omega)
  rw [h1]
  unfold fewF
  congr 1
  refine List.map_congr_left fun t ht => ?_
  congr 2
  refine List.map_congr_left fun p hp => ?_
  have h1 := (tear_len hR hr ht).1
  have h2 : (inn (less hs t) p).length ≤ (less hs t).length := List.length_filter_le _ _
  exact fewF_stab _ _ _ _ (hR.less.sub fun b hb => (mem_inn.mp hb).1) (inn_ris (ris_less hr)) (by omega) (Nat.le_refl _)
noncomputable def fewT (pk : List Bd) (fs : List Fd) (hs t : List Bd) : Nat := mx ((parts fs (less hs t)).map fun p => Few pk p (inn (less hs t) p)) + 1
theorem Few_mn {pk : List Bd} {fs : List Fd} {hs : List Bd} (hR : InR hs) (hr : Ris eB hs) : Few pk fs hs = mn ((tearsOf hs pk).map (fewT pk fs hs)) := Few_eq hR hr
theorem Few_nil {pk : List Bd} {fs : List Fd} {hs : List Bd} (hR : InR hs) (hr : Ris eB hs) (h : tearsOf hs pk = []) : Few pk fs hs = 0 := by rw [Few_mn hR hr, h]; rfl
theorem Few_at {pk : List Bd} {fs : List Fd} {hs : List Bd} (hR : InR hs) (hr : Ris eB hs) (h : tearsOf hs pk ≠ []) : ∃ t ∈ tearsOf hs pk, Few pk fs hs = fewT pk fs hs t := by
  have := mn_in (l := (tearsOf hs pk).map (fewT pk fs hs)) (by simpa using h)
  rw [← Few_mn hR hr] at this
  obtain ⟨t, h1, h2⟩ := List.mem_map.mp this
  exact ⟨t, h1, h2.symm⟩
theorem Few_le {pk : List Bd} {fs : List Fd} {hs t : List Bd} (hR : InR hs) (hr : Ris eB hs) (h : t ∈ tearsOf hs pk) : Few pk fs hs ≤ fewT pk fs hs t := by
  rw [Few_mn hR hr]
  exact mn_le (List.mem_map_of_mem h)
/-- no more goes than tears -/
theorem LN_parts {pk : List Bd} {fs : List Fd} {hs : List Bd} (hR : InR hs) (hrb : Ris eB hs) (hr : Ris eF fs) (hin : InF fs hs) : ((parts fs hs).map fun p => LN pk (inn hs p)).sum = LN pk hs := by
  have key : ∀ (rest done : List (List Fd)), parts fs hs = done ++ rest → (done.map fun p => LN pk (inn hs p)).sum = LN pk (inn hs done.flatten) → ((done ++ rest).map fun p => LN pk (inn hs p)).sum = LN pk hs := fun rest => by
    induction rest with
    | nil =>
      intro done h1 h2
      rw [List.append_nil] at h1 ⊢
      rw [h2, ← h1, inn_parts hr hin]
    | cons p rest ih =>
      intro done h1 h2
      have := ih (done ++ [p]) (by rw [h1]; simp) (by
        rw [List.map_append, List.sum_append, h2, (rows_snoc (pk := pk) hR hrb hr hin h1).1]
        simp
        omega)
      simpa using this
  have := key (parts fs hs) [] rfl (by simp [inn_nil, LN_empty])
  simpa using this
theorem le_sum {l : List Nat} {a : Nat} (h : a ∈ l) : a ≤ l.sum := by
  induction l with
  | nil => simp at h
  | cons b l ih =>
    rw [List.sum_cons]
    rcases List.mem_cons.mp h with rfl | h
    · omega
    · have := ih h; omega
theorem Few_LN {pk : List Bd} : ∀ (n : Nat) (fs : List Fd) (hs : List Bd), hs.length ≤ n → PcSt fs hs → Few pk fs hs ≤ LN pk hs := fun n => by
  induction n with
  | zero =>
    intro fs hs h P
    have : hs = [] := List.length_eq_zero_iff.mp (by omega)
    subst this
    rw [Few_nil P.inR P.hris (tears_nil pk)]
    omega
  | succ n ih =>
    intro fs hs h P
    by_cases ht : tearsOf hs pk = []
    · rw [Few_nil P.inR P.hris ht]; omega
    · obtain ⟨t, ht'⟩ := List.exists_mem_of_ne_nil _ ht
      have h1 := Few_le (fs := fs) P.inR P.hris ht'
      have h2 := (LN_step P.inR P.hris ht').1
      have hl := (tear_len P.inR P.hris ht').1
      have h3 : mx ((parts fs (less hs t)).map fun p => Few pk p (inn (less hs t) p)) ≤ LN pk (less hs t) := by
        refine mx_le fun a ha => ?_
        obtain ⟨p, hp, rfl⟩ := List.mem_map.mp ha
        have h4 : (inn (less hs t) p).length ≤ (less hs t).length := List.length_filter_le _ _
        refine Nat.le_trans (ih p _ (by omega) (P.behind hp)) ?_
        rw [← LN_parts (pk := pk) P.inR.less (ris_less P.hris) P.fris P.less]
        exact le_sum (List.mem_map_of_mem (f := fun p => LN pk (inn (less hs t) p)) hp)
      unfold fewT at h1
      omega
theorem Few_zero {pk : List Bd} {fs : List Fd} {hs : List Bd} (P : PcSt fs hs) : Few pk fs hs = 0 ↔ LN pk hs = 0 := by
  constructor
  · intro h
    by_cases ht : tearsOf hs pk = []
    · exact LN_nil ht
    · obtain ⟨t, _, h2⟩ := Few_at (fs := fs) P.inR P.hris ht
      rw [h] at h2
      unfold fewT at h2
      omega
  · intro h
    have := Few_LN (pk := pk) _ fs hs (Nat.le_refl _) P
    omega

/-! ### ends of parts -/
theorem end_sub {pk hs : List Bd} (hR : InR hs) (hr : Ris eB hs) : ∀ b ∈ endOf pk hs, b ∈ hs := (LN_steps (pk := pk) hR hr).1.sub
theorem end_nil {pk hs : List Bd} (h : tearsOf hs pk = []) : endOf pk hs = hs := by unfold endOf; rw [rowF_nil _ h]
theorem end_cl {pk : List Bd} : ∀ (n : Nat) (hs A : List Bd), hs.length ≤ n → InR hs → Ris eB hs → Ris eB A → Cl hs A → ∀ b, b ∈ endOf pk A ↔ b ∈ endOf pk hs ∧ b ∈ A := fun n => by
  induction n with
  | zero =>
    intro hs A hn hR hr hrA h b
    have : hs = [] := List.length_eq_zero_iff.mp (by omega)
    subst this
    have hA : A = [] := List.eq_nil_iff_forall_not_mem.mpr fun b hb => by simpa using h.sub b hb
    subst hA
    rw [end_nil (tears_nil pk)]
    simp
  | succ n ih =>
    intro hs A hn hR hr hrA h b
    have hRA := hR.sub h.sub
    by_cases ht : tearsOf hs pk = []
    · have hA : tearsOf A pk = [] := List.eq_nil_iff_forall_not_mem.mpr fun t z => by
        have := ((h.tears hR).mp z).1
        rw [ht] at this
        simp at this
      rw [end_nil ht, end_nil hA]
      exact ⟨fun hb => ⟨h.sub b hb, hb⟩, fun hb => hb.2⟩
    · obtain ⟨t, ht'⟩ := List.exists_mem_of_ne_nil _ ht
      have hl := (tear_len hR hr ht').1
      rw [(LN_step hR hr ht').2]
      rcases (h.split hR).mp ht' with hA | hB
      · have hs' := ((h.tears hR).mp hA).2
        rw [(LN_step hRA hrA hA).2, ih (less hs t) (less A t) (by omega) hR.less (ris_less hr) (ris_less hrA) (h.lessA hs').1 b]
        constructor
        · rintro ⟨h1, h2⟩
          exact ⟨h1, (mem_less.mp h2).1⟩
        · rintro ⟨h1, h2⟩
          exact ⟨h1, mem_less.mpr ⟨h2, (mem_less.mp (end_sub hR.less (ris_less hr) b h1)).2⟩⟩
      · have hs' := ((h.rest.tears hR).mp hB).2
        exact ih (less hs t) A (by omega) hR.less (ris_less hr) hrA (h.lessB hs').1 b
theorem end_ris {pk hs : List Bd} (hR : InR hs) (hr : Ris eB hs) : Ris eB (endOf pk hs) := (LN_steps (pk := pk) hR hr).1.ris hr
theorem end_inn {pk : List Bd} {fs : List Fd} {hs : List Bd} {P : List Fd} (hR : InR hs) (hr : Ris eB hs) (hin : InF fs hs) (hP : ∀ f ∈ P, ∀ g ∈ fs, Reach hs f g → g ∈ P) : endOf pk (inn hs P) = inn (endOf pk hs) P := by
  have hc := cl_inn hin hP
  have hRA := hR.sub hc.sub
  refine Ris.uniq oinj_B (end_ris hRA (inn_ris hr)) (inn_ris (end_ris hR hr)) fun b => ?_
  rw [end_cl _ _ _ (Nat.le_refl _) hR hr (inn_ris hr) hc b, mem_inn, mem_inn]
  exact ⟨fun ⟨h1, h2⟩ => ⟨h1, h2.2⟩, fun ⟨h1, h2⟩ => ⟨h1, end_sub hR hr b h1, h2⟩⟩
/-- the parts of a coarser lot -/
theorem lot_in {fs : List Fd} {hs E : List Bd} (hr : Ris eF fs) (hin : InF fs hs) (hE : ∀ b ∈ E, b ∈ hs) {f g : Fd} (hf : f ∈ fs) (hg : g ∈ lotOf fs hs f) : lotOf fs E g = lotOf (lotOf fs hs f) (inn E (lotOf fs hs f)) g := by
  have hgf := (mem_lotOf.mp hg).1
  refine Ris.uniq oinj_F (lot_ris hr g) (lot_ris (lot_ris hr f) g) fun x => ?_
  rw [mem_lotOf, mem_lotOf]
  constructor
  · rintro ⟨h1, h2⟩
    have h3 : x ∈ lotOf fs hs f := lot_closed g hg x h1 (h2.mono hE)
    refine ⟨h3, ?_⟩
    clear h1 h3
    induction h2 with
    | refl => exact .refl
    | step r a ih =>
      refine ih.step ?_
      obtain ⟨b, hb, h⟩ := a
      have hm : ∀ y ∈ fs, Reach E g y → y ∈ lotOf fs hs f := fun y hy r => lot_closed g hg y hy (r.mono hE)
      refine ⟨b, mem_inn.mpr ⟨hb, ?_⟩, h⟩
      have hbi := hin b (hE b hb)
      rcases h with ⟨h1, h2⟩ | ⟨h1, h2⟩
      · exact ⟨hm _ hbi.1 (h1 ▸ r), hm _ hbi.2 (h2 ▸ r.step ⟨b, hb, .inl ⟨h1, h2⟩⟩)⟩
      · exact ⟨hm _ hbi.1 (h1 ▸ r.step ⟨b, hb, .inr ⟨h1, h2⟩⟩), hm _ hbi.2 (h2 ▸ r)⟩
  · rintro ⟨h1, h2⟩
    exact ⟨(mem_lotOf.mp h1).1, h2.mono fun b hb => (mem_inn.mp hb).1⟩
theorem parts_nodup {fs : List Fd} {hs : List Bd} (hr : Ris eF fs) : (parts fs hs).Nodup := by
  refine List.Pairwise.imp_of_mem (fun {a b} ha hb h z => ?_) (parts_disj (hs := hs) hr)
  subst z
  obtain ⟨f, hf, rfl⟩ := (parts_mem hr).mp ha
  have : f ∈ lotOf fs hs f := mem_lotOf.mpr ⟨hf, .refl⟩
  exact h f this this
theorem parts_split {fs : List Fd} {hs E : List Bd} (hr : Ris eF fs) (hin : InF fs hs) (hE : ∀ b ∈ E, b ∈ hs) : (parts fs E).Perm ((parts fs hs).flatMap fun p => parts p (inn E p)) := by
  refine perm_of (parts_nodup hr) ?_ fun l => ?_
  · have key : ∀ ls : List (List Fd), (∀ p ∈ ls, p ∈ parts fs hs) → ls.Pairwise (fun l m => ∀ x ∈ l, x ∉ m) → (ls.flatMap fun p => parts p (inn E p)).Nodup := fun ls => by
      induction ls with
      | nil => intro _ _; simp
      | cons p ls ih =>
        intro h1 h2
        rw [List.pairwise_cons] at h2
        obtain ⟨f, hf, ep⟩ := (parts_mem hr).mp (h1 p (by simp))
        have hpr : Ris eF p := by rw [ep]; exact lot_ris hr f
        rw [List.flatMap_cons, List.nodup_append]
        refine ⟨parts_nodup hpr, ih (fun q hq => h1 q (List.mem_cons_of_mem _ hq)) h2.2, fun a ha b hb z => ?_⟩
        subst z
        obtain ⟨q, hq, haq⟩ := List.mem_flatMap.mp hb
        obtain ⟨g, hg, eq⟩ := (parts_mem hr).mp (h1 q (List.mem_cons_of_mem _ hq))
        have hqr : Ris eF q := by rw [eq]; exact lot_ris hr g
        obtain ⟨x, hx, ex⟩ := (parts_mem hpr).mp ha
        obtain ⟨y, hy, ey⟩ := (parts_mem hqr).mp haq
        have h3 : x ∈ a := by rw [ex]; exact mem_lotOf.mpr ⟨hx, .refl⟩
        have h4 : x ∈ q := by rw [ey] at h3; exact (mem_lotOf.mp h3).1
        exact h2.1 q hq x hx h4
    exact key _ (fun p hp => hp) (parts_disj hr)
  · rw [parts_mem hr, List.mem_flatMap]
    constructor
    · rintro ⟨f, hf, rfl⟩
      have hff : f ∈ lotOf fs hs f := mem_lotOf.mpr ⟨hf, .refl⟩
      refine ⟨lotOf fs hs f, (parts_mem hr).mpr ⟨f, hf, rfl⟩, (parts_mem (lot_ris hr f)).mpr ⟨f, hff, lot_in hr hin hE hf hff⟩⟩
    · rintro ⟨p, hp, hl⟩
      obtain ⟨f, hf, rfl⟩ := (parts_mem hr).mp hp
      obtain ⟨g, hg, rfl⟩ := (parts_mem (lot_ris hr f)).mp hl
      exact ⟨g, (mem_lotOf.mp hg).1, (lot_in hr hin hE hf hg).symm⟩

/-! ### a tear leaves two pieces at most -/
theorem side_adj2 {hs : List Bd} {b : Bd} {j : Int} (h : wh hs b j) : ∃ x y : Bd, x ∈ hs ∧ y ∈ hs ∧ x.1 ≠ b.1 ∧ y.1 ≠ b.1 ∧ Adj [x] (fst' (shift b j)) (fst' (shift b (j + 1))) ∧ Adj [y] (oth (shift b j)) (oth (shift b (j + 1))) := by
  have hw := whole_iff.mp h
  obtain ⟨r, x, y⟩ := b
  cases r with
  | false =>
    refine ⟨(true, x + j, y), (true, x + j, y + 1), hw _ ?_, hw _ ?_, by simp, by simp, ⟨_, List.mem_singleton.mpr rfl, .inl ⟨?_, ?_⟩⟩, ⟨_, List.mem_singleton.mpr rfl, .inl ⟨?_, ?_⟩⟩⟩ <;> simp [arnd, kor, c1, shift, fst', oth] <;> omega
  | true =>
    refine ⟨(false, x, y + j), (false, x + 1, y + j), hw _ ?_, hw _ ?_, by simp, by simp, ⟨_, List.mem_singleton.mpr rfl, .inl ⟨?_, ?_⟩⟩, ⟨_, List.mem_singleton.mpr rfl, .inl ⟨?_, ?_⟩⟩⟩ <;> simp [arnd, kor, c1, shift, fst', oth] <;> omega
theorem tear_word {hs : List Bd} {b : Bd} {k1 k2 : Nat} (T : TearIs hs b k1 k2) {x : Bd} (hx : x ∈ tearSet hs b) : x.1 = b.1 := by
  obtain ⟨i, _, _, rfl⟩ := (T.mem x).mp hx
  exact shift_fst b i
theorem tear_sides {hs : List Bd} {b : Bd} (hR : InR hs) {x : Bd} (hx : x ∈ tearSet hs b) : Reach (less hs (tearSet hs b)) (fst' b) (fst' x) ∧ Reach (less hs (tearSet hs b)) (oth b) (oth x) := by
  obtain ⟨k1, k2, T⟩ := tear_is (b := b) hR
  obtain ⟨i, h1, h2, rfl⟩ := (T.mem x).mp hx
  have st : ∀ j : Int, -(k1 : Int) ≤ j → j < k2 → Adj (less hs (tearSet hs b)) (fst' (shift b j)) (fst' (shift b (j + 1))) ∧ Adj (less hs (tearSet hs b)) (oth (shift b j)) (oth (shift b (j + 1))) := fun j h1 h2 => by
    obtain ⟨x, y, hx, hy, nx, ny, ⟨z, hz, a1⟩, ⟨w, hw, a2⟩⟩ := side_adj2 (T.wh j h1 h2)
    rw [List.mem_singleton] at hz hw
    subst hz hw
    exact ⟨⟨z, mem_less.mpr ⟨hx, fun q => nx (tear_word T q)⟩, a1⟩, ⟨w, mem_less.mpr ⟨hy, fun q => ny (tear_word T q)⟩, a2⟩⟩
  have up : ∀ n : Nat, (n : Int) ≤ k2 → Reach (less hs (tearSet hs b)) (fst' b) (fst' (shift b n)) ∧ Reach (less hs (tearSet hs b)) (oth b) (oth (shift b n)) := fun n => by
    induction n with
    | zero => intro _; have e : shift b ((0 : Nat) : Int) = b := shift_zero b; rw [e]; exact ⟨.refl, .refl⟩
    | succ n ih =>
      intro hn
      obtain ⟨i1, i2⟩ := ih (by omega)
      obtain ⟨s1, s2⟩ := st n (by omega) (by omega)
      exact ⟨i1.step s1, i2.step s2⟩
  have dn : ∀ n : Nat, (n : Int) ≤ k1 → Reach (less hs (tearSet hs b)) (fst' b) (fst' (shift b (-(n : Int)))) ∧ Reach (less hs (tearSet hs b)) (oth b) (oth (shift b (-(n : Int)))) := fun n => by
    induction n with
    | zero => intro _; have e : shift b (-((0 : Nat) : Int)) = b := shift_zero b; rw [e]; exact ⟨.refl, .refl⟩
    | succ n ih =>
      intro hn
      obtain ⟨i1, i2⟩ := ih (by omega)
      obtain ⟨s1, s2⟩ := st (-((n + 1 : Nat) : Int)) (by omega) (by omega)
      have e : -((n + 1 : Nat) : Int) + 1 = -(n : Int) := by omega
      rw [e] at s1 s2
      exact ⟨i1.step s1.symm, i2.step s2.symm⟩
  rcases Int.le_total 0 i with h | h
  · have := up i.toNat (by omega)
    rwa [Int.toNat_of_nonneg h] at this
  · have := dn (-i).toNat (by omega)
    have e : -(((-i).toNat : Nat) : Int) = i := by omega
    rwa [e] at this
theorem tear_two {fs : List Fd} {hs : List Bd} {b : Bd} (P : PcSt fs hs) (hb : b ∈ hs) : ∀ f ∈ fs, Reach (less hs (tearSet hs b)) (fst' b) f ∨ Reach (less hs (tearSet hs b)) (oth b) f := fun f hf => by
  have h := P.con _ (P.inn b hb).1 f hf
  clear hf
  induction h with
  | refl => exact .inl .refl
  | step r a ih =>
    obtain ⟨x, hx, h⟩ := a
    by_cases ht : x ∈ tearSet hs b
    · obtain ⟨s1, s2⟩ := tear_sides P.inR ht
      rcases h with ⟨h1, h2⟩ | ⟨h1, h2⟩
      · rw [← h2]; exact .inr s2
      · rw [← h1]; exact .inl s1
    · have ad : Adj (less hs (tearSet hs b)) _ _ := ⟨x, mem_less.mpr ⟨hx, ht⟩, h⟩
      rcases ih with ih | ih
      · exact .inl (ih.step ad)
      · exact .inr (ih.step ad)
theorem parts_two {fs : List Fd} {hs pk t : List Bd} (P : PcSt fs hs) (ht : t ∈ tearsOf hs pk) : (parts fs (less hs t)).length ≤ 2 := by
  obtain ⟨b, hb, rfl, _⟩ := (tears_mem P.inR).mp ht
  have := len_le_of_nodup (parts_nodup (hs := less hs (tearSet hs b)) P.fris) (m := [lotOf fs (less hs (tearSet hs b)) (fst' b), lotOf fs (less hs (tearSet hs b)) (oth b)]) fun l hl => by
    obtain ⟨f, hf, rfl⟩ := (parts_mem P.fris).mp hl
    rcases tear_two P hb f hf with h | h
    · rw [lot_same h]; simp
    · rw [lot_same h]; simp
  simpa using this
theorem parts_conn1 {fs : List Fd} {hs : List Bd} (P : PcSt fs hs) : (parts fs hs).length = 1 := by
  obtain ⟨f, r, e⟩ : ∃ f r, fs = f :: r := by cases h : fs with | nil => exact (P.ne h).elim | cons f r => exact ⟨f, r, rfl⟩
  have hf : f ∈ fs := by rw [e]; simp
  have h1 := len_le_of_nodup (parts_nodup (hs := hs) P.fris) (m := [lotOf fs hs f]) fun l hl => by
    obtain ⟨g, hg, rfl⟩ := (parts_mem P.fris).mp hl
    rw [lot_same (P.con f hf g hg)]; simp
  have h2 : parts fs hs ≠ [] := List.ne_nil_of_mem ((parts_mem P.fris).mpr ⟨f, hf, rfl⟩)
  have h3 := List.length_pos_iff.mpr h2
  simp at h1
  omega
/-- goes halve at best -/
theorem Few_pow {pk : List Bd} : ∀ (n : Nat) (fs : List Fd) (hs : List Bd), hs.length ≤ n → PcSt fs hs → (parts fs (endOf pk hs)).length ≤ 2 ^ Few pk fs hs := fun n => by
  induction n with
  | zero =>
    intro fs hs h P
    have : hs = [] := List.length_eq_zero_iff.mp (by omega)
    subst this
    rw [end_nil (tears_nil pk), parts_conn1 P]
    exact Nat.one_le_two_pow
  | succ n ih =>
    intro fs hs h P
    by_cases ht : tearsOf hs pk = []
    · rw [end_nil ht, parts_conn1 P]
      exact Nat.one_le_two_pow
    · obtain ⟨t, ht', e⟩ := Few_at (fs := fs) P.inR P.hris ht
      have hl := (tear_len P.inR P.hris ht').1
      have hlR : InR (less hs t) := P.inR.less
      have hlr : Ris eB (less hs t) := ris_less P.hris
      rw [e, (LN_step P.inR P.hris ht').2]
      rw [(parts_split (E := endOf pk (less hs t)) P.fris P.less (end_sub hlR hlr)).length_eq, List.length_flatMap]
      have hb : ∀ a ∈ (parts fs (less hs t)).map (fun p => (parts p (inn (endOf pk (less hs t)) p)).length), a ≤ 2 ^ (fewT pk fs hs t - 1) := fun a ha => by
        obtain ⟨p, hp, rfl⟩ := List.mem_map.mp ha
        have h4 : (inn (less hs t) p).length ≤ (less hs t).length := List.length_filter_le _ _
        have h5 := ih p _ (by omega) (P.behind hp)
        obtain ⟨f, hf, ep⟩ := (parts_mem P.fris).mp hp
        rw [end_inn (pk := pk) hlR hlr P.less (P := p) (by rw [ep]; exact lot_closed)] at h5
        refine Nat.le_trans h5 (Nat.pow_le_pow_right (by omega) ?_)
        have h6 := le_mx (l := (parts fs (less hs t)).map fun p => Few pk p (inn (less hs t) p)) (List.mem_map_of_mem hp)
        unfold fewT
        omega
      have hsum : ∀ (l : List Nat) (k : Nat), (∀ a ∈ l, a ≤ k) → l.sum ≤ l.length * k := fun l k => by
        induction l with
        | nil => intro _; simp
        | cons a l ih =>
          intro hh
          have := hh a (by simp)
          have := ih fun b hb => hh b (List.mem_cons_of_mem _ hb)
          rw [List.sum_cons, List.length_cons, Nat.succ_mul]
          omega
      have h7 := hsum _ _ hb
      rw [List.length_map] at h7
      have h8 := parts_two P ht'
      have h9 : (parts fs (less hs t)).length * 2 ^ (fewT pk fs hs t - 1) ≤ 2 * 2 ^ (fewT pk fs hs t - 1) := Nat.mul_le_mul_right _ h8
      have h10 : 2 ^ fewT pk fs hs t = 2 * 2 ^ (fewT pk fs hs t - 1) := by
        have : fewT pk fs hs t = (fewT pk fs hs t - 1) + 1 := by unfold fewT; omega
        rw [this, Nat.pow_succ, Nat.add_sub_cancel, Nat.mul_comm]
      omega
/-! ### halvings -/
def clog : Nat → Nat → Nat
  | 0, _ => 0
  | n + 1, k => if k ≤ 1 then 0 else clog n ((k + 1) / 2) + 1
def halv (k : Nat) : Nat := clog k k
theorem clog_stab : ∀ (n m k : Nat), k ≤ n → k ≤ m → clog n k = clog m k
  | 0, m, k, h, _ => by
    have : k = 0 := by omega
    subst this
    cases m <;> simp [clog]
  | n + 1, m, k, h, h' => by
    cases m with
    | zero =>
      have : k = 0 := by omega
      subst this
      simp [clog]
    | succ m =>
      unfold clog
      by_cases hk : k ≤ 1
      · rw [if_pos hk, if_pos hk]
      · rw [if_neg hk, if_neg hk, clog_stab n m ((k + 1) / 2) (by omega) (by omega)]
theorem halv_one {k : Nat} (h : k ≤ 1) : halv k = 0 := by
  unfold halv
  cases k with
  | zero => rfl
  | succ k => unfold clog; rw [if_pos h]
theorem halv_more {k : Nat} (h : 1 < k) : halv k = halv ((k + 1) / 2) + 1 := by
  unfold halv
  obtain ⟨n, rfl⟩ : ∃ n, k = n + 1 := ⟨k - 1, by omega⟩
  conv => lhs; unfold clog
  rw [if_neg (by omega), clog_stab n _ _ (by omega) (Nat.le_refl _)]
theorem halv_le : ∀ (k n : Nat), n ≤ 2 ^ k → halv n ≤ k
  | 0, n, h => by rw [halv_one (by simpa using h)]; omega
  | k + 1, n, h => by
    by_cases hn : n ≤ 1
    · rw [halv_one hn]; omega
    · rw [halv_more (by omega)]
      have := halv_le k ((n + 1) / 2) (by rw [Nat.pow_succ] at h; omega)
      omega
end DL

namespace DL
open PySem PySem.Spec PyProof.Rows L2

theorem Memo.put2 {pk : List Bd} {U : List Fd → List Bd → Prop} {v : List Fd → List Bd → D} {kvs : List (D × D)} (Un : Univ pk U) (M : Memo U v kvs) {fs : List Fd} {hs : List Bd} (hU : U fs hs) : Memo U v (dput kvs (eKy fs hs) (v fs hs)) ∧ dget (dput kvs (eKy fs hs) (v fs hs)) (eKy fs hs) = some (v fs hs) := by
  rcases M.get fs hs with hg | hg
  · exact M.put Un hU hg
  · have he : dput kvs (eKy fs hs) (v fs hs) = kvs := by
      unfold dput
      rw [hg]
      simp only [Option.isSome_some, if_true]
      obtain ⟨l, hl1, hl2, rfl⟩ := M.ok
      rw [List.map_map]
      refine List.map_congr_left fun q hq => ?_
      show (if eKy q.1 q.2 = eKy fs hs then _ else _) = _
      split
      · rename_i he
        obtain ⟨h1, h2⟩ := eKy_inj he
        show (eKy q.1 q.2, v fs hs) = (eKy q.1 q.2, v q.1 q.2)
        rw [h1, h2]
      · rfl
    rw [he]
    exact ⟨M, hg⟩
theorem maxF_nat (l : List Nat) : ∀ x : Nat, maxF (.int (x : Int)) (l.map fun (n : Nat) => D.int (n : Int)) = .int ((l.foldl max x : Nat) : Int) := by
  unfold maxF
  induction l with
  | nil => intro x; rfl
  | cons y ys ih =>
    intro x
    rw [List.map_cons, List.foldl_cons, List.foldl_cons]
    have : (if D.lt (.int (x : Int)) (.int (y : Int)) = true then D.int (y : Int) else D.int (x : Int)) = D.int ((max x y : Nat) : Int) := by
      have e : D.lt (.int (x : Int)) (.int (y : Int)) = decide ((x : Int) < y) := PySem.W.dataLt_int _ _
      rw [e]
      by_cases h : (x : Int) < y
      · rw [if_pos (decide_eq_true h), Nat.max_eq_right (by omega)]
      · rw [decide_eq_false h, if_neg Bool.false_ne_true, Nat.max_eq_left (by omega)]
    rw [this]
    exact ih _
theorem max_nats {S : Store} {q : Addr} {l : List Nat} {Q : DQ} (hne : l ≠ []) (h : S q = some (.lst (l.map fun (n : Nat) => D.int (n : Int)))) (k : Q (.int (mx l : Nat)) S) : rMaxL [.loc q] S Q := by
  obtain ⟨x, xs, rfl⟩ : ∃ x xs, l = x :: xs := by cases l with | nil => exact (hne rfl).elim | cons x xs => exact ⟨x, xs, rfl⟩
  rw [List.map_cons] at h
  simp only [rMaxL, h]
  refine ⟨⟨fun d hd e he => ?_, fun d hd => ?_⟩, ?_⟩
  · rw [← List.map_cons (f := fun (n : Nat) => D.int (n : Int))] at hd he
    obtain ⟨a, _, rfl⟩ := List.mem_map.mp hd
    obtain ⟨b, _, rfl⟩ := List.mem_map.mp he
    rfl
  · rw [← List.map_cons (f := fun (n : Nat) => D.int (n : Int))] at hd
    obtain ⟨a, _, rfl⟩ := List.mem_map.mp hd
    exact ⟨rfl, rfl⟩
  · rw [maxF_nat, mx_init, ← mx_cons]
    exact k
/-! ### fewest_of -/
noncomputable def vFew (pk : List Bd) (fs : List Fd) (hs : List Bd) : D := .int (Few pk fs hs : Nat)
def anyC (_ : List Bd) : Prop := True
noncomputable abbrev spR_fewest_of : Nat → DSp := spMemo vFew anyC
noncomputable def sp_fewest_of : DSp := spR_fewest_of 40
def n_fewest_of : List Str := ["fields", "hanging", "pricks", "known", "key", "found", "tear", "most", "border", "piece", "rest"]
def l_fewest_of_1 (spr : DSp) (W : DWX) : DTS := (dFor (dIter (dCall sp_tears_of W (dCons (dVar 1) (dCons (dDc (dIter (dVar 2)) (dcR1 (gN 8) (dB (dOp rInD (dVar 8) (dVar 1))) (dVar 8) (dC (.bl true)) [8])) dNil)))) (gN 6) (dSeq (dAsg (dCB rMaxL (dCons (dLc (dIter (dCall sp_behind W (dCons (dVar 0) (dCons (dVar 1) (dCons (dVar 6) dNil))))) (gT 2 (gsCons (gN 9) (gsCons (gN 10) gsNil))) dYes (dCall spr W0 (dCons (dVar 9) (dCons (dVar 10) (dCons (dVar 2) (dCons (dVar 3) dNil))))) [9, 10]) dNil)) (gN 7))
  (dAsg (dIf (dB (dOp rIsN (dVar 5) (dC .non))) (dOp rCatD (dVar 7) (dC (.int 1))) (dCB rMin2D (dCons (dVar 5) (dCons (dOp rCatD (dVar 7) (dC (.int 1))) dNil)))) (gN 5))))
def t_fewest_of (spr : DSp) (W : DWX) : DTS := (dSeq (dAsg (dCall sp_key_of W (dCons (dVar 0) (dCons (dVar 1) dNil))) (gN 4))
  (dSeq (dIfS (dB (dOp rNinD (dVar 4) (dVar 3))) (dSeq (dAsg (dC .non) (gN 5))
  (dSeq (l_fewest_of_1 spr W)
  (dSetIx (dVar 3) (dVar 4) (dIf (dB (dOp rIsN (dVar 5) (dC .non))) (dC (.int 0)) (dVar 5))))) dNext)
  (dRet (dOp rIxD (dVar 3) (dVar 4)))))
theorem no_fewest_of {args : List D} {S : Store} {Q : DQ} {E : DXK} (h : spR_fewest_of 0 args S Q E) : False := no_memo h
theorem len_fewest_of {n : Nat} : Ln 4 (spR_fewest_of n) := len_memo
def fndD : List Nat → D
  | [] => .non
  | l => .int (mn l : Nat)
/-- max of the goes of the pieces behind a tear -/
theorem most_of {n : Nat} {U : List Fd → List Bd → Prop} {fs : List Fd} {hs pk t : List Bd} {ph pp kn : Addr} {nh np nk : Nat} {kvs : List (D × D)} {σ : DSt} {S : Store} {W : DWX} {te : DTE} {i j : Nat} {t0 t1 tt : DTE} {Q : DQ}
    (Un : Univ pk U) (hU : U fs hs) (hpn : pk.Nodup) (hpl : pk.length ≤ 1000) (hlen : (less hs t).length < n) (hph : ph ≠ kn) (hpp : pp ≠ kn) (ht : t ∈ tearsOf hs pk)
    (h1 : S ph = some (.dic nh (dT (hs.map eB)))) (h2 : S pp = some (.dic np (dT (pk.map eB)))) (hk : S kn = some (.dic nk kvs)) (M : Memo U (vFew pk) kvs)
    (v0 : ∀ S Q, Q (.tup (fs.map eF)) S → t0 σ S Q) (v1 : ∀ S Q, Q (.loc ph) S → t1 σ S Q) (v6 : ∀ S Q, Q (eT t) S → tt σ S Q)
    (ve : ∀ (p : List Fd) (q : Addr) S (Q : DQ), spR_fewest_of n [eL p, .loc q, .loc pp, .loc kn] S Q (fun cls od S' => W0 cls od (((dwipe σ [i, j]).set i (some (eL p))).set j (some (.loc q))) S') → te (((dwipe σ [i, j]).set i (some (eL p))).set j (some (.loc q))) S Q)
    (hQ : ∀ S' nk' kvs', ExtX kn S S' → S' kn = some (.dic nk' kvs') → Memo U (vFew pk) kvs' → Q (.int (mx ((parts fs (less hs t)).map fun p => Few pk p (inn (less hs t) p)) : Nat)) S') :
    dCB rMaxL (dCons (dLc (dIter (dCall sp_behind W (dCons t0 (dCons t1 (dCons tt dNil))))) (gT 2 (gsCons (gN i) (gsCons (gN j) gsNil))) dYes te [i, j]) dNil) σ S Q := by
  have P := Un.st fs hs hU
  have hfew := P.few
  have hhl := P.hlen
  simp only [dCB, dCons, dNil, dLc, dIter, dCall]
  refine v0 _ _ (v1 _ _ (v6 _ _ ?_))
  refine ⟨fs, hs, t, ph, nh, rfl, h1, P.fris, by omega, P.hris.nodup, by omega, P.inn, fun S5 p5 l e5 hp5 hl h5 hq => ?_⟩
  simp only [h5]
  have hp5k : p5 ≠ kn := fun z => by rw [z, hk] at hp5; cases hp5
  have hqk : ∀ q ∈ l, q.2.1 ≠ kn := fun q hq' z => by have h := (hq q hq').1; rw [z, hk] at h; cases h
  refine lcL_inv (fun rest acc S' => ∃ (done gs : List PQ) (nk : Nat) (kvs : List (D × D)), rest = gs.map eQ ∧ l = done ++ gs ∧ acc = ((done.map fun q => Few pk q.1 (inn (less hs t) q.1)).map fun (n : Nat) => D.int (n : Int)) ∧ ExtX kn S5 S' ∧ S' kn = some (.dic nk kvs) ∧ Memo U (vFew pk) kvs)
    ?_ ?_ _ _ _ ⟨[], l, nk, kvs, rfl, rfl, rfl, ExtX.of (Ext.refl _), e5 _ _ hk, M⟩
  · rintro acc S' ⟨done, gs, nk', kvs', q1, q2, rfl, q4, q5, q6⟩
    have : gs = [] := by cases gs with | nil => rfl | cons _ _ => simp at q1
    subst this
    rw [List.append_nil] at q2
    subst q2
    refine ⟨q4 _ _ hp5k h5, fun p6 hp6 => ?_⟩
    have hmm : (l.map fun q => Few pk q.1 (inn (less hs t) q.1)) = (parts fs (less hs t)).map fun p => Few pk p (inn (less hs t) p) := by rw [← hl, List.map_map]; rfl
    rw [hmm]
    have hne : (parts fs (less hs t)).map (fun p => Few pk p (inn (less hs t) p)) ≠ [] := by
      obtain ⟨f, hf⟩ := List.exists_mem_of_ne_nil _ P.ne
      have := (parts_mem (hs := less hs t) P.fris).mpr ⟨f, hf, rfl⟩
      exact List.ne_nil_of_mem (List.mem_map_of_mem this)
    refine max_nats hne put_same ?_
    exact hQ _ nk' kvs' ((ExtX.of e5).trans (q4.trans (ExtX.of (Ext.new hp6)))) (Ext.new hp6 _ _ q5) q6
  · rintro x rest acc S' ⟨done, gs, nk', kvs', q1, q2, rfl, q4, q5, q6⟩
    refine ⟨q4 _ _ hp5k h5, fun N hN => ?_⟩
    cases gs with
    | nil => simp at q1
    | cons q gs =>
      simp only [List.map_cons, List.cons.injEq] at q1
      obtain ⟨rfl, rfl⟩ := q1
      have hqm : q ∈ l := by rw [q2]; simp
      have hpm : q.1 ∈ parts fs (less hs t) := by rw [← hl]; exact List.mem_map_of_mem hqm
      have hUq := Un.cl fs hs t hU ht q.1 hpm
      have hil : (inn (less hs t) q.1).length ≤ (less hs t).length := List.length_filter_le _ _
      refine ⟨rfl, ?_⟩
      simp only [gsCons, gsNil, gN, dYes, if_true]
      refine ve q.1 q.2.1 S' _ ?_
      refine ⟨U, q.1, inn (less hs t) q.1, pk, q.2.1, pp, kn, q.2.2, np, nk', kvs', rfl, q4 _ _ (hqk q hqm) (hq q hqm).2, q4 _ _ hpp (e5 _ _ h2), q5, hqk q hqm, hpp, Un, hUq, trivial, hpn, hpl, q6, by omega, fun S6 nk6 kvs6 e6 h6 M6 => ?_⟩
      refine hN _ _ ⟨done ++ [q], gs, nk6, kvs6, rfl, by rw [q2]; simp, ?_, q4.trans e6, h6, M6⟩
      simp [vFew]
theorem rd_fewest_of {n : Nat} {args : List D} {S : Store} {Q : DQ} {Ed : DXK} (h : spR_fewest_of (n + 1) args S Q Ed) : t_fewest_of (spR_fewest_of n) (fun cls od _ S' => Ed cls od S') { nx := fun _ S' => Q .non S', rt := Q } (dstart n_fewest_of args) S := by
  obtain ⟨U, fs, hs, pk, ph, pp, kn, nh, np, nk, kvs, rfl, h1, h2, h3, hph, hpp, Un, hU, _, hpn, hpl, M, hlen, hQ⟩ := h
  have P := Un.st fs hs hU
  have hR := P.inR
  have hfew := P.few
  have hhl := P.hlen
  simp only [t_fewest_of, n_fewest_of, dSeq, dAsg, dCall, dCons, dNil, dstart, List.map_cons, List.map_nil, List.length_cons, List.length_nil, List.cons_append, List.nil_append, List.replicate, dVar_succ, dVar_zero]
  refine ⟨_, ⟨fs, ph, nh, hs, rfl, h1, P.hris, rfl⟩, fun S1 e1 => ?_⟩
  simp only [gN, dSeq, dIfS, dB, dOp, List.set_cons_succ, List.set_cons_zero, dVar_succ, dVar_zero]
  have hk1 := e1 _ _ h3
  have hnin : ∀ Q : DQ, Q (.bl (!(dget kvs (eKy fs hs)).isSome)) S1 → rNinD (eKy fs hs) (.loc kn) S1 Q := fun Q q => by
    simp only [rNinD, inOk, inV, hk1]
    exact ⟨isK_Ky fs hs, q⟩
  refine hnin _ ?_
  rcases M.get fs hs with hg | hg
  · rw [hg]
    simp only [Option.isSome_none, Bool.not_false, dBool, if_true]
    simp only [dSeq, dAsg, dC, gN, List.set_cons_succ, List.set_cons_zero]
    unfold l_fewest_of_1
    simp only [dFor, dIter, dCall, dCons, dNil, dVar_succ, dVar_zero]
    refine dDc_flt (fun _ _ => eB_inj) (l := pk) (fun b => decide (b ∈ hs)) key_B hpn (by omega) (fun R hR' => ?_) (by simp) (fun b hb S' e K hK => ?_) (fun S2 pc nc e2 hpc => ?_)
    · have := e1 _ _ h2
      simp [this, dT_keys]
      exact hR' S1 _ (Ext.refl _) fun S' e => e _ _ this
    · have := (e1.trans e) _ _ h1
      simp [this, dget_dT, mem_eB]
      have := hK S' (Ext.refl _)
      by_cases hb : b ∈ hs
      · simp [hb] at this ⊢; exact this
      · simp [hb] at this ⊢; exact this
    have hcap : (pk.filter fun b => decide (b ∈ hs)) = cap pk hs := rfl
    rw [hcap]
    have e2' := e1.trans (e2.trans (Ext.new (o := .dic nc (dT ((cap pk hs).map eB))) hpc))
    have g2 : put S2 pc (.dic nc (dT ((cap pk hs).map eB))) pc = some (.dic nc (dT ((cap pk hs).map eB))) := put_same
    generalize put S2 pc (.dic nc (dT ((cap pk hs).map eB))) = S3 at e2' g2
    refine ⟨_, ⟨ph, nh, hs, pc, nc, cap pk hs, rfl, e2' _ _ h1, g2, hR, Nat.le_trans (List.length_filter_le _ _) hpl, rfl⟩, fun S4 p4 e4 hp4 h4 => ?_⟩
    rw [tears_cap hR] at h4
    simp only [h4]
    have e14 := e2'.trans e4
    have hp4k : p4 ≠ kn := fun z => by rw [z] at hp4; rw [e2' _ _ h3] at hp4; cases hp4
    refine forL_inv (fun rest σ S' => ∃ (done ts : List (List Bd)) (c d : Option D) (nk : Nat) (kvs : List (D × D)), rest = ts.map eT ∧ tearsOf hs pk = done ++ ts ∧ σ = [some (.tup (fs.map eF)), some (.loc ph), some (.loc pp), some (.loc kn), some (eKy fs hs), some (fndD (done.map (fewT pk fs hs))), c, d, none, none, none] ∧ ExtX kn S4 S' ∧ S' kn = some (.dic nk kvs) ∧ Memo U (vFew pk) kvs)
      ?_ ?_ _ _ _ ⟨[], tearsOf hs pk, none, none, nk, kvs, rfl, rfl, rfl, ExtX.of (Ext.refl _), e14 _ _ h3, M⟩
    · rintro σ S' ⟨done, ts, c, d, nk', kvs', q1, q2, rfl, q4, q5, q6⟩
      have : ts = [] := by cases ts with | nil => rfl | cons _ _ => simp at q1
      subst this
      rw [List.append_nil] at q2
      subst q2
      refine ⟨q4 _ _ hp4k h4, ?_⟩
      have fin : ∀ n', dRet (dOp rIxD (dVar 3) (dVar 4)) { nx := fun _ S' => Q .non S', rt := Q } [some (.tup (fs.map eF)), some (.loc ph), some (.loc pp), some (.loc kn), some (eKy fs hs), some (fndD ((tearsOf hs pk).map (fewT pk fs hs))), c, d, none, none, none] (put S' kn (.dic n' (dput kvs' (eKy fs hs) (.int (Few pk fs hs : Nat))))) := fun n' => by
        obtain ⟨m1, m2⟩ := q6.put2 Un hU
        simp only [dRet, dOp, dVar_succ, dVar_zero, rIxD, put_same]
        refine ⟨isK_Ky fs hs, ?_⟩
        have m2' : dget (dput kvs' (eKy fs hs) (.int (Few pk fs hs : Nat))) (eKy fs hs) = some (vFew pk fs hs) := m2
        rw [m2']
        exact hQ _ n' _ (((ExtX.of e14).trans q4).trans ExtX.put) put_same m1
      have hF := Few_mn (pk := pk) (fs := fs) hR P.hris
      cases hts : tearsOf hs pk with
      | nil =>
        have h0 := Few_nil (pk := pk) (fs := fs) hR P.hris hts
        rw [hts, h0] at fin
        simp only [dSetIx, dIf, dB, dOp, dC, dVar_succ, dVar_zero, List.map_nil, fndD, rIsN, isN, dBool, if_true, rSetD, q5]
        exact ⟨isK_Ky fs hs, q6.len Un, fin⟩
      | cons t ts =>
        rw [hts] at hF fin
        rw [hF] at fin
        simp only [dSetIx, dIf, dB, dOp, dC, dVar_succ, dVar_zero, List.map_cons, fndD, rIsN, isN, dBool, Bool.false_eq_true, if_false, rSetD, q5]
        exact ⟨isK_Ky fs hs, q6.len Un, fin⟩
    · rintro x rest σ S' ⟨done, ts, c, d, nk', kvs', q1, q2, rfl, q4, q5, q6⟩
      refine ⟨q4 _ _ hp4k h4, fun N hN => ?_⟩
      cases ts with
      | nil => simp at q1
      | cons t ts =>
        simp only [List.map_cons, List.cons.injEq] at q1
        obtain ⟨rfl, rfl⟩ := q1
        have ht : t ∈ tearsOf hs pk := by rw [q2]; simp
        have hl := (tear_len hR P.hris ht).1
        simp only [gN, dSeq, dAsg, List.set_cons_succ, List.set_cons_zero]
        refine most_of (U := U) (fs := fs) (hs := hs) (pk := pk) (t := t) (ph := ph) (pp := pp) (kn := kn) (nh := nh) (np := np) (nk := nk') (kvs := kvs') (n := n) Un hU hpn hpl (by omega) hph hpp ht (q4 _ _ hph (e14 _ _ h1)) (q4 _ _ hpp (e14 _ _ h2)) q5 q6 (fun S Q q => q) (fun S Q q => q) (fun S Q q => q) (fun p q S Q h => h) fun S6 nk6 kvs6 e6 h6 M6 => ?_
        simp only [List.set_cons_succ, List.set_cons_zero, dIf, dB, dOp, dC, dCB, dCons, dNil, dVar_succ, dVar_zero, rIsN]
        have hw : ((mx ((parts fs (less hs t)).map fun p => Few pk p (inn (less hs t) p)) : Nat) : Int) + 1 = ((fewT pk fs hs t : Nat) : Int) := rfl
        cases hd : done with
        | nil =>
          simp only [List.map_nil, fndD, isN, dBool, if_true, rCatD]
          rw [hw]
          exact hN _ _ ⟨[t], ts, some (eT t), _, nk6, kvs6, rfl, by rw [q2, hd]; simp, rfl, q4.trans e6, h6, M6⟩
        | cons u us =>
          simp only [List.map_cons, fndD, isN, dBool, Bool.false_eq_true, if_false, rCatD, rMin2D]
          rw [hw]
          refine hN _ _ ⟨done ++ [t], ts, some (eT t), some (.int (mx ((parts fs (less hs t)).map fun p => Few pk p (inn (less hs t) p)) : Nat)), nk6, kvs6, rfl, by rw [q2]; simp, ?_, q4.trans e6, h6, M6⟩
          have hs1 : fndD ((done ++ [t]).map (fewT pk fs hs)) = .int (min ((mn ((u :: us).map (fewT pk fs hs)) : Nat) : Int) ((fewT pk fs hs t : Nat) : Int)) := by
            have e : (done ++ [t]).map (fewT pk fs hs) = (u :: us).map (fewT pk fs hs) ++ [fewT pk fs hs t] := by rw [hd]; simp
            rw [e]
            have hm := mn_snoc (l := (u :: us).map (fewT pk fs hs)) (by simp) (fewT pk fs hs t)
            have e2 : fndD ((u :: us).map (fewT pk fs hs) ++ [fewT pk fs hs t]) = .int (mn ((u :: us).map (fewT pk fs hs) ++ [fewT pk fs hs t]) : Nat) := rfl
            rw [e2, hm]
            congr 1
            omega
          rw [hs1]
          rfl
  · rw [hg]
    simp only [Option.isSome_some, Bool.not_true, dBool, Bool.false_eq_true, if_false, dNext]
    simp only [dRet, dOp, dVar_succ, dVar_zero, rIxD, hk1, hg]
    exact ⟨isK_Ky fs hs, hQ S1 nk kvs (ExtX.of e1) hk1 M⟩
noncomputable def sp_goes : DSp := spV fun args _ v => ∃ fs ps, args = [eS fs ps] ∧ Valid fs ps ∧ (∃ U, Univ ps U ∧ U fs (hang fs [])) ∧ v = .int (Few ps fs (hang fs []) : Nat)
def n_goes : List Str := ["sheet"]
def t_goes (W : DWX) : DTS := (dSeq (dDrop (dCall sp_look W (dCons (dVar 0) dNil)))
  (dRet (dCall sp_fewest_of W (dCons (dOp rIxD (dVar 0) (dC (.int 0))) (dCons (dCall sp_hanging_of W (dCons (dVar 0) (dCons (dTup dNil) dNil))) (dCons (dCall sp_pricks_of W (dCons (dVar 0) dNil)) (dCons dDict0 dNil)))))))
theorem len_goes : Ln 1 sp_goes := fun _ _ _ _ ⟨_, ⟨_, _, h, _⟩, _⟩ => by rw [h]; rfl
theorem rd_goes : Rd n_goes t_goes sp_goes := fun {args S Q Ed} h => by
  obtain ⟨v, ⟨fs, ps, rfl, V, ⟨U, Un, hU⟩, rfl⟩, hQ⟩ := h
  have hpl := V.plen
  have hhl := hang_len fs []
  have hfew := V.few
  simp only [t_goes, n_goes, dSeq, dDrop, dRet, dOp, dC, dCall, dCons, dNil, dTup, dstart, List.map_cons, List.map_nil, List.length_cons, List.length_nil, List.cons_append, List.nil_append, List.replicate, dVar_succ, dVar_zero]
  refine ⟨_, ⟨fs, ps, rfl, V, rfl⟩, fun S1 e1 => ?_⟩
  show rIxD (eS fs ps) (.int 0) S1 _
  have hix0 : ∀ S Q, Q (.tup (fs.map eF)) S → rIxD (eS fs ps) (.int 0) S Q := fun S Q q => by simp [rIxD, eS, at0]; exact q
  refine hix0 _ _ ?_
  refine ⟨_, ⟨fs, ps, [], rfl, V.fris.nodup, by omega, by simp, by simp, rfl⟩, fun S2 ph nh e2 hph h2 => ?_⟩
  refine ⟨_, ⟨fs, ps, rfl, V.pris.nodup, by omega, rfl⟩, fun S3 pp np e3 hpp h3 => ?_⟩
  intro kn nk hkn
  have e4 := Ext.new (o := .dic nk []) hkn
  refine ⟨U, fs, hang fs [], ps, ph, pp, kn, nh, np, nk, [], rfl, e4 _ _ (e3 _ _ h2), e4 _ _ h3, put_same, ?_, ?_, Un, hU, trivial, V.pris.nodup, by omega, memo_nil _ _, by omega, fun S5 nk5 kvs5 e5 h5 M5 => ?_⟩
  · intro z; rw [← z, e3 _ _ h2] at hkn; cases hkn
  · intro z; rw [← z, h3] at hkn; cases hkn
  have hx : Ext S S5 := fun b o hb => e5 b o (fun z => by rw [z] at hb; have := (e1.trans (e2.trans e3)) _ _ hb; rw [hkn] at this; cases this) (e4 _ _ ((e1.trans (e2.trans e3)) _ _ hb))
  exact hQ S5 hx
theorem univ_ok {fs : List Fd} {ps : List Bd} (V : Valid fs ps) (h : fs.length ≤ 9) : ∃ U, Univ ps U ∧ U fs (hang fs []) :=
  ⟨UAll fs (hang fs []), univ_all V.fris (by omega) (by have := hang_len fs []; omega), valid_pc V, List.Sublist.refl _, fun f hf => hf⟩
end DL

namespace DL
open PySem PySem.Spec PyProof.Rows L2

/-! ### look_border, torn_by: of good sheets and torn borders -/
def sp_look_border : DSp := spV fun args _ v => ∃ fs ps b, args = [eS fs ps, eB b] ∧ Valid fs ps ∧ b ∈ bordersOf fs ∧ v = .non
def n_look_border : List Str := ["sheet", "border"]
def t_look_border (W : DWX) : DTS := (dIfS (dOr (dNot (dTr (dCall sp_is_border W (dCons (dVar 1) dNil)))) (dB (dOp rNinD (dVar 1) (dCall sp_borders_of W (dCons (dOp rIxD (dVar 0) (dC (.int 0))) dNil))))) (dRaise "BadBorder" W) dNext)
theorem len_look_border : Ln 2 sp_look_border := fun _ _ _ _ ⟨_, ⟨_, _, _, h, _⟩, _⟩ => by rw [h]; rfl
theorem rd_look_border : Rd n_look_border t_look_border sp_look_border := fun {args S Q Ed} h => by
  obtain ⟨v, ⟨fs, ps, b, rfl, V, hb, rfl⟩, hQ⟩ := h
  have hfew := V.few
  simp only [t_look_border, n_look_border, dIfS, dOr, dNot, dTr, dB, dOp, dCall, dCons, dNil]
  refine ⟨_, ⟨_, rfl, okB_B _ _, rfl⟩, fun S1 e1 => ?_⟩
  rw [isBd_eB (V.fin _ (mem_bordersOf.mp hb).1)]
  simp [eS]
  refine ⟨_, ⟨fs, rfl, by omega, rfl⟩, fun S2 p2 e2 hp2 h2 => ?_⟩
  simp [h2, pl_B, pl_Bs 7, mem_eB, hb]
  exact hQ S2 (e1.trans e2)
def sp_torn_by : DSp := fun args S Q E => ∃ fs ps tn b, args = [eS fs ps, eT tn, eB b] ∧ Valid fs ps ∧ TornOk ps tn ∧ b ∈ bordersOf fs ∧
  (∀ t S', tearAt (hang fs tn) ps b = some t → Ext S S' → Q (eT (tear1 tn t)) S') ∧ (∀ S' dx, tearAt (hang fs tn) ps b = none → Ext S S' → S' dx = some (.xd [("at", .int 0)]) → E "NoTear" (some dx) S')
def n_torn_by : List Str := ["sheet", "torn", "border", "tear"]
def t_torn_by (W : DWX) : DTS := (dSeq (dDrop (dCall sp_look_torn W (dCons (dVar 0) (dCons (dVar 1) dNil))))
  (dSeq (dDrop (dCall sp_look_border W (dCons (dVar 0) (dCons (dVar 2) dNil))))
  (dSeq (dAsg (dCall sp_tear_at W (dCons (dCall sp_hanging_of W (dCons (dVar 0) (dCons (dVar 1) dNil))) (dCons (dCall sp_pricks_of W (dCons (dVar 0) dNil)) (dCons (dVar 2) dNil)))) (gN 3))
  (dSeq (dIfS (dB (dOp rIsN (dVar 3) (dC .non))) (dRaiseX "NoTear" "at" (dC (.int 0)) W) dNext)
  (dRet (dCB rTupD (dCons (dCB rSortD (dCons (dOp rCatD (dVar 1) (dVar 3)) dNil)) dNil)))))))
theorem len_torn_by : Ln 3 sp_torn_by := fun _ _ _ _ ⟨_, _, _, _, h, _⟩ => by rw [h]; rfl
theorem rd_torn_by : Rd n_torn_by t_torn_by sp_torn_by := fun {args S Q Ed} h => by
  obtain ⟨fs, ps, tn, b, rfl, V, T, hb, hQ, hE⟩ := h
  have hfew := V.few
  have hpl := V.plen
  have htl := T.len V
  simp only [t_torn_by, n_torn_by, dSeq, dDrop, dAsg, dCall, dCons, dNil]
  refine ⟨_, ⟨fs, ps, tn, rfl, V, T, rfl⟩, fun S1 e1 => ?_⟩
  refine ⟨_, ⟨fs, ps, b, rfl, V, hb, rfl⟩, fun S2 e2 => ?_⟩
  refine ⟨_, ⟨fs, ps, tn, rfl, V.fris.nodup, by omega, T.ris.nodup, by omega, rfl⟩, fun S3 ph n e3 hph h3 => ?_⟩
  refine ⟨_, ⟨fs, ps, rfl, V.pris.nodup, by omega, rfl⟩, fun S4 pp m e4 hpp h4 => ?_⟩
  refine ⟨_, ⟨ph, n, _, pp, m, ps, b, rfl, e4 _ _ h3, h4, V.inR tn, rfl⟩, fun S5 e5 => ?_⟩
  have e15 := e1.trans (e2.trans (e3.trans (e4.trans e5)))
  cases ht : tearAt (hang fs tn) ps b with
  | none =>
    simp [tD, dRaiseX]
    intro dx hdx
    exact hE _ dx ht (e15.trans (Ext.new hdx)) put_same
  | some t =>
    obtain ⟨hbh, rfl, htp⟩ := tearAt_some ht
    have htm : tearSet (hang fs tn) b ∈ tearsOf (hang fs tn) ps := (tears_mem (V.inR tn)).mpr ⟨b, hbh, rfl, htp⟩
    have htl' : (tearSet (hang fs tn) b).length ≤ 32 := by
      have := (torn_step V T htm).1.len V
      rw [tear1, srt_len, List.length_append] at this
      omega
    have hnn : isN (eT (tearSet (hang fs tn) b)) = false := rfl
    simp [tD, hnn]
    simp [eT]
    refine ⟨by omega, ?_⟩
    rw [← List.map_append]
    refine ⟨sort_B _, fun p6 hp6 => ?_⟩
    rw [dsort_map]
    simp only [put_same]
    exact hQ _ _ ht (e15.trans (Ext.new hp6))
end DL

namespace DL
open PySem PySem.Spec PyProof.Rows L2

def sp_pieces : DSp := spL fun args _ ds => ∃ fs ps tn, args = [eS fs ps, eT tn] ∧ Valid fs ps ∧ TornOk ps tn ∧ ds = (parts fs (hang fs tn)).map eL
def n_pieces : List Str := ["sheet", "torn"]
def t_pieces (W : DWX) : DTS := (dSeq (dDrop (dCall sp_look_torn W (dCons (dVar 0) (dCons (dVar 1) dNil))))
  (dRet (dCall sp_pieces_of W (dCons (dVar 0) (dCons (dVar 1) dNil)))))
theorem len_pieces : Ln 2 sp_pieces := fun _ _ _ _ ⟨_, ⟨_, _, _, h, _⟩, _⟩ => by rw [h]; rfl
theorem rd_pieces : Rd n_pieces t_pieces sp_pieces := fun {args S Q Ed} h => by
  obtain ⟨v, ⟨fs, ps, tn, rfl, V, T, rfl⟩, hQ⟩ := h
  have := V.few
  have := T.len V
  simp only [t_pieces, n_pieces, dSeq, dDrop, dRet, dCall, dCons, dNil, dstart, List.map_cons, List.map_nil, List.length_cons, List.length_nil, List.cons_append, List.nil_append, List.replicate, dVar_succ, dVar_zero]
  refine ⟨_, ⟨fs, ps, tn, rfl, V, T, rfl⟩, fun S1 e1 => ?_⟩
  exact ⟨_, ⟨fs, ps, tn, rfl, V.fris, by omega, T.ris.nodup, by omega, rfl⟩, fun S2 p e2 hp h2 => hQ S2 p (e1.trans e2) (e1.free hp) h2⟩
def sp__law_other : DSp := spV fun args _ v => ∃ b, args = [eB b] ∧ v = eF (oth b)
def n__law_other : List Str := ["border", "word", "x", "y"]
def t__law_other (W : DWX) : DTS := (dSeq (dAsg (dVar 0) (gT 3 (gsCons (gN 1) (gsCons (gN 2) (gsCons (gN 3) gsNil)))))
  (dRet (dIf (dB (dOp rEqD (dVar 1) (dC (.str "right")))) (dTup (dCons (dOp rCatD (dVar 2) (dC (.int 1))) (dCons (dVar 3) dNil))) (dTup (dCons (dVar 2) (dCons (dOp rCatD (dVar 3) (dC (.int 1))) dNil))))))
theorem len__law_other : Ln 1 sp__law_other := fun _ _ _ _ ⟨_, ⟨_, h, _⟩, _⟩ => by rw [h]; rfl
theorem rd__law_other : Rd n__law_other t__law_other sp__law_other := fun {args S Q Ed} h => by
  obtain ⟨v, ⟨⟨r, x, y⟩, rfl, rfl⟩, hQ⟩ := h
  have hq := hQ S (Ext.refl S)
  cases r with
  | false => simp [t__law_other, n__law_other, eB, wd_f, oth, down_ne, eF] at hq ⊢; exact hq
  | true => simp [t__law_other, n__law_other, eB, wd_t, oth, eF] at hq ⊢; exact hq
/-! ### part -/
theorem rIn_Ft {S : Store} {l : List Fd} {g : Fd} {Q : DQ} (q : Q (.bl (decide (g ∈ l))) S) : rInD (eF g) (.tup (l.map eF)) S Q := by
  simp only [rInD, inOk, inV, pl_F, pl_Fs 7, mem_eF]
  exact ⟨rfl, q⟩
theorem rNin_Ft {S : Store} {l : List Fd} {g : Fd} {Q : DQ} (q : Q (.bl (!decide (g ∈ l))) S) : rNinD (eF g) (.tup (l.map eF)) S Q := by
  simp only [rNinD, inOk, inV, pl_F, pl_Fs 7, mem_eF]
  exact ⟨rfl, q⟩
def sp_part : DSp := spV fun args _ v => ∃ fs ps p, args = [eS fs ps, .tup (p.map eF)] ∧ Valid fs ps ∧ (∀ f ∈ p, f ∈ fs) ∧ Valid p (inn ps p) ∧ v = eS p (inn ps p)
def n_part : List Str := ["sheet", "fields", "pricks", "found", "field", "one"]
def t_part (W : DWX) : DTS := (dSeq (dDrop (dCall sp_look W (dCons (dVar 0) dNil)))
  (dSeq (dIfS (dOr (dNot (dTr (dCB rIsiD (dCons (dVar 1) (dCons (dC (.ty "tuple")) dNil))))) (dTr (dLc (dIter (dVar 1)) (gN 4) (dB (dOp rNinD (dVar 4) (dOp rIxD (dVar 0) (dC (.int 0))))) (dVar 4) [4]))) (dRaise "BadSheet" W) dNext)
  (dSeq (dAsg (dLc (dIter (dOp rIxD (dVar 0) (dC (.int 1)))) (gN 5) (dAnd (dB (dOp rInD (dOp rIxD (dCall sp_fields_at W0 (dCons (dVar 5) dNil)) (dC (.int 0))) (dVar 1))) (dB (dOp rInD (dOp rIxD (dCall sp_fields_at W0 (dCons (dVar 5) dNil)) (dC (.int 1))) (dVar 1)))) (dVar 5) [5]) (gN 2))
  (dSeq (dAsg (dTup (dCons (dVar 1) (dCons (dCB rTupD (dCons (dVar 2) dNil)) dNil))) (gN 3))
  (dSeq (dIfS (dNot (dTr (dCall sp_is_sheet W (dCons (dVar 3) dNil)))) (dRaise "BadSheet" W) dNext)
  (dRet (dVar 3)))))))
theorem len_part : Ln 2 sp_part := fun _ _ _ _ ⟨_, ⟨_, _, _, h, _⟩, _⟩ => by rw [h]; rfl
theorem rd_part : Rd n_part t_part sp_part := fun {args S Q Ed} h => by
  obtain ⟨v, ⟨fs, ps, p, rfl, V, hp, V', rfl⟩, hQ⟩ := h
  have hfew := V'.few
  simp only [t_part, n_part, dSeq, dDrop, dCall, dCons, dNil, dstart, List.map_cons, List.map_nil, List.length_cons, List.length_nil, List.cons_append, List.nil_append, List.replicate, dVar_succ, dVar_zero]
  refine ⟨_, ⟨fs, ps, rfl, V, rfl⟩, fun S1 e1 => ?_⟩
  have hix0 : ∀ S Q, Q (.tup (fs.map eF)) S → rIxD (eS fs ps) (.int 0) S Q := fun S Q q => by simp [rIxD, eS, at0]; exact q
  have hix1 : ∀ S Q, Q (.tup (ps.map eB)) S → rIxD (eS fs ps) (.int 1) S Q := fun S Q q => by simp [rIxD, eS, at1]; exact q
  simp only [dSeq, dIfS, dOr, dNot, dTr, dCB, dCons, dNil, dC, dVar_succ, dVar_zero, rIsiD, tyName]
  refine ⟨rfl, ?_⟩
  simp only [isT, dTru, beq_self_eq_true, Bool.true_or, Bool.not_true, Bool.false_eq_true, if_false]
  refine dLc_flt (fun _ _ => eF_inj) (l := p) (fun _ => false) (fun R hR' => ?_) (by simp) (fun f hf S'' e K hK => ?_) (fun S2 q2 e2 hq2 => ?_)
  · simp only [dIter, dVar_succ, dVar_zero]
    exact hR' S1 _ (Ext.refl _) fun _ _ => trivial
  · simp only [dB, dOp, dC, List.set_cons_succ, List.set_cons_zero, dVar_succ, dVar_zero]
    refine hix0 _ _ (rNin_Ft ?_)
    rw [decide_eq_true (hp f hf)]
    exact hK S'' (Ext.refl _)
  rw [filter_none (by simp)]
  simp only [dTru, put_same, List.map_nil, List.isEmpty_nil, Bool.not_true, Bool.false_eq_true, if_false, dNext, dSeq, dAsg]
  have e2' := e1.trans (e2.trans (Ext.new (o := .lst []) hq2))
  generalize put S2 q2 (.lst []) = S3 at e2'
  refine dLc_flt (fun _ _ => eB_inj) (l := ps) (fun b => decide (fst' b ∈ p) && decide (oth b ∈ p)) (fun R hR' => ?_) (by simp) (fun b hb S'' e K hK => ?_) (fun S4 q4 e4 hq4 => ?_)
  · simp only [dIter, dOp, dC, dVar_succ, dVar_zero]
    refine hix1 _ _ ?_
    exact hR' S3 _ (Ext.refl _) fun _ _ => trivial
  · simp only [dAnd, dB, dOp, dC, dCall, dCons, dNil, List.set_cons_succ, List.set_cons_zero, dVar_succ, dVar_zero]
    refine ⟨_, ⟨b, rfl, rfl⟩, fun S5 e5 => ?_⟩
    simp only [rIxD, atK, at0, optK]
    refine rIn_Ft ?_
    by_cases h1 : fst' b ∈ p
    · rw [decide_eq_true h1]
      simp only [dBool, if_true]
      refine ⟨_, ⟨b, rfl, rfl⟩, fun S6 e6 => ?_⟩
      simp only [rIxD, atK, at1, optK]
      refine rIn_Ft ?_
      have := hK S6 (e5.trans e6)
      rw [decide_eq_true h1, Bool.true_and] at this
      exact this
    · have := hK S5 e5
      rw [decide_eq_false h1, Bool.false_and] at this
      rw [decide_eq_false h1]
      simp only [dBool, Bool.false_eq_true, if_false]
      exact this
  have hin : (ps.filter fun b => decide (fst' b ∈ p) && decide (oth b ∈ p)) = inn ps p := rfl
  rw [hin]
  simp only [gN, List.set_cons_succ, List.set_cons_zero, dTup, dCons, dNil, dCB, dVar_succ, dVar_zero, rTupD, put_same]
  have e4' := e2'.trans (e4.trans (Ext.new (o := .lst ((inn ps p).map eB)) hq4))
  have g4 : put S4 q4 (.lst ((inn ps p).map eB)) q4 = some (.lst ((inn ps p).map eB)) := put_same
  generalize put S4 q4 (.lst ((inn ps p).map eB)) = S5 at e4' g4
  simp only [g4, gN, dAsg, dTup, dCB, rTupD, dSeq, dIfS, dNot, dTr, dCall, dCons, dNil, List.set_cons_succ, List.set_cons_zero, dVar_succ, dVar_zero]
  refine ⟨_, ⟨p, inn ps p, rfl, V', rfl⟩, fun S6 e6 => ?_⟩
  simp only [dTru, Bool.not_true, Bool.false_eq_true, if_false, dNext, dRet, dVar_succ, dVar_zero]
  exact hQ S6 (e4'.trans e6)
/-! ### a piece alone -/
theorem pc_valid {fs : List Fd} {ps tn : List Bd} (V : Valid fs ps) {p : List Fd} (hp : p ∈ parts fs (hang fs tn)) : Valid p (inn ps p) := by
  have hin : InF fs (hang fs tn) := fun b hb => mem_bordersOf.mp (mem_hang.mp hb).1
  obtain ⟨h1, h2, h3, h4⟩ := part_one V.fris hin hp
  have hlen : p.length ≤ fs.length := len_le_of_nodup h2.nodup h3
  have := V.few
  exact ⟨List.length_pos_iff.mpr h1, by omega, fun f hf => V.fin f (h3 f hf), h2, V.pris.filter _, fun b hb => mem_bordersOf.mpr (mem_inn.mp hb).2, h4⟩
theorem gone_ok {fs : List Fd} {ps tn : List Bd} (T : TornOk ps tn) (p : List Fd) : TornOk (inn ps p) (tn.filter fun b => decide (b ∈ inn ps p)) :=
  ⟨T.ris.filter _, fun b hb => of_decide_eq_true (List.mem_filter.mp hb).2⟩
theorem hang_alone {fs : List Fd} {ps tn : List Bd} (V : Valid fs ps) (T : TornOk ps tn) {p : List Fd} (hp : p ∈ parts fs (hang fs tn)) : hang p (tn.filter fun b => decide (b ∈ inn ps p)) = inn (hang fs tn) p := by
  have hin : InF fs (hang fs tn) := fun b hb => mem_bordersOf.mp (mem_hang.mp hb).1
  obtain ⟨h1, h2, h3, h4⟩ := part_one V.fris hin hp
  refine Ris.uniq oinj_B (hang_ris h2.nodup) (inn_ris (hang_ris V.fris.nodup)) fun b => ?_
  rw [mem_hang, mem_inn, mem_hang, mem_bordersOf, mem_bordersOf]
  simp only [List.mem_filter, decide_eq_true_eq, mem_inn]
  constructor
  · rintro ⟨⟨a1, a2⟩, a3⟩
    exact ⟨⟨⟨h3 _ a1, h3 _ a2⟩, fun z => a3 ⟨z, T.sub b z, a1, a2⟩⟩, a1, a2⟩
  · rintro ⟨⟨_, a3⟩, a1, a2⟩
    exact ⟨⟨a1, a2⟩, fun z => a3 z.1⟩
theorem tears_congr {hs pk pk' : List Bd} (hR : InR hs) (h : ∀ b ∈ hs, b ∈ pk ↔ b ∈ pk') : tearsOf hs pk = tearsOf hs pk' := by
  have hx : ∀ t, t ∈ tearsOf hs pk ↔ t ∈ tearsOf hs pk' := fun t => by
    rw [tears_mem hR, tears_mem hR]
    constructor
    · rintro ⟨b, hb, rfl, k⟩
      obtain ⟨k1, k2, T⟩ := tear_is (b := b) hR
      exact ⟨b, hb, rfl, fun x hx => (h x (T.sub hb hx)).mp (k x hx)⟩
    · rintro ⟨b, hb, rfl, k⟩
      obtain ⟨k1, k2, T⟩ := tear_is (b := b) hR
      exact ⟨b, hb, rfl, fun x hx => (h x (T.sub hb hx)).mpr (k x hx)⟩
  exact pw_uniq oinj_T (perm_of tears_nodup tears_nodup hx) (srt_pw _) (srt_pw _)
theorem rowF_congr {pk pk' : List Bd} : ∀ (n : Nat) (hs : List Bd), InR hs → (∀ b ∈ hs, b ∈ pk ↔ b ∈ pk') → rowF pk n hs = rowF pk' n hs
  | 0, _, _, _ => rfl
  | n + 1, hs, hR, h => by
    have e := tears_congr hR h
    cases ht : tearsOf hs pk with
    | nil => rw [rowF_nil _ ht, rowF_nil _ (e ▸ ht)]
    | cons t ts =>
      rw [rowF_cons n ht, rowF_cons n (e ▸ ht), rowF_congr n (less hs t) hR.less fun b hb => h b (less_sub b hb)]
theorem LN_congr {hs pk pk' : List Bd} (hR : InR hs) (h : ∀ b ∈ hs, b ∈ pk ↔ b ∈ pk') : LN pk hs = LN pk' hs := by
  unfold LN rowOf
  rw [rowF_congr _ _ hR h]
theorem left_LN {fs : List Fd} {ps tn : List Bd} (V : Valid fs ps) (T : TornOk ps tn) : leftN fs ps tn = (LN ps (hang fs tn) : Nat) := by
  obtain ⟨a, b, c, d⟩ := end_torn_ok V T
  exact (one_end V T a d c).2
theorem left_alone {fs : List Fd} {ps tn : List Bd} (V : Valid fs ps) (T : TornOk ps tn) {p : List Fd} (hp : p ∈ parts fs (hang fs tn)) : leftN p (inn ps p) (tn.filter fun b => decide (b ∈ inn ps p)) = (LN ps (inn (hang fs tn) p) : Nat) ∧ tearsOf (hang p (tn.filter fun b => decide (b ∈ inn ps p))) (inn ps p) = tearsOf (inn (hang fs tn) p) ps := by
  have V' := pc_valid V hp
  rw [left_LN V' (gone_ok (fs := fs) T p), hang_alone V T hp]
  have hc : ∀ b ∈ inn (hang fs tn) p, b ∈ inn ps p ↔ b ∈ ps := fun b hb => by
    rw [mem_inn]
    exact ⟨fun h => h.1, fun h => ⟨h, (mem_inn.mp hb).2⟩⟩
  have hR := (V.inR tn).sub (A := inn (hang fs tn) p) fun b hb => (mem_inn.mp hb).1
  exact ⟨by rw [LN_congr hR hc], tears_congr hR hc⟩
end DL

namespace DL
open PySem PySem.Spec PyProof.Rows L2

/-! ### all pricked: torn to single fields -/
theorem end_all {E pk : List Bd} (hR : InR E) (hp : ∀ b ∈ E, b ∈ pk) (h : tearsOf E pk = []) : E = [] := by
  cases E with
  | nil => rfl
  | cons b E =>
    obtain ⟨k1, k2, T⟩ := tear_is (b := b) hR
    have : tearSet (b :: E) b ∈ tearsOf (b :: E) pk := (tears_mem hR).mpr ⟨b, by simp, rfl, fun x hx => hp x (T.sub (by simp) hx)⟩
    rw [h] at this
    simp at this
theorem reach_nil {f g : Fd} (h : Reach [] f g) : f = g := by
  induction h with
  | refl => rfl
  | step _ a _ =>
    obtain ⟨b, hb, _⟩ := a
    simp at hb
theorem parts_nil_len {fs : List Fd} (hr : Ris eF fs) : (parts fs []).length = fs.length := by
  have h1 := (parts_flat (hs := []) hr).length_eq
  have h2 : ∀ l ∈ parts fs [], l.length = 1 := fun l hl => by
    obtain ⟨f, hf, rfl⟩ := (parts_mem hr).mp hl
    have h3 := len_le_of_nodup (lot_ris (hs := []) hr f).nodup (m := [f]) fun g hg => by
      rw [reach_nil (mem_lotOf.mp hg).2]; simp
    have h4 : lotOf fs [] f ≠ [] := List.ne_nil_of_mem (mem_lotOf.mpr ⟨hf, .refl⟩)
    have h5 := List.length_pos_iff.mpr h4
    simp at h3
    omega
  have h3 : ∀ ls : List (List Fd), (∀ l ∈ ls, l.length = 1) → ls.flatten.length = ls.length := fun ls => by
    induction ls with
    | nil => intro _; rfl
    | cons l ls ih =>
      intro hh
      rw [List.flatten_cons, List.length_append, hh l (by simp), ih fun m hm => hh m (List.mem_cons_of_mem _ hm), List.length_cons]
      omega
  rw [← h1, h3 _ h2]
theorem meas_nil (fs : List Fd) : meas fs [] = fs.length := by
  unfold meas cornN cornL
  simp

/-! ### what can be reached, found by trying -/
def clo (fs : List Fd) (hs : List Bd) : Nat → List Fd → List Fd
  | 0, l => l
  | n + 1, l => clo fs hs n (l ++ fs.filter fun g => !decide (g ∈ l) && l.any fun f => (near4 f).any fun p => decide (p.1 = g) && decide (p.2 ∈ hs))
theorem clo_ok {fs : List Fd} {hs : List Bd} {f0 : Fd} : ∀ (n : Nat) (l : List Fd), (∀ g ∈ l, Reach hs f0 g) → ∀ g ∈ clo fs hs n l, Reach hs f0 g
  | 0, l, h, g, hg => h g hg
  | n + 1, l, h, g, hg => by
    refine clo_ok n _ (fun x hx => ?_) g hg
    rcases List.mem_append.mp hx with hx | hx
    · exact h x hx
    · have := (List.mem_filter.mp hx).2
      simp only [Bool.and_eq_true, List.any_eq_true, decide_eq_true_eq] at this
      obtain ⟨_, f, hf, p, hp, h1, h2⟩ := this
      refine (h f hf).step (near4_adj.mpr ⟨p.2, ?_, h2⟩)
      rw [← h1]
      exact hp

/-! ### moved about -/
def tr (d : Fd) (f : Fd) : Fd := (f.1 + d.1, f.2 + d.2)
def trB (d : Fd) (b : Bd) : Bd := (b.1, tr d b.2)
theorem tr_inj {d f g : Fd} (h : tr d f = tr d g) : f = g := by
  obtain ⟨a, b⟩ := f
  obtain ⟨a', b'⟩ := g
  simp [tr] at h
  simp
  omega
theorem trB_inj {d : Fd} {f g : Bd} (h : trB d f = trB d g) : f = g := by
  obtain ⟨r, f⟩ := f
  obtain ⟨r', g⟩ := g
  simp only [trB, Prod.mk.injEq] at h
  rw [h.1, tr_inj h.2]
theorem tr_oth (d : Fd) (b : Bd) : oth (trB d b) = tr d (oth b) := by
  obtain ⟨r, x, y⟩ := b
  cases r <;> simp [oth, trB, tr] <;> omega
theorem tr_adj {hs : List Bd} {f g : Fd} (d : Fd) (h : Adj hs f g) : Adj (hs.map (trB d)) (tr d f) (tr d g) := by
  obtain ⟨b, hb, h⟩ := h
  refine ⟨trB d b, List.mem_map_of_mem hb, ?_⟩
  rw [tr_oth]
  rcases h with ⟨h1, h2⟩ | ⟨h1, h2⟩
  · exact .inl ⟨by rw [← h1]; rfl, by rw [h2]⟩
  · exact .inr ⟨by rw [← h1]; rfl, by rw [h2]⟩
theorem tr_reach {hs : List Bd} {f g : Fd} (d : Fd) (h : Reach hs f g) : Reach (hs.map (trB d)) (tr d f) (tr d g) := by
  induction h with
  | refl => exact .refl
  | step _ a ih => exact ih.step (tr_adj d a)
theorem mem_trF {d : Fd} {l : List Fd} {f : Fd} : tr d f ∈ l.map (tr d) ↔ f ∈ l := by
  rw [List.mem_map]
  exact ⟨fun ⟨x, h, e⟩ => tr_inj e ▸ h, fun h => ⟨f, h, rfl⟩⟩
theorem mem_trB {d : Fd} {l : List Bd} {f : Bd} : trB d f ∈ l.map (trB d) ↔ f ∈ l := by
  rw [List.mem_map]
  exact ⟨fun ⟨x, h, e⟩ => trB_inj e ▸ h, fun h => ⟨f, h, rfl⟩⟩
def raw (fs : List Fd) : List Bd := rawB false fs ++ rawB true fs
theorem mem_raw' {fs : List Fd} {b : Bd} : b ∈ raw fs ↔ fst' b ∈ fs ∧ oth b ∈ fs := by
  rw [← mem_bordersOf]
  unfold bordersOf
  rw [mem_srt]
  rfl
/-- the borders of fields that were moved -/
theorem mem_bd_tr {d : Fd} {l fs : List Fd} (hx : ∀ f, f ∈ fs ↔ f ∈ l.map (tr d)) {b : Bd} : b ∈ bordersOf fs ↔ b ∈ (raw l).map (trB d) := by
  rw [mem_bordersOf, hx, hx]
  constructor
  · rintro ⟨h1, h2⟩
    obtain ⟨x, hx1, e1⟩ := List.mem_map.mp h1
    have eb : b = trB d (b.1, x) := by
      obtain ⟨r, f⟩ := b
      have e1 : tr d x = f := e1
      rw [← e1]
      rfl
    rw [eb, tr_oth, mem_trF] at h2
    rw [eb]
    exact mem_trB.mpr (mem_raw'.mpr ⟨hx1, h2⟩)
  · intro h
    obtain ⟨c, hc, rfl⟩ := List.mem_map.mp h
    obtain ⟨h1, h2⟩ := mem_raw'.mp hc
    exact ⟨List.mem_map_of_mem h1, by rw [tr_oth]; exact List.mem_map_of_mem h2⟩

/-! ### rings -/
def isEdge (w h : Nat) (f : Fd) : Bool := (decide (f.1 = 0) || decide (f.1 = (w : Int) - 1)) || (decide (f.2 = 0) || decide (f.2 = (h : Int) - 1))
def rg (w h : Nat) : List Fd := (rectL w h).filter (isEdge w h)
def ringOk (w h : Nat) : Bool := decide ((raw (rg w h)).length = (rg w h).length) && ((rg w h).all fun f => !(decide ((f.1 + 1, f.2) ∈ rg w h) && decide ((f.1, f.2 + 1) ∈ rg w h) && decide ((f.1 + 1, f.2 + 1) ∈ rg w h))) &&
  ((raw (rg w h)).all fun b => (rg w h).all fun f => decide (f ∈ clo (rg w h) ((raw (rg w h)).filter fun x => !decide (x = b)) 12 [((0 : Int), (0 : Int))]))
theorem ring_ok : ∀ w ∈ [3, 4], ∀ h ∈ [3, 4], ringOk w h = true := by decide +kernel
theorem ring_len : ∀ w ∈ [3, 4], ∀ h ∈ [3, 4], 8 ≤ (rg w h).length ∧ (rg w h).length ≤ 12 ∧ ((0 : Int), (0 : Int)) ∈ rg w h ∧ raw (rg w h) ≠ [] := by decide +kernel
structure Ring (fs : List Fd) : Prop where
  pos : 1 ≤ fs.length
  few : fs.length ≤ 12
  fin : ∀ f ∈ fs, inF f
  ris : Ris eF fs
  len : (bordersOf fs).length = fs.length
  nob : ∀ c, whole (bordersOf fs) c = false
  con : ∀ b ∈ bordersOf fs, ∀ f ∈ fs, ∀ g ∈ fs, Reach (less (bordersOf fs) [b]) f g
  ne : bordersOf fs ≠ []
theorem ring_of {w h : Nat} (hw : w ∈ [3, 4]) (hh : h ∈ [3, 4]) {d : Fd} (hd : (0 ≤ d.1 ∧ d.1 ≤ 3) ∧ 0 ≤ d.2 ∧ d.2 ≤ 3) : Ring (srt eF ((rg w h).map (tr d))) := by
  have hok := ring_ok w hw h hh
  obtain ⟨l1, l2, l3, l4⟩ := ring_len w hw h hh
  unfold ringOk at hok
  rw [Bool.and_eq_true, Bool.and_eq_true, decide_eq_true_eq, List.all_eq_true, List.all_eq_true] at hok
  obtain ⟨⟨k1, k2⟩, k3⟩ := hok
  have hn : (rg w h).Nodup := (rectL_nodup w h).filter _
  have hnm : ((rg w h).map (tr d)).Nodup := List.Pairwise.map _ (fun a b hab z => hab (tr_inj z)) hn
  have hx : ∀ f, f ∈ srt eF ((rg w h).map (tr d)) ↔ f ∈ (rg w h).map (tr d) := fun f => mem_srt
  have hnr : (raw (rg w h)).Nodup := (srt_perm (e := eB) (raw (rg w h))).nodup_iff.mp (bordersOf_ris hn).nodup
  have hlen : (srt eF ((rg w h).map (tr d))).length = (rg w h).length := by rw [srt_len, List.length_map]
  have hw4 : w ≤ 4 := by rcases List.mem_cons.mp hw with rfl | hw; omega; simp at hw; omega
  have hh4 : h ≤ 4 := by rcases List.mem_cons.mp hh with rfl | hh; omega; simp at hh; omega
  refine ⟨by omega, by omega, fun f hf => ?_, ris_srt oinj_F hnm, ?_, fun c => ?_, fun b hb f hf g hg => ?_, ?_⟩
  · obtain ⟨x, hx', rfl⟩ := List.mem_map.mp ((hx f).mp hf)
    obtain ⟨i, j, hi, hj, rfl⟩ := mem_rectL.mp (List.mem_filter.mp hx').1
    refine ⟨?_, ?_, ?_, ?_⟩ <;> simp [tr] <;> omega
  · have hp : (bordersOf (srt eF ((rg w h).map (tr d)))).Perm ((raw (rg w h)).map (trB d)) := perm_of (bordersOf_ris (srt_nodup hnm)).nodup (List.Pairwise.map _ (fun a b hab z => hab (trB_inj z)) hnr) fun b => mem_bd_tr hx
    rw [hp.length_eq, List.length_map, hlen, k1]
  · rw [Bool.eq_false_iff]
    intro hc
    have hc := whole_iff.mp hc
    have m1 := hc (false, c.1 - 1, c.2 - 1) (by simp [arnd])
    have m2 := hc (false, c.1, c.2 - 1) (by simp [arnd])
    obtain ⟨a1, a2⟩ := mem_bordersOf.mp m1
    obtain ⟨a3, a4⟩ := mem_bordersOf.mp m2
    rw [hx] at a1 a2 a3 a4
    obtain ⟨f, hf, e1⟩ := List.mem_map.mp a1
    have hk := k2 f hf
    have i1 : f.1 + d.1 = c.1 - 1 := congrArg Prod.fst e1
    have i2 : f.2 + d.2 = c.2 - 1 := congrArg Prod.snd e1
    have j1 : oth (false, c.1 - 1, c.2 - 1) = tr d (f.1, f.2 + 1) := by simp [oth, tr]; omega
    have j2 : fst' (false, c.1, c.2 - 1) = tr d (f.1 + 1, f.2) := by simp [fst', tr]; omega
    have j3 : oth (false, c.1, c.2 - 1) = tr d (f.1 + 1, f.2 + 1) := by simp [oth, tr]; omega
    rw [j1, mem_trF] at a2
    rw [j2, mem_trF] at a3
    rw [j3, mem_trF] at a4
    rw [decide_eq_true a2, decide_eq_true a3, decide_eq_true a4] at hk
    cases hk
  · obtain ⟨b', hb', rfl⟩ := List.mem_map.mp ((mem_bd_tr hx).mp hb)
    obtain ⟨f', hf', rfl⟩ := List.mem_map.mp ((hx f).mp hf)
    obtain ⟨g', hg', rfl⟩ := List.mem_map.mp ((hx g).mp hg)
    have hall := List.all_eq_true.mp (k3 b' hb')
    have r : ∀ z ∈ rg w h, Reach ((raw (rg w h)).filter fun x => !decide (x = b')) ((0 : Int), (0 : Int)) z := fun z hz => clo_ok 12 _ (fun q hq => by rw [List.mem_singleton] at hq; rw [hq]; exact .refl) z (of_decide_eq_true (hall z hz))
    have r2 := tr_reach d ((r f' hf').symm.trans (r g' hg'))
    refine r2.mono fun x hx' => ?_
    obtain ⟨y, hy, rfl⟩ := List.mem_map.mp hx'
    obtain ⟨y1, y2⟩ := List.mem_filter.mp hy
    refine mem_less.mpr ⟨(mem_bd_tr hx).mpr (List.mem_map_of_mem y1), fun z => ?_⟩
    rw [List.mem_singleton] at z
    rw [trB_inj z] at y2
    simp at y2
  · obtain ⟨b, hb⟩ := List.exists_mem_of_ne_nil _ l4
    exact List.ne_nil_of_mem ((mem_bd_tr hx).mpr (List.mem_map_of_mem hb))
theorem Ring.tear {fs : List Fd} (R : Ring fs) {b : Bd} (hb : b ∈ bordersOf fs) : tearSet (bordersOf fs) b = [b] := by
  have hR : InR (bordersOf fs) := fun b hb => R.fin _ (mem_bordersOf.mp hb).1
  obtain ⟨k1, k2, T⟩ := tear_is (b := b) hR
  have h2 : k2 = 0 := by
    cases k2 with
    | zero => rfl
    | succ k =>
      have := T.wh 0 (by omega) (by omega)
      unfold wh at this
      rw [R.nob] at this
      cases this
  have h1 : k1 = 0 := by
    cases k1 with
    | zero => rfl
    | succ k =>
      have := T.wh (-1) (by omega) (by omega)
      unfold wh at this
      rw [R.nob] at this
      cases this
  subst h1 h2
  obtain ⟨x, hx⟩ := List.length_eq_one_iff.mp (show (tearSet (bordersOf fs) b).length = 1 from T.len)
  have := tear_self (b := b) hR
  rw [hx, List.mem_singleton] at this
  rw [hx, this]
theorem Ring.valid {fs : List Fd} (R : Ring fs) : Valid fs (bordersOf fs) := by
  have hc : Conn fs := fun f hf g hg => by
    obtain ⟨b, hb⟩ := List.exists_mem_of_ne_nil _ R.ne
    exact (R.con b hb f hf g hg).mono less_sub
  have hne : fs ≠ [] := fun z => by have := R.pos; rw [z] at this; simp at this
  exact ⟨R.pos, by have := R.few; omega, R.fin, R.ris, bordersOf_ris R.ris.nodup, fun b hb => hb, by rw [parts_conn hc hne]; rfl⟩
theorem Ring.meas {fs : List Fd} (R : Ring fs) : DL.meas fs (bordersOf fs) = 0 := by
  have : wl (bordersOf fs) = [] := List.eq_nil_iff_forall_not_mem.mpr fun c hc => by
    have := mem_wl.mp hc
    rw [R.nob] at this
    cases this
  have h2 : cornN (bordersOf fs) = 0 := by
    have : cornN (bordersOf fs) = (wl (bordersOf fs)).length := rfl
    rw [this, ‹wl (bordersOf fs) = []›]
    rfl
  unfold DL.meas
  rw [h2, R.len]
  omega
theorem parts_one {fs : List Fd} {hs : List Bd} (hr : Ris eF fs) (hne : fs ≠ []) (hc : ∀ f ∈ fs, ∀ g ∈ fs, Reach hs f g) : parts fs hs = [fs] := by
  obtain ⟨f, r, e⟩ : ∃ f r, fs = f :: r := by cases h : fs with | nil => exact (hne h).elim | cons f r => exact ⟨f, r, rfl⟩
  have hf : f ∈ fs := by rw [e]; simp
  have hl : lotOf fs hs f = fs := Ris.uniq oinj_F (lot_ris hr f) hr fun g => by
    rw [mem_lotOf]
    exact ⟨fun h => h.1, fun h => ⟨h, hc f hf g h⟩⟩
  have h1 := len_le_of_nodup (parts_nodup (hs := hs) hr) (m := [lotOf fs hs f]) fun l hl => by
    obtain ⟨g, hg, rfl⟩ := (parts_mem hr).mp hl
    rw [lot_same (hc f hf g hg)]; simp
  have h2 : lotOf fs hs f ∈ parts fs hs := (parts_mem hr).mpr ⟨f, hf, rfl⟩
  rw [hl] at h2
  obtain ⟨x, hx⟩ : ∃ x, parts fs hs = [x] := by
    refine List.length_eq_one_iff.mp ?_
    have h3 := List.length_pos_of_mem h2
    simp at h1
    omega
  rw [hx, List.mem_singleton] at h2
  rw [hx, h2]
end DL

namespace DL
open PySem PySem.Spec PyProof.Rows L2

/-! ### holes -/
noncomputable def holesL (fs : List Fd) (tn : List Bd) : List Int := (parts fs (hang fs tn)).map fun p => 1 - meas p (inn (hang fs tn) p)
noncomputable def sp_holes : DSp := spL fun args _ ds => ∃ fs ps tn, args = [eS fs ps, eT tn] ∧ Valid fs ps ∧ TornOk ps tn ∧ ds = (holesL fs tn).map D.int
def n_holes : List Str := ["sheet", "torn", "hanging", "piece"]
def t_holes (W : DWX) : DTS := (dSeq (dDrop (dCall sp_look_torn W (dCons (dVar 0) (dCons (dVar 1) dNil))))
  (dSeq (dAsg (dCall sp_hanging_of W (dCons (dVar 0) (dCons (dVar 1) dNil))) (gN 2))
  (dRet (dLc (dIter (dCall sp_pieces_of W (dCons (dVar 0) (dCons (dVar 1) dNil)))) (gN 3) dYes (dOp (rI2 fun i j => .int (i - j)) (dC (.int 1)) (dCall sp_measure_of W0 (dCons (dVar 3) (dCons (dCall sp_within W0 (dCons (dVar 2) (dCons (dVar 3) dNil))) dNil)))) [3]))))
theorem len_holes : Ln 2 sp_holes := fun _ _ _ _ ⟨_, ⟨_, _, _, h, _⟩, _⟩ => by rw [h]; rfl
theorem rd_holes : Rd n_holes t_holes sp_holes := fun {args S Q Ed} h => by
  obtain ⟨v, ⟨fs, ps, tn, rfl, V, T, rfl⟩, hQ⟩ := h
  have hfew := V.few
  have htl := T.len V
  have hhl := hang_len fs tn
  have hin : InF fs (hang fs tn) := fun b hb => mem_bordersOf.mp (mem_hang.mp hb).1
  simp only [t_holes, n_holes, dSeq, dDrop, dAsg, dRet, dCall, dCons, dNil, dstart, List.map_cons, List.map_nil, List.length_cons, List.length_nil, List.cons_append, List.nil_append, List.replicate, dVar_succ, dVar_zero]
  refine ⟨_, ⟨fs, ps, tn, rfl, V, T, rfl⟩, fun S1 e1 => ?_⟩
  refine ⟨_, ⟨fs, ps, tn, rfl, V.fris.nodup, by omega, T.ris.nodup, by omega, rfl⟩, fun S2 ph nh e2 hph h2 => ?_⟩
  simp only [gN, dLc, dIter, dCall, dCons, dNil, List.set_cons_succ, List.set_cons_zero, dVar_succ, dVar_zero]
  refine ⟨_, ⟨fs, ps, tn, rfl, V.fris, by omega, T.ris.nodup, by omega, rfl⟩, fun S3 p3 e3 hp3 h3 => ?_⟩
  simp only [h3]
  refine lcL_inv (fun rest acc S' => ∃ done gs : List (List Fd), rest = gs.map eL ∧ parts fs (hang fs tn) = done ++ gs ∧ acc = (done.map fun p => 1 - meas p (inn (hang fs tn) p)).map D.int ∧ Ext S3 S')
    ?_ ?_ _ _ _ ⟨[], parts fs (hang fs tn), rfl, rfl, rfl, Ext.refl _⟩
  · rintro acc S' ⟨done, gs, q1, q2, rfl, q3⟩
    have : gs = [] := by cases gs with | nil => rfl | cons _ _ => simp at q1
    subst this
    rw [List.append_nil] at q2
    refine ⟨q3 _ _ h3, fun p hp => ?_⟩
    have e4 := e1.trans (e2.trans (e3.trans q3))
    refine hQ _ p (e4.trans (Ext.new hp)) (e4.free hp) ?_
    rw [put_same, ← q2]
    rfl
  · rintro x rest acc S' ⟨done, gs, q1, q2, rfl, q3⟩
    refine ⟨q3 _ _ h3, fun N hN => ?_⟩
    cases gs with
    | nil => simp at q1
    | cons p gs =>
      simp only [List.map_cons, List.cons.injEq] at q1
      obtain ⟨rfl, rfl⟩ := q1
      have hpm : p ∈ parts fs (hang fs tn) := by rw [q2]; simp
      obtain ⟨g1, g2, g3, g4⟩ := part_one V.fris hin hpm
      have hpl : p.length ≤ fs.length := len_le_of_nodup g2.nodup g3
      have hil : (inn (hang fs tn) p).length ≤ (hang fs tn).length := List.length_filter_le _ _
      simp only [gN, dwipe, dYes, if_true, dOp, dC, dCall, dCons, dNil, List.set_cons_succ, List.set_cons_zero, dVar_succ, dVar_zero]
      refine ⟨_, ⟨ph, nh, hang fs tn, p, rfl, (e3.trans q3) _ _ h2, (hang_ris V.fris.nodup).nodup, by omega, g2.nodup, by omega, rfl⟩, fun S4 pw nw e4 hpw h4 => ?_⟩
      refine ⟨_, ⟨p, pw, nw, inn (hang fs tn) p, rfl, h4, by omega, rfl⟩, fun S5 e5 => ?_⟩
      simp only [rI2]
      exact hN _ _ ⟨done ++ [p], gs, rfl, by rw [q2]; simp, by simp, q3.trans (e4.trans e5)⟩
/-! ### halving -/
theorem dVar_at {i : Nat} {σ : DSt} {x : D} {S : Store} {Q : DQ} (h : σ[i]? = some (some x)) : dVar i σ S Q = Q x S := by unfold dVar; rw [h]
theorem halve_loop {i j : Nat} (hij : i ≠ j) {E : DEnds} {S : Store} : ∀ (n : Nat) (h0 : Nat) (σ : DSt), i < σ.length → j < σ.length → σ[i]? = some (some (.int (n : Nat))) → σ[j]? = some (some (.int (h0 : Nat))) →
    (∀ m : Nat, E.nx ((σ.set i (some (.int (m : Nat)))).set j (some (.int ((h0 + halv n : Nat) : Int)))) S) →
    dWhile (dB (dOp (rI2 fun i j => .bl (decide (j < i))) (dVar i) (dC (.int 1)))) (dSeq (dAsg (dOp rDivI (dOp rCatD (dVar i) (dC (.int 1))) (dC (.int 2))) (gN i)) (dAsg (dOp rCatD (dVar j) (dC (.int 1))) (gN j))) E σ S := fun n h0 σ hi hj v1 v2 hE => by
  refine whileN_inv (n := n) (fun m σ' S' => ∃ h : Nat, S' = S ∧ σ' = (σ.set i (some (.int (m : Nat)))).set j (some (.int (h : Nat))) ∧ h + halv m = h0 + halv n) ?_ ⟨h0, rfl, ?_, by omega⟩
  · rintro m σ' S' ⟨h, rfl, rfl, q⟩ N hN
    have g1 : ((σ.set i (some (.int (m : Nat)))).set j (some (.int (h : Nat))))[i]? = some (some (.int (m : Nat))) := by
      rw [List.getElem?_set_ne (Ne.symm hij), List.getElem?_set_self hi]
    simp only [dB, dOp, dC, dVar_at g1, rI2]
    by_cases hm : (1 : Int) < (m : Nat)
    · rw [decide_eq_true hm]
      simp only [dBool, if_true, dSeq, dAsg, dOp, dC, gN, rCatD, rDivI, CDiv, dVar_at g1]
      refine ⟨⟨by decide, by decide⟩, ?_⟩
      have e := halv_more (k := m) (by omega)
      have g3 : ((((σ.set i (some (.int (m : Nat)))).set j (some (.int (h : Nat))))).set i (some (.int ((((m : Nat) : Int) + 1) / 2))))[j]? = some (some (.int (h : Nat))) := by
        rw [List.getElem?_set_ne hij, List.getElem?_set_self (by simpa using hj)]
      simp only [dVar_at g3]
      refine hN ((m + 1) / 2) _ _ (by omega) ⟨h + 1, rfl, ?_, by omega⟩
      have e3 : (((m : Nat) : Int) + 1) / 2 = (((m + 1) / 2 : Nat) : Int) := by omega
      rw [e3, List.set_comm _ _ (Ne.symm hij), List.set_set, List.set_set]
      rfl
    · rw [decide_eq_false hm]
      simp only [dBool, Bool.false_eq_true, if_false]
      rw [halv_one (by omega)] at q
      have : h = h0 + halv n := by omega
      subst this
      exact hE m
  · have a1 : σ.set i (some (.int (n : Nat))) = σ := by
      refine List.ext_getElem? fun k => ?_
      by_cases hk : i = k
      · subst hk; rw [List.getElem?_set_self hi, v1]
      · rw [List.getElem?_set_ne hk]
    have a2 : σ.set j (some (.int (h0 : Nat))) = σ := by
      refine List.ext_getElem? fun k => ?_
      by_cases hk : j = k
      · subst hk; rw [List.getElem?_set_self hj, v2]
      · rw [List.getElem?_set_ne hk]
    rw [a1, a2]
end DL

namespace DL
open PySem PySem.Spec PyProof.Rows L2

def sp_law : DSp := fun args S Q _ => ∃ (a : Addr) (ns : List Int), args = [.loc a] ∧ S a = some (.scr ns) ∧ ∀ S', Q (.bl true) S'
def n_law : List Str := ["script", "row_here", "wide", "high", "across", "down", "fields", "x", "y", "edge", "sheet", "tear", "there", "found", "many", "halvings", "side"]
def l_law_1 (W : DWX) : DTS := (dWhile (dB (dOp (rI2 fun i j => .bl (decide (j < i))) (dVar 16) (dC (.int 1)))) (dSeq (dAsg (dOp rDivI (dOp rCatD (dVar 16) (dC (.int 1))) (dC (.int 2))) (gN 16))
  (dAsg (dOp rCatD (dVar 15) (dC (.int 1))) (gN 15))))
def l_law_2 (W : DWX) : DTS := (dFor (dIter (dCall sp_tears W (dCons (dVar 10) (dCons (dTup dNil) dNil)))) (gN 11) (dSeq (dAsg (dCall sp_torn_by W (dCons (dVar 10) (dCons (dTup dNil) (dCons (dOp rIxD (dVar 11) (dC (.int 0))) dNil)))) (gN 12))
  (dIfS (dOr (dB (dOp rNeD (dCB rLenD (dCons (dVar 11) dNil)) (dC (.int 1)))) (dOr (dB (dOp rNeD (dCall sp_pieces W (dCons (dVar 10) (dCons (dVar 12) dNil))) (dLst (dCons (dVar 6) dNil)))) (dB (dOp rNeD (dCall sp_holes W (dCons (dVar 10) (dCons (dVar 12) dNil))) (dLst (dCons (dC (.int 0)) dNil)))))) (dRet (dC (.bl false))) dNext)))
def l_law_3 (W : DWX) : DTS := (dFor (dRng1 (dCons (dVar 3) dNil)) (gN 8) (dSeq (dAsg (dOrV (dOp rInD (dVar 7) (dTup (dCons (dC (.int 0)) (dCons (dOp (rI2 fun i j => .int (i - j)) (dVar 2) (dC (.int 1))) dNil)))) (dOp rInD (dVar 8) (dTup (dCons (dC (.int 0)) (dCons (dOp (rI2 fun i j => .int (i - j)) (dVar 3) (dC (.int 1))) dNil))))) (gN 9))
  (dAsg (dOp rCatD (dVar 6) (dOp rRepD (dLst (dCons (dTup (dCons (dOp rCatD (dVar 7) (dVar 4)) (dCons (dOp rCatD (dVar 8) (dVar 5)) dNil))) dNil)) (dCB rInt1D (dCons (dVar 9) dNil)))) (gN 6))))
def l_law_4 (W : DWX) : DTS := (dFor (dRng1 (dCons (dVar 2) dNil)) (gN 7) (l_law_3 W))
def t_law (W : DWX) : DTS := (dSeq (dAsg (dCall sp__law_row W (dCons (dVar 0) (dCons (dC (.int 2)) dNil))) (gN 1))
  (dSeq (dPar 2 3 (dCons (dOp rCatD (dC (.int 3)) (dOp rModI (dOp rIxD (dVar 1) (dC (.int 0))) (dC (.int 2)))) (dCons (dOp rCatD (dC (.int 3)) (dOp rModI (dOp rIxD (dVar 1) (dC (.int 1))) (dC (.int 2)))) dNil)))
  (dSeq (dPar 4 5 (dCons (dOp rModI (dOp rIxD (dVar 1) (dC (.int 2))) (dC (.int 4))) (dCons (dOp rModI (dOp rIxD (dVar 1) (dC (.int 3))) (dC (.int 4))) dNil)))
  (dSeq (dAsg (dLst dNil) (gN 6))
  (dSeq (l_law_4 W)
  (dSeq (dAsg (dCB rTupD (dCons (dCB rSortD (dCons (dVar 6) dNil)) dNil)) (gN 6))
  (dSeq (dAsg (dTup (dCons (dVar 6) (dCons (dCB rTupD (dCons (dCall sp__law_inner W (dCons (dVar 6) dNil)) dNil)) dNil))) (gN 10))
  (dSeq (dIfS (dOr (dB (dOp rNeD (dCall sp_holes W (dCons (dVar 10) (dCons (dTup dNil) dNil))) (dLst (dCons (dC (.int 1)) dNil)))) (dOr (dB (dOp rNeD (dCall sp_measure W (dCons (dVar 10) (dCons (dTup dNil) dNil))) (dC (.int 0)))) (dB (dOp rNeD (dCall sp_left W (dCons (dVar 10) (dCons (dTup dNil) dNil))) (dCB rLenD (dCons (dVar 6) dNil)))))) (dRet (dC (.bl false))) dNext)
  (dSeq (l_law_2 W)
  (dSeq (dAsg (dCall sp__law_end W (dCons (dVar 10) (dCons (dTup dNil) (dCons (dCall sp__law_row W (dCons (dVar 0) (dCons (dC (.int 3)) dNil))) dNil)))) (gT 2 (gsCons (gN 13) (gsCons (gN 14) gsNil))))
  (dSeq (dIfS (dOr (dB (dOp rNeD (dVar 14) (dCB rLenD (dCons (dVar 6) dNil)))) (dOr (dB (dOp rNeD (dVar 13) (dOp rIxD (dVar 10) (dC (.int 1))))) (dB (dOp rNeD (dCB rLenD (dCons (dCall sp_end_pieces W (dCons (dVar 10) dNil)) dNil)) (dCB rLenD (dCons (dVar 6) dNil)))))) (dRet (dC (.bl false))) dNext)
  (dSeq (dAsg (dC (.int 0)) (gN 15))
  (dSeq (dAsg (dCB rLenD (dCons (dVar 6) dNil)) (gN 16))
  (dSeq (l_law_1 W)
  (dRet (dAndV (dOp (rI2 fun i j => .bl (decide (j ≤ i))) (dCall sp_goes W (dCons (dVar 10) dNil)) (dOp rCatD (dVar 15) (dC (.int 1)))) (dOp rEqD (dCall sp_winner W (dCons (dVar 10) dNil)) (dIf (dB (dOp rEqD (dOp rModI (dCB rLenD (dCons (dVar 6) dNil)) (dC (.int 2))) (dC (.int 1)))) (dC (.int 0)) (dC (.int 1))))))))))))))))))))
theorem len_law : Ln 1 sp_law := fun _ _ _ _ ⟨_, _, h, _⟩ => by rw [h]; rfl
theorem in_two {i a b : Int} {S : Store} {Q : DQ} (q : Q (.bl (decide (i = a) || decide (i = b))) S) : rInD (.int i) (.tup [.int a, .int b]) S Q := by
  refine ⟨rfl, ?_⟩
  have e : inV (.int i) (.tup [.int a, .int b]) S = (decide (i = a) || decide (i = b)) := by
    show decide (D.int i ∈ [D.int a, D.int b]) = _
    rw [Bool.eq_iff_iff]
    simp
  rw [e]; exact q
def colL (w h : Nat) (d : Fd) (x m : Nat) : List Fd := (((List.range m).map fun (y : Nat) => ((x : Int), (y : Int))).filter (isEdge w h)).map (tr d)
theorem colL_succ (w h : Nat) (d : Fd) (x m : Nat) : colL w h d x (m + 1) = colL w h d x m ++ (if isEdge w h ((x : Int), (m : Int)) then [tr d ((x : Int), (m : Int))] else []) := by
  unfold colL
  rw [List.range_succ, List.map_append, List.filter_append, List.map_append]
  simp [List.filter_cons]
  split <;> rfl
theorem colL_len (w h : Nat) (d : Fd) (x m : Nat) : (colL w h d x m).length ≤ m := by
  unfold colL
  rw [List.length_map]
  refine Nat.le_trans (List.length_filter_le _ _) ?_
  simp
abbrev σ19 (a p1 : Addr) (w h : Nat) (d : Fd) (o6 o7 o8 o9 o10 o11 o12 o13 o14 o15 o16 : Option D) : DSt := [some (.loc a), some (.loc p1), some (.int (w : Nat)), some (.int (h : Nat)), some (.int d.1), some (.int d.2), o6, o7, o8, o9, o10, o11, o12, o13, o14, o15, o16]
theorem loop3_19 {W : DWX} {S0 : Store} {a p1 p : Addr} {w h x : Nat} {d : Fd} {L : List Fd} (hh : h ≤ 4) (hL : L.length ≤ 100) {o8 o9 : Option D} {E : DEnds} {S : Store} (he : Ext S0 S) (g : S p = some (.lst (L.map eF)))
    (hE : ∀ p o8 o9 S', Ext S0 S' → S' p = some (.lst ((L ++ colL w h d x h).map eF)) → E.nx (σ19 a p1 w h d (some (.loc p)) (some (.int (x : Nat))) o8 o9 none none none none none none none) S') :
    l_law_3 W E (σ19 a p1 w h d (some (.loc p)) (some (.int (x : Nat))) o8 o9 none none none none none none none) S := by
  unfold l_law_3
  refine dFor_inv (ds := (List.range h).map fun (i : Nat) => D.int (i : Int)) (G := fun _ => True) (S1 := S) (fun R hr => ?_)
    (fun rest σ S' => ∃ (m : Nat) (p : Addr) (o8 o9 : Option D), rest = ((List.range h).map fun (i : Nat) => D.int (i : Int)).drop m ∧ m ≤ h ∧ σ = σ19 a p1 w h d (some (.loc p)) (some (.int (x : Nat))) o8 o9 none none none none none none none ∧ Ext S0 S' ∧ S' p = some (.lst ((L ++ colL w h d x m).map eF)))
    ⟨0, p, o8, o9, rfl, by omega, rfl, he, by rw [g]; simp [colL]⟩ ?_ ?_
  · simp only [dRng1, dCons, dNil, dVar_succ, dVar_zero]
    exact ⟨⟨by omega, by omega⟩, by simpa using hr⟩
  · rintro σ S' ⟨m, p, o8, o9, q1, q2, rfl, q3, q4⟩
    have hm : m = h := by
      have := congrArg List.length q1
      simp at this
      omega
    subst hm
    exact ⟨trivial, hE p o8 o9 S' q3 q4⟩
  · rintro y rest σ S' ⟨m, p, o8, o9, q1, q2, rfl, q3, q4⟩
    refine ⟨trivial, fun N hN => ?_⟩
    have hm : m < h := by
      rcases Nat.lt_or_ge m h with k | k
      · exact k
      · rw [List.drop_eq_nil_of_le (by simp; omega)] at q1; cases q1
    have hdr : ((List.range h).map fun (i : Nat) => D.int (i : Int)).drop m = D.int (m : Int) :: ((List.range h).map fun (i : Nat) => D.int (i : Int)).drop (m + 1) := by
      rw [List.drop_eq_getElem_cons (by simp; omega)]
      simp
    rw [hdr, List.cons.injEq] at q1
    obtain ⟨rfl, rfl⟩ := q1
    have hcl := colL_len w h d x m
    -- behind the test
    have tail : ∀ e : Bool, e = isEdge w h ((x : Int), (m : Int)) → (dAsg (dOp rCatD (dVar 6) (dOp rRepD (dLst (dCons (dTup (dCons (dOp rCatD (dVar 7) (dVar 4)) (dCons (dOp rCatD (dVar 8) (dVar 5)) dNil))) dNil)) (dCB rInt1D (dCons (dVar 9) dNil)))) (gN 6)) { nx := N, rt := E.rt, bk := E.nx, ct := N } (σ19 a p1 w h d (some (.loc p)) (some (.int (x : Nat))) (some (.int (m : Nat))) (some (.bl e)) none none none none none none none) S' := fun e he => by
      simp only [dAsg, dOp, dLst, dTup, dCons, dNil, dCB, rInt1D, dVar_succ, dVar_zero]
      show ∀ p5, S' p5 = none → _
      intro p5 hp5
      have e5 := Ext.new (o := .lst [.tup [.int (((x : Nat) : Int) + d.1), .int (((m : Nat) : Int) + d.2)]]) hp5
      have g5 : put S' p5 (.lst [.tup [.int (((x : Nat) : Int) + d.1), .int (((m : Nat) : Int) + d.2)]]) p5 = some (.lst [.tup [.int (((x : Nat) : Int) + d.1), .int (((m : Nat) : Int) + d.2)]]) := put_same
      generalize put S' p5 (.lst [.tup [.int (((x : Nat) : Int) + d.1), .int (((m : Nat) : Int) + d.2)]]) = S5 at e5 g5
      simp only [rRepD, g5]
      have hk : (List.replicate ((if e = true then (1 : Int) else 0)).toNat [D.tup [.int (((x : Nat) : Int) + d.1), .int (((m : Nat) : Int) + d.2)]]).flatten = (if e = true then [tr d ((x : Int), (m : Int))] else []).map eF := by
        cases e <;> rfl
      refine ⟨by split <;> decide, by split <;> decide, by cases e <;> simp, fun p6 hp6 => ?_⟩
      rw [hk]
      have e6 := e5.trans (Ext.new (o := .lst ((if e = true then [tr d ((x : Int), (m : Int))] else []).map eF)) hp6)
      have g6 : put S5 p6 (.lst ((if e = true then [tr d ((x : Int), (m : Int))] else []).map eF)) p6 = some (.lst ((if e = true then [tr d ((x : Int), (m : Int))] else []).map eF)) := put_same
      generalize put S5 p6 (.lst ((if e = true then [tr d ((x : Int), (m : Int))] else []).map eF)) = S6 at e6 g6
      refine rCat_L (e6 _ _ q4) g6 ?_ fun p7 hp7 => ?_
      · rw [List.length_map, List.length_append]
        have : ((if e = true then [tr d ((x : Int), (m : Int))] else []).map eF).length ≤ 1 := by cases e <;> simp
        omega
      rw [← List.map_append, List.append_assoc, he, ← colL_succ]
      simp only [gN, List.set_cons_succ, List.set_cons_zero]
      exact hN _ _ ⟨m + 1, p7, _, _, rfl, by omega, rfl, q3.trans (e6.trans (Ext.new hp7)), put_same⟩
    simp only [gN, dSeq, dAsg, dOrV, dOp, dTup, dCons, dNil, dC, rI2, List.set_cons_succ, List.set_cons_zero, dVar_succ, dVar_zero]
    refine in_two ?_
    by_cases c1 : (decide (((x : Nat) : Int) = 0) || decide (((x : Nat) : Int) = ((w : Nat) : Int) - 1)) = true
    · rw [c1]
      simp only [dBool, if_true]
      refine tail true ?_
      unfold isEdge
      simp only [c1, Bool.true_or]
    · rw [Bool.not_eq_true] at c1
      rw [c1]
      simp only [dBool, Bool.false_eq_true, if_false]
      refine in_two ?_
      refine tail _ ?_
      unfold isEdge
      simp only [c1, Bool.false_or]
theorem loop4_19 {W : DWX} {S0 : Store} {a p1 p : Addr} {w h : Nat} {d : Fd} (hw : w ≤ 4) (hh : h ≤ 4) {E : DEnds} {S : Store} (he : Ext S0 S) (g : S p = some (.lst []))
    (hE : ∀ p o7 o8 o9 S', Ext S0 S' → S' p = some (.lst (((rg w h).map (tr d)).map eF)) → E.nx (σ19 a p1 w h d (some (.loc p)) o7 o8 o9 none none none none none none none) S') :
    l_law_4 W E (σ19 a p1 w h d (some (.loc p)) none none none none none none none none none none) S := by
  unfold l_law_4
  refine dFor_inv (ds := (List.range w).map fun (i : Nat) => D.int (i : Int)) (G := fun _ => True) (S1 := S) (fun R hr => ?_)
    (fun rest σ S' => ∃ (m : Nat) (p : Addr) (o7 o8 o9 : Option D), rest = ((List.range w).map fun (i : Nat) => D.int (i : Int)).drop m ∧ m ≤ w ∧ σ = σ19 a p1 w h d (some (.loc p)) o7 o8 o9 none none none none none none none ∧ Ext S0 S' ∧ S' p = some (.lst ((((rectL m h).filter (isEdge w h)).map (tr d)).map eF)))
    ⟨0, p, none, none, none, rfl, by omega, rfl, he, by rw [g]; rfl⟩ ?_ ?_
  · simp only [dRng1, dCons, dNil, dVar_succ, dVar_zero]
    exact ⟨⟨by omega, by omega⟩, by simpa using hr⟩
  · rintro σ S' ⟨m, p, o7, o8, o9, q1, q2, rfl, q3, q4⟩
    have hm : m = w := by
      have := congrArg List.length q1
      simp at this
      omega
    subst hm
    exact ⟨trivial, hE p o7 o8 o9 S' q3 q4⟩
  · rintro y rest σ S' ⟨m, p, o7, o8, o9, q1, q2, rfl, q3, q4⟩
    refine ⟨trivial, fun N hN => ?_⟩
    have hm : m < w := by
      rcases Nat.lt_or_ge m w with k | k
      · exact k
      · rw [List.drop_eq_nil_of_le (by simp; omega)] at q1; cases q1
    have hdr : ((List.range w).map fun (i : Nat) => D.int (i : Int)).drop m = D.int (m : Int) :: ((List.range w).map fun (i : Nat) => D.int (i : Int)).drop (m + 1) := by
      rw [List.drop_eq_getElem_cons (by simp; omega)]
      simp
    rw [hdr, List.cons.injEq] at q1
    obtain ⟨rfl, rfl⟩ := q1
    simp only [gN, List.set_cons_succ, List.set_cons_zero]
    have hl : (((rectL m h).filter (isEdge w h)).map (tr d)).length ≤ 100 := by
      rw [List.length_map]
      refine Nat.le_trans (List.length_filter_le _ _) ?_
      rw [rectL_len]
      have : m * h ≤ 4 * 4 := Nat.mul_le_mul (by omega) hh
      omega
    refine loop3_19 (S0 := S0) hh hl q3 q4 fun p8 o8 o9 S8 e8 g8 => ?_
    refine hN _ _ ⟨m + 1, p8, _, o8, o9, rfl, by omega, rfl, e8, ?_⟩
    rw [g8, rectL_succ, List.filter_append, List.map_append (f := tr d)]
    rfl
/-! ### the ring's tears -/
theorem ring_part {fs : List Fd} (R : Ring fs) : parts fs (hang fs []) = [fs] ∧ holesL fs [] = [1] := by
  have V := R.valid
  have hne : fs ≠ [] := fun z => by have := R.pos; rw [z] at this; simp at this
  have h1 : parts fs (hang fs []) = [fs] := parts_one R.ris hne (valid_pc V).con
  refine ⟨h1, ?_⟩
  unfold holesL
  rw [h1, List.map_cons, List.map_nil, inn_all (valid_pc V).inn, hang_nil, R.meas]
  rfl
theorem ring_torn {fs : List Fd} (R : Ring fs) {t : List Bd} (ht : t ∈ tearsOf (hang fs []) (bordersOf fs)) :
    ∃ b, b ∈ bordersOf fs ∧ t = [b] ∧ tearAt (hang fs []) (bordersOf fs) b = some [b] ∧ TornOk (bordersOf fs) (tear1 [] [b]) ∧ hang fs (tear1 [] [b]) = less (bordersOf fs) [b] ∧ parts fs (less (bordersOf fs) [b]) = [fs] ∧ holesL fs (tear1 [] [b]) = [0] := by
  have V := R.valid
  have hne : fs ≠ [] := fun z => by have := R.pos; rw [z] at this; simp at this
  obtain ⟨c, hc, e, hp⟩ := (tears_mem (V.inR [])).mp ht
  have hc' := hc
  rw [hang_nil] at hc' e
  rw [R.tear hc'] at e
  subst e
  obtain ⟨T, hh⟩ := torn_step V (torn_nil _) ht
  rw [hang_nil] at hh
  have h1 : parts fs (less (bordersOf fs) [c]) = [fs] := parts_one R.ris hne (R.con c hc')
  refine ⟨c, hc', rfl, ?_, T, hh, h1, ?_⟩
  · unfold tearAt
    rw [if_pos hc, hang_nil, R.tear hc', if_pos]
    simp [hc']
  · unfold holesL
    have hin : InF fs (less (bordersOf fs) [c]) := fun b hb => mem_bordersOf.mp (less_sub b hb)
    have hm := meas_less (fs := fs) (V.inR []) (hang_ris V.fris.nodup).nodup hc
    rw [hang_nil, R.tear hc', R.meas] at hm
    rw [hh, h1, List.map_cons, List.map_nil, inn_all hin, hm]
    rfl
theorem ring_end {fs : List Fd} (R : Ring fs) {tn : List Bd} {n : Nat} (T : TornOk (bordersOf fs) tn) (s : Steps (bordersOf fs) n (hang fs []) (hang fs tn)) (e : tearsOf (hang fs tn) (bordersOf fs) = []) :
    tn = bordersOf fs ∧ n = fs.length ∧ hang fs tn = [] := by
  have V := R.valid
  have h0 : hang fs tn = [] := end_all (V.inR tn) (fun b hb => (mem_hang.mp hb).1) e
  have h1 := torn_of V T
  rw [h0] at h1
  have hm := s.meas (fs := fs) (V.inR []) (hang_ris V.fris.nodup)
  rw [h0, meas_nil, hang_nil, R.meas] at hm
  refine ⟨?_, by omega, h0⟩
  rw [← h1, List.filter_eq_self]
  simp
theorem ring_LN {fs : List Fd} (R : Ring fs) : LN (bordersOf fs) (hang fs []) = fs.length := by
  have V := R.valid
  obtain ⟨a, b, c, d⟩ := end_torn_ok V (torn_nil _)
  exact (ring_end R a d c).2.1
theorem ring_few {fs : List Fd} (R : Ring fs) : halv fs.length + 1 ≤ Few (bordersOf fs) fs (hang fs []) := by
  have V := R.valid
  have P := valid_pc V
  have hne : tearsOf (hang fs []) (bordersOf fs) ≠ [] := fun z => by
    have := ring_LN R
    rw [LN_nil z] at this
    have := R.pos
    omega
  obtain ⟨t, ht, e⟩ := Few_at (fs := fs) P.inR P.hris hne
  obtain ⟨b, hb, rfl, _, T, hh, h1, _⟩ := ring_torn R ht
  have hlh : less (hang fs []) [b] = less (bordersOf fs) [b] := by rw [hang_nil]
  have P' := P.behind (t := [b]) (p := fs) (by rw [hlh, h1]; simp)
  have hin : InF fs (less (bordersOf fs) [b]) := fun b hb => mem_bordersOf.mp (less_sub b hb)
  rw [e]
  unfold fewT
  rw [hlh] at P' ⊢
  rw [h1, inn_all hin] at *
  rw [List.map_cons, List.map_nil, inn_all hin] at *
  have hpow := Few_pow (pk := bordersOf fs) _ fs _ (Nat.le_refl _) P'
  have hend := (LN_steps (pk := bordersOf fs) P'.inR P'.hris).2
  have h0 : endOf (bordersOf fs) (less (bordersOf fs) [b]) = [] := end_all (fun x hx => P'.inR x (end_sub P'.inR P'.hris x hx)) (fun x hx => less_sub x (end_sub P'.inR P'.hris x hx)) hend
  rw [h0, parts_nil_len R.ris] at hpow
  have := halv_le _ _ hpow
  rw [mx_cons]
  omega
theorem ne_ints {p p' : Addr} {l : List Int} {S : Store} {Q : DQ} (h1 : S p = some (.lst (l.map D.int))) (h2 : S p' = some (.lst (l.map D.int))) (q : Q (.bl false) S) : rNeD (.loc p) (.loc p') S Q :=
  ne_LL h1 h2 (by rw [List.all_map, List.all_eq_true]; intros; rfl) q
theorem ring_loop {W : DWX} {S0 : Store} {a p1 : Addr} {w h : Nat} {d : Fd} {fs : List Fd} {o7 o8 o9 : Option D} (R : Ring fs) {E : DEnds} {S : Store} (he : Ext S0 S)
    (hE : ∀ o11 o12 S', Ext S0 S' → E.nx (σ19 a p1 w h d (some (.tup (fs.map eF))) o7 o8 o9 (some (eS fs (bordersOf fs))) o11 o12 none none none none) S') :
    l_law_2 W E (σ19 a p1 w h d (some (.tup (fs.map eF))) o7 o8 o9 (some (eS fs (bordersOf fs))) none none none none none none) S := by
  have V := R.valid
  unfold l_law_2
  simp only [dFor, dIter, dCall, dCons, dNil, dTup, dVar_succ, dVar_zero]
  refine ⟨_, ⟨fs, bordersOf fs, [], rfl, V, torn_nil _, rfl⟩, fun S3 p3 e3 hp3 h3 => ?_⟩
  simp only [h3]
  refine forL_inv (fun rest σ S' => ∃ (ts : List (List Bd)) (o11 o12 : Option D), rest = ts.map eT ∧ (∀ t ∈ ts, t ∈ tearsOf (hang fs []) (bordersOf fs)) ∧ σ = σ19 a p1 w h d (some (.tup (fs.map eF))) o7 o8 o9 (some (eS fs (bordersOf fs))) o11 o12 none none none none ∧ Ext S3 S')
    ?_ ?_ _ _ _ ⟨tearsOf (hang fs []) (bordersOf fs), none, none, rfl, fun t ht => ht, rfl, Ext.refl _⟩
  · rintro σ S' ⟨ts, o11, o12, q1, q2, rfl, q3⟩
    exact ⟨q3 _ _ h3, hE _ _ S' (he.trans (e3.trans q3))⟩
  · rintro x rest σ S' ⟨ts, o11, o12, q1, q2, rfl, q3⟩
    refine ⟨q3 _ _ h3, fun N hN => ?_⟩
    cases ts with
    | nil => simp at q1
    | cons t ts =>
      simp only [List.map_cons, List.cons.injEq] at q1
      obtain ⟨rfl, rfl⟩ := q1
      obtain ⟨b, hb, rfl, hat, T, hh, h1, h2⟩ := ring_torn R (q2 t (by simp))
      simp only [gN, dSeq, dAsg, dOp, dC, dCall, dCons, dNil, dTup, List.set_cons_succ, List.set_cons_zero, dVar_succ, dVar_zero]
      show rIxD (.tup [eB b]) (.int 0) S' _
      have hix : ∀ Q : DQ, Q (eB b) S' → rIxD (.tup [eB b]) (.int 0) S' Q := fun Q q => by
        simp only [rIxD, atK]
        rw [atI_nn (by decide)]
        exact q
      refine hix _ ?_
      refine ⟨fs, bordersOf fs, [], b, rfl, V, torn_nil _, hb, fun t' S4 ht' e4 => ?_, fun S4 dx ht' _ _ => by rw [hat] at ht'; cases ht'⟩
      rw [hat] at ht'
      cases ht'
      simp only [gN, dIfS, dOr, dB, dOp, dC, dCB, dCall, dCons, dNil, dLst, List.set_cons_succ, List.set_cons_zero, dVar_succ, dVar_zero]
      show rLenD [.tup [eB b]] S4 _
      simp only [rLenD]
      refine ne_II rfl ?_
      simp only [dBool, Bool.false_eq_true, if_false]
      refine ⟨_, ⟨fs, bordersOf fs, tear1 [] [b], rfl, V, T, rfl⟩, fun S5 p5 e5 hp5 h5 => ?_⟩
      rw [hh, h1] at h5
      intro p6 hp6
      refine ne_LL (ds := [eL fs]) (Ext.new hp6 _ _ h5) put_same (pl_Ls 6 [fs]) ?_
      simp only [dBool, Bool.false_eq_true, if_false]
      have e6 := e5.trans (Ext.new (o := .lst [.tup (fs.map eF)]) hp6)
      generalize put S5 p6 (.lst [.tup (fs.map eF)]) = S6 at e6
      refine ⟨_, ⟨fs, bordersOf fs, tear1 [] [b], rfl, V, T, rfl⟩, fun S7 p7 e7 hp7 h7 => ?_⟩
      rw [h2] at h7
      intro p8 hp8
      refine ne_ints (l := [0]) (Ext.new hp8 _ _ h7) put_same ?_
      simp only [dBool, Bool.false_eq_true, if_false, dNext]
      exact hN _ _ ⟨ts, _, _, rfl, fun t ht => q2 t (List.mem_cons_of_mem _ ht), rfl, q3.trans (e4.trans (e6.trans (e7.trans (Ext.new hp8))))⟩
theorem mod_at {dr : List Int} (h : Draws dr) {i m : Int} (h0 : 0 ≤ i) (h1 : i < 60) (hm : 0 < m) {p : Addr} {S : Store} (hp : S p = some (.lst (dr.map D.int))) {Q : DQ} (q : ∀ c : Int, 0 ≤ c → c < m → Q (.int c) S) : rIxD (.loc p) (.int i) S fun x S1 => rModI x (.int m) S1 Q := by
  obtain ⟨c, hc, c0, c1⟩ := draw_at h h0 h1
  simp only [rIxD, hp, atK, hc, optK, rModI]
  exact ⟨hm, q _ (Int.emod_nonneg _ (by omega)) (Int.emod_lt_of_pos _ hm)⟩
theorem rd_law : Rd n_law t_law sp_law := fun {args S Q Ed} h => by
  obtain ⟨a, ns, rfl, ha, hQ⟩ := h
  simp only [t_law, n_law, dSeq, dAsg, dCall, dCons, dNil, dC, dstart, List.map_cons, List.map_nil, List.length_cons, List.length_nil, List.cons_append, List.nil_append, List.replicate, dVar_succ, dVar_zero]
  refine ⟨a, ns, 2, rfl, ha, by decide, fun dr S1 p1 hdr e1 hp1 h1 => ?_⟩
  simp only [gN, dSeq, dPar, dOp, dC, dCons, dNil, List.set_cons_succ, List.set_cons_zero, dVar_succ, dVar_zero]
  refine mod_at hdr (by decide) (by decide) (by decide) h1 fun w0 w1 w2 => ?_
  simp only [rCatD]
  refine mod_at hdr (by decide) (by decide) (by decide) h1 fun h0 h01 h02 => ?_
  simp only [rCatD, dSeq, dPar, dOp, dC, dCons, dNil, List.set_cons_succ, List.set_cons_zero, dVar_succ, dVar_zero]
  refine mod_at hdr (by decide) (by decide) (by decide) h1 fun a0 a01 a02 => ?_
  refine mod_at hdr (by decide) (by decide) (by decide) h1 fun b0 b01 b02 => ?_
  obtain ⟨w, hw, ew⟩ : ∃ w : Nat, w ∈ [3, 4] ∧ (3 : Int) + w0 = (w : Nat) := by
    rcases (show w0 = 0 ∨ w0 = 1 by omega) with rfl | rfl
    · exact ⟨3, by simp, rfl⟩
    · exact ⟨4, by simp, rfl⟩
  obtain ⟨h, hh, eh⟩ : ∃ h : Nat, h ∈ [3, 4] ∧ (3 : Int) + h0 = (h : Nat) := by
    rcases (show h0 = 0 ∨ h0 = 1 by omega) with rfl | rfl
    · exact ⟨3, by simp, rfl⟩
    · exact ⟨4, by simp, rfl⟩
  rw [ew, eh]
  have hw4 : w ≤ 4 := by rcases List.mem_cons.mp hw with rfl | hw; omega; simp at hw; omega
  have hh4 : h ≤ 4 := by rcases List.mem_cons.mp hh with rfl | hh; omega; simp at hh; omega
  have R := ring_of hw hh (d := (a0, b0)) ⟨⟨a01, by omega⟩, b01, by omega⟩
  simp only [dSeq, dAsg, dLst, dNil, gN, List.set_cons_succ, List.set_cons_zero]
  intro p2 hp2
  refine loop4_19 (d := (a0, b0)) (S0 := S) hw4 hh4 (e1.trans (Ext.new hp2)) put_same fun p3 o7 o8 o9 S3 e3 g3 => ?_
  simp only [dSeq, dAsg, dCB, dCons, dNil, dVar_succ, dVar_zero, rSortD, g3]
  refine ⟨sort_F _, fun p4 hp4 => ?_⟩
  rw [dsort_map]
  generalize hfs : srt eF ((rg w h).map (tr (a0, b0))) = fs at R
  have V := R.valid
  have P := valid_pc V
  have hfew := R.few
  have hpos := R.pos
  have e4 := e3.trans (Ext.new (o := .lst (fs.map eF)) hp4)
  have g4 : put S3 p4 (.lst (fs.map eF)) p4 = some (.lst (fs.map eF)) := put_same
  generalize put S3 p4 (.lst (fs.map eF)) = S4 at e4 g4
  simp only [rTupD, g4, gN, dSeq, dAsg, dTup, dCB, dCall, dCons, dNil, List.set_cons_succ, List.set_cons_zero, dVar_succ, dVar_zero]
  refine ⟨_, ⟨fs, rfl, by omega, rfl⟩, fun S5 p5 e5 hp5 h5 => ?_⟩
  simp only [rTupD, h5, gN, List.set_cons_succ, List.set_cons_zero]
  show dIfS _ _ _ _ (σ19 a p1 w h (a0, b0) (some (.tup (fs.map eF))) o7 o8 o9 (some (eS fs (bordersOf fs))) none none none none none none) S5
  simp only [dSeq, dIfS, dOr, dB, dOp, dC, dCB, dCall, dCons, dNil, dTup, dLst, dVar_succ, dVar_zero]
  refine ⟨_, ⟨fs, bordersOf fs, [], rfl, V, torn_nil _, rfl⟩, fun S6 p6 e6 hp6 h6 => ?_⟩
  rw [(ring_part R).2] at h6
  intro p7 hp7
  refine ne_ints (l := [1]) (Ext.new hp7 _ _ h6) put_same ?_
  simp only [dBool, Bool.false_eq_true, if_false]
  have e7 := e6.trans (Ext.new (o := .lst [.int 1]) hp7)
  generalize put S6 p7 (.lst [.int 1]) = S7 at e7
  refine ⟨_, ⟨fs, bordersOf fs, [], rfl, V, torn_nil _, rfl⟩, fun S8 e8 => ?_⟩
  refine ne_II (by rw [hang_nil, R.meas]) ?_
  simp only [dBool, Bool.false_eq_true, if_false]
  refine ⟨_, ⟨fs, bordersOf fs, [], rfl, V, torn_nil _, rfl⟩, fun S9 e9 => ?_⟩
  simp only [rLenD, List.length_map]
  refine ne_II (by rw [left_LN V (torn_nil _), ring_LN R]) ?_
  simp only [dBool, Bool.false_eq_true, if_false, dNext]
  refine ring_loop (S0 := S) R (e4.trans (e5.trans (e7.trans (e8.trans e9)))) fun o11 o12 S10 e10 => ?_
  simp only [dSeq, dAsg, dC, dCall, dCons, dNil, dTup, dVar_succ, dVar_zero]
  refine ⟨a, ns, 3, rfl, e10 _ _ ha, by decide, fun dr2 S11 p11 hdr2 e11 hp11 h11 => ?_⟩
  refine ⟨fs, bordersOf fs, [], p11, dr2, rfl, h11, hdr2, V, torn_nil _, fun tn n S12 T s hend e12 => ?_⟩
  obtain ⟨rfl, rfl, h0⟩ := ring_end R T s hend
  refine ⟨rfl, ?_⟩
  simp only [gsCons, gsNil, gN, dSeq, dIfS, dOr, dB, dOp, dC, dCB, dCall, dCons, dNil, List.set_cons_succ, List.set_cons_zero, dVar_succ, dVar_zero]
  simp only [rLenD, List.length_map]
  refine ne_II rfl ?_
  simp only [dBool, Bool.false_eq_true, if_false]
  have hix1 : ∀ S Q, Q (.tup ((bordersOf fs).map eB)) S → rIxD (eS fs (bordersOf fs)) (.int 1) S Q := fun S Q q => by simp [rIxD, eS, at1]; exact q
  refine hix1 _ _ ?_
  refine ne_TT (a := bordersOf fs) (b := bordersOf fs) rfl ?_
  simp only [dBool, Bool.false_eq_true, if_false]
  refine ⟨_, ⟨fs, bordersOf fs, rfl, V, rfl⟩, fun S13 p13 e13 hp13 h13 => ?_⟩
  obtain ⟨Td, _, ed, sd⟩ := end_torn_ok V (torn_nil _)
  rw [(ring_end R Td sd ed).2.2] at h13
  simp only [rLenD, h13, List.length_map, parts_nil_len R.ris]
  refine ne_II rfl ?_
  simp only [dBool, Bool.false_eq_true, if_false, dNext, dSeq, dAsg, dC, gN, dCB, dCons, dNil, List.set_cons_succ, List.set_cons_zero, dVar_succ, dVar_zero, rLenD, List.length_map]
  unfold l_law_1
  refine halve_loop (i := 16) (j := 15) (by decide) fs.length 0 _ (by simp) (by simp) (by rfl) (by rfl) fun m => ?_
  simp only [dRet, dAndV, dOp, dC, dCall, dCons, dNil, List.set_cons_succ, List.set_cons_zero, dVar_succ, dVar_zero]
  refine ⟨_, ⟨fs, bordersOf fs, rfl, V, ⟨UAll fs (hang fs []), univ_all V.fris (by omega) (by rw [hang_nil, R.len]; omega), P, List.Sublist.refl _, fun f hf => hf⟩, rfl⟩, fun S14 e14 => ?_⟩
  have hf := ring_few R
  have hge : ((0 + halv fs.length : Nat) : Int) + 1 ≤ ((Few (bordersOf fs) fs (hang fs []) : Nat) : Int) := by omega
  simp only [rCatD, rI2, decide_eq_true hge, dBool, if_true, dOp, dCall, dCons, dNil, dVar_succ, dVar_zero]
  refine ⟨_, ⟨fs, bordersOf fs, rfl, V, rfl⟩, fun S15 e15 => ?_⟩
  rw [ring_LN R]
  simp only [dIf, dB, dOp, dC, dCB, dCons, dNil, dVar_succ, dVar_zero, rLenD, List.length_map, rModI]
  refine ⟨by decide, ?_⟩
  refine eqI ?_
  unfold winN
  by_cases hm : ((fs.length : Nat) : Int) % 2 = 1
  · rw [decide_eq_true hm, if_pos hm]
    exact eq_II rfl (hQ S15)
  · rw [decide_eq_false hm, if_neg hm]
    exact eq_II rfl (hQ S15)
end DL

set_option maxHeartbeats 0
namespace Hd
open PySem PySem.Spec PyProof.Rows L2
def top (i : Nat) : Stmt := PySem.Challenge.pw_tornsheets_k19_whole_a_ring_is_opened.main.body.getD i (.Pass ⟨0, 0, 0, 0⟩)
abbrev s_is_within : Stmt := top 9
abbrev s_is_field : Stmt := top 10
abbrev s_is_border : Stmt := top 11
abbrev s_fields_at : Stmt := top 12
abbrev s_rises : Stmt := top 13
abbrev s_borders_of : Stmt := top 14
abbrev s_parts_of : Stmt := top 15
abbrev s_lot_from : Stmt := top 16
abbrev s_is_sheet : Stmt := top 17
abbrev s_look : Stmt := top 18
abbrev s_is_torn : Stmt := top 19
abbrev s_look_torn : Stmt := top 20
abbrev s_look_border : Stmt := top 21
abbrev s_hanging_of : Stmt := top 23
abbrev s_around : Stmt := top 24
abbrev s_is_whole_corner : Stmt := top 25
abbrev s_corners_at : Stmt := top 26
abbrev s_next_to : Stmt := top 27
abbrev s_run_of : Stmt := top 28
abbrev s_tear_at : Stmt := top 29
abbrev s_tears_of : Stmt := top 30
abbrev s_pricks_of : Stmt := top 31
abbrev s_tears : Stmt := top 32
abbrev s_torn_by : Stmt := top 33
abbrev s_corners_of : Stmt := top 34
abbrev s_measure_of : Stmt := top 35
abbrev s_measure : Stmt := top 36
abbrev s_pieces_of : Stmt := top 38
abbrev s_pieces : Stmt := top 39
abbrev s_within : Stmt := top 40
abbrev s_holes : Stmt := top 41
abbrev s_first_row : Stmt := top 43
abbrev s_end_torn : Stmt := top 44
abbrev s_end_pieces : Stmt := top 45
abbrev s_left_of : Stmt := top 46
abbrev s_left : Stmt := top 47
abbrev s_winner : Stmt := top 48
abbrev s_behind : Stmt := top 50
abbrev s_key_of : Stmt := top 51
abbrev s_fewest_of : Stmt := top 52
abbrev s_goes : Stmt := top 53
abbrev s__law_cell : Stmt := top 55
abbrev s__law_row : Stmt := top 56
abbrev s__law_inner : Stmt := top 57
abbrev s__law_hang : Stmt := top 58
abbrev s__law_full : Stmt := top 59
abbrev s__law_tear : Stmt := top 60
abbrev s__law_tears : Stmt := top 61
abbrev s__law_end : Stmt := top 62
abbrev s_law : Stmt := top 63
def d_is_within : He.DefD := ⟨("is_within", none), "is_within", "is_within", defArgs s_is_within, defBody s_is_within, defScope s_is_within, [], []⟩
def d_is_field : He.DefD := ⟨("is_field", none), "is_field", "is_field", defArgs s_is_field, defBody s_is_field, defScope s_is_field, [], []⟩
def d_is_border : He.DefD := ⟨("is_border", none), "is_border", "is_border", defArgs s_is_border, defBody s_is_border, defScope s_is_border, [], []⟩
def d_fields_at : He.DefD := ⟨("fields_at", none), "fields_at", "fields_at", defArgs s_fields_at, defBody s_fields_at, defScope s_fields_at, [], []⟩
def d_rises : He.DefD := ⟨("rises", none), "rises", "rises", defArgs s_rises, defBody s_rises, defScope s_rises, [], []⟩
def d_borders_of : He.DefD := ⟨("borders_of", none), "borders_of", "borders_of", defArgs s_borders_of, defBody s_borders_of, defScope s_borders_of, [], []⟩
def d_parts_of : He.DefD := ⟨("parts_of", none), "parts_of", "parts_of", defArgs s_parts_of, defBody s_parts_of, defScope s_parts_of, [], []⟩
def d_lot_from : He.DefD := ⟨("lot_from", none), "lot_from", "lot_from", defArgs s_lot_from, defBody s_lot_from, defScope s_lot_from, [], []⟩
def d_is_sheet : He.DefD := ⟨("is_sheet", none), "is_sheet", "is_sheet", defArgs s_is_sheet, defBody s_is_sheet, defScope s_is_sheet, [], []⟩
def d_look : He.DefD := ⟨("look", none), "look", "look", defArgs s_look, defBody s_look, defScope s_look, [], []⟩
def d_is_torn : He.DefD := ⟨("is_torn", none), "is_torn", "is_torn", defArgs s_is_torn, defBody s_is_torn, defScope s_is_torn, [], []⟩
def d_look_torn : He.DefD := ⟨("look_torn", none), "look_torn", "look_torn", defArgs s_look_torn, defBody s_look_torn, defScope s_look_torn, [], []⟩
def d_look_border : He.DefD := ⟨("look_border", none), "look_border", "look_border", defArgs s_look_border, defBody s_look_border, defScope s_look_border, [], []⟩
def d_hanging_of : He.DefD := ⟨("hanging_of", none), "hanging_of", "hanging_of", defArgs s_hanging_of, defBody s_hanging_of, defScope s_hanging_of, [], []⟩
def d_around : He.DefD := ⟨("around", none), "around", "around", defArgs s_around, defBody s_around, defScope s_around, [], []⟩
def d_is_whole_corner : He.DefD := ⟨("is_whole_corner", none), "is_whole_corner", "is_whole_corner", defArgs s_is_whole_corner, defBody s_is_whole_corner, defScope s_is_whole_corner, [], []⟩
def d_corners_at : He.DefD := ⟨("corners_at", none), "corners_at", "corners_at", defArgs s_corners_at, defBody s_corners_at, defScope s_corners_at, [], []⟩
def d_next_to : He.DefD := ⟨("next_to", none), "next_to", "next_to", defArgs s_next_to, defBody s_next_to, defScope s_next_to, [], []⟩
def d_run_of : He.DefD := ⟨("run_of", none), "run_of", "run_of", defArgs s_run_of, defBody s_run_of, defScope s_run_of, [], []⟩
def d_tear_at : He.DefD := ⟨("tear_at", none), "tear_at", "tear_at", defArgs s_tear_at, defBody s_tear_at, defScope s_tear_at, [], []⟩
def d_tears_of : He.DefD := ⟨("tears_of", none), "tears_of", "tears_of", defArgs s_tears_of, defBody s_tears_of, defScope s_tears_of, [], []⟩
def d_pricks_of : He.DefD := ⟨("pricks_of", none), "pricks_of", "pricks_of", defArgs s_pricks_of, defBody s_pricks_of, defScope s_pricks_of, [], []⟩
def d_tears : He.DefD := ⟨("tears", none), "tears", "tears", defArgs s_tears, defBody s_tears, defScope s_tears, [], []⟩
def d_torn_by : He.DefD := ⟨("torn_by", none), "torn_by", "torn_by", defArgs s_torn_by, defBody s_torn_by, defScope s_torn_by, [], []⟩
def d_corners_of : He.DefD := ⟨("corners_of", none), "corners_of", "corners_of", defArgs s_corners_of, defBody s_corners_of, defScope s_corners_of, [], []⟩
def d_measure_of : He.DefD := ⟨("measure_of", none), "measure_of", "measure_of", defArgs s_measure_of, defBody s_measure_of, defScope s_measure_of, [], []⟩
def d_measure : He.DefD := ⟨("measure", none), "measure", "measure", defArgs s_measure, defBody s_measure, defScope s_measure, [], []⟩
def d_pieces_of : He.DefD := ⟨("pieces_of", none), "pieces_of", "pieces_of", defArgs s_pieces_of, defBody s_pieces_of, defScope s_pieces_of, [], []⟩
def d_pieces : He.DefD := ⟨("pieces", none), "pieces", "pieces", defArgs s_pieces, defBody s_pieces, defScope s_pieces, [], []⟩
def d_within : He.DefD := ⟨("within", none), "within", "within", defArgs s_within, defBody s_within, defScope s_within, [], []⟩
def d_holes : He.DefD := ⟨("holes", none), "holes", "holes", defArgs s_holes, defBody s_holes, defScope s_holes, [], []⟩
def d_first_row : He.DefD := ⟨("first_row", none), "first_row", "first_row", defArgs s_first_row, defBody s_first_row, defScope s_first_row, [], []⟩
def d_end_torn : He.DefD := ⟨("end_torn", none), "end_torn", "end_torn", defArgs s_end_torn, defBody s_end_torn, defScope s_end_torn, [], []⟩
def d_end_pieces : He.DefD := ⟨("end_pieces", none), "end_pieces", "end_pieces", defArgs s_end_pieces, defBody s_end_pieces, defScope s_end_pieces, [], []⟩
def d_left_of : He.DefD := ⟨("left_of", none), "left_of", "left_of", defArgs s_left_of, defBody s_left_of, defScope s_left_of, [], []⟩
def d_left : He.DefD := ⟨("left", none), "left", "left", defArgs s_left, defBody s_left, defScope s_left, [], []⟩
def d_winner : He.DefD := ⟨("winner", none), "winner", "winner", defArgs s_winner, defBody s_winner, defScope s_winner, [], []⟩
def d_behind : He.DefD := ⟨("behind", none), "behind", "behind", defArgs s_behind, defBody s_behind, defScope s_behind, [], []⟩
def d_key_of : He.DefD := ⟨("key_of", none), "key_of", "key_of", defArgs s_key_of, defBody s_key_of, defScope s_key_of, [], []⟩
def d_fewest_of : He.DefD := ⟨("fewest_of", none), "fewest_of", "fewest_of", defArgs s_fewest_of, defBody s_fewest_of, defScope s_fewest_of, [], []⟩
def d_goes : He.DefD := ⟨("goes", none), "goes", "goes", defArgs s_goes, defBody s_goes, defScope s_goes, [], []⟩
def d__law_cell : He.DefD := ⟨("_law_cell", none), "_law_cell", "_law_cell", defArgs s__law_cell, defBody s__law_cell, defScope s__law_cell, [], []⟩
def d__law_row : He.DefD := ⟨("_law_row", none), "_law_row", "_law_row", defArgs s__law_row, defBody s__law_row, defScope s__law_row, [], []⟩
def d__law_inner : He.DefD := ⟨("_law_inner", none), "_law_inner", "_law_inner", defArgs s__law_inner, defBody s__law_inner, defScope s__law_inner, [], []⟩
def d__law_hang : He.DefD := ⟨("_law_hang", none), "_law_hang", "_law_hang", defArgs s__law_hang, defBody s__law_hang, defScope s__law_hang, [], []⟩
def d__law_full : He.DefD := ⟨("_law_full", none), "_law_full", "_law_full", defArgs s__law_full, defBody s__law_full, defScope s__law_full, [], []⟩
def d__law_tear : He.DefD := ⟨("_law_tear", none), "_law_tear", "_law_tear", defArgs s__law_tear, defBody s__law_tear, defScope s__law_tear, [], []⟩
def d__law_tears : He.DefD := ⟨("_law_tears", none), "_law_tears", "_law_tears", defArgs s__law_tears, defBody s__law_tears, defScope s__law_tears, [], []⟩
def d__law_end : He.DefD := ⟨("_law_end", none), "_law_end", "_law_end", defArgs s__law_end, defBody s__law_end, defScope s__law_end, [], []⟩
def d_law : He.DefD := ⟨("law", none), "law", "law", defArgs s_law, defBody s_law, defScope s_law, [], []⟩
def clsBody : Stmt → List Stmt
  | .ClassDef _ _ _ b _ _ _ _ _ _ _ => b
  | _ => []
abbrev s_NoTear_init : Stmt := (clsBody (top 2)).getD 0 (.Pass ⟨0, 0, 0, 0⟩)
def d_NoTear_init : He.DefD := ⟨("NoTear", some "__init__"), "__init__", "NoTear.__init__", defArgs s_NoTear_init, defBody s_NoTear_init, defScope s_NoTear_init, [], []⟩
def fn : List He.DefD := ([d_is_within, d_is_field, d_is_border, d_fields_at, d_rises, d_borders_of, d_parts_of, d_lot_from, d_is_sheet, d_look, d_is_torn, d_look_torn, d_look_border, d_hanging_of, d_around, d_is_whole_corner, d_corners_at, d_next_to, d_run_of, d_tear_at, d_tears_of, d_pricks_of, d_tears, d_torn_by, d_corners_of, d_measure_of, d_measure, d_pieces_of, d_pieces, d_within] : List He.DefD) ++ ([d_holes, d_first_row, d_end_torn, d_end_pieces, d_left_of, d_left, d_winner, d_behind, d_key_of, d_fewest_of, d_goes, d__law_cell, d__law_row, d__law_inner, d__law_hang, d__law_full, d__law_tear, d__law_tears, d__law_end, d_law, d_NoTear_init] : List He.DefD)
def fa : List He.Fa := ([.glo "is_within", .glo "is_field", .glo "is_border", .glo "fields_at", .glo "rises", .glo "borders_of", .glo "parts_of", .glo "lot_from", .glo "is_sheet", .glo "look", .glo "is_torn", .glo "look_torn", .glo "look_border", .glo "hanging_of", .glo "around", .glo "is_whole_corner", .glo "corners_at", .glo "next_to", .glo "run_of", .glo "tear_at", .glo "tears_of", .glo "pricks_of", .glo "tears", .glo "torn_by", .glo "corners_of", .glo "measure_of", .glo "measure", .glo "pieces_of", .glo "pieces", .glo "within"] : List He.Fa) ++ ([.glo "holes", .glo "first_row", .glo "end_torn", .glo "end_pieces", .glo "left_of", .glo "left", .glo "winner", .glo "behind", .glo "key_of", .glo "fewest_of", .glo "goes", .glo "_law_cell", .glo "_law_row", .glo "_law_inner", .glo "_law_hang", .glo "_law_full", .glo "_law_tear", .glo "_law_tears", .glo "_law_end", .glo "law", .int "MOST_SIDE" 7, .int "MOST_FIELDS" 16, .free "len", .free "range", .free "sorted", .free "tuple", .free "list", .free "isinstance", .free "zip", .free "max"] : List He.Fa) ++ ([.free "min", .free "int", .free "bool", .free "str", .free "ValueError", .glo "TornError", .glo "NoTear", .glo "BadSheet", .glo "BadTorn", .glo "BadBorder", .exc "TornError", .exc "BadSheet", .exc "BadTorn", .exc "BadBorder"] : List He.Fa)
abbrev R : PySem.W.OpenRow := PySem.W.OpenLaw.row PySem.Challenge.rw_tornsheets_k19_whole_a_ring_is_opened
def noL (K : PySem.W.Frag) : Bool := K.all fun p => match p.2.cls with | .type n => n != "list" | _ => true
def ex (K : PySem.W.Frag) : Bool := noL K && (DL.subB ["TornError", "NoTear", "BadSheet", "BadTorn", "BadBorder"] K && (DL.baseB K (He.ga K "TornError") && (DL.oexB K (He.ga K "NoTear") "at" && (L2.xfB K (He.ga K "NoTear")))))
abbrev hk : PySem.W.Hook := DL.hookY 5 fa fn ex
def ob (s : PySem.W.SharedT) : He.AlD × Bool := DL.obsY 5 fa fn ex (HandSHeadRun.getT s)
theorem ob_eq (s : PySem.W.SharedT) : ob s = hk.obs s.abs := DL.obsY_eq (HandSHeadRun.getT_eq s)
def names : List Str := (["TornError", "NoTear", "BadSheet", "BadTorn", "BadBorder", "MOST_SIDE", "MOST_FIELDS", "is_within", "is_field", "is_border", "fields_at", "rises", "borders_of", "parts_of", "lot_from", "is_sheet", "look", "is_torn", "look_torn", "look_border", "hanging_of", "around", "is_whole_corner", "corners_at", "next_to", "run_of", "tear_at", "tears_of", "pricks_of", "tears"] : List Str) ++ (["torn_by", "corners_of", "measure_of", "measure", "pieces_of", "pieces", "within", "holes", "first_row", "end_torn", "end_pieces", "left_of", "left", "winner", "behind", "key_of", "fewest_of", "goes", "_law_cell", "_law_row", "_law_inner", "_law_hang", "_law_full", "_law_tear", "_law_tears", "_law_end"] : List Str)
theorem run (w : World) : HandSHeadRun.RunEq R (PySem.W.view R.prog [63]) hk ob 6000 names w := by
  intro os
  kernel_rfl
end Hd
namespace DL
open PySem PySem.Spec PyProof.Rows L2
section
variable {P : Program} {w : World} {K : PySem.W.Frag} {mg : Str → Option Value} {base : Heap}
theorem sc_is_within : FnScope n_is_within ["thing", "low", "high"] (defScope Hd.s_is_within) := fnScope_of (by kernel_rfl)
theorem ok_is_within (F : FunAt K mg "is_within" Hd.s_is_within ["thing", "low", "high"]) (m_bool : mg "bool" = none) (m_int : mg "int" = none) (m_isinstance : mg "isinstance" = none) : Has P w K mg base 1 "is_within" ["thing", "low", "high"] sp_is_within := by
  refine okH (N := n_is_within) (k := 0) F sc_is_within len_is_within (fun f cdv A outer s H E hr args S Q Ed hsp tk => ⟨t_is_within (fun cls od _ S' => Ed cls od S'), ?_, rd_is_within hsp⟩)
  have hu := hu_of hr
  have hN : n_is_within.Nodup := sc_is_within.nd
  have hp : PassesOwn (model P w) (cxOf (L2.CX P w) P w K mg base n_is_within "is_within" (defScope Hd.s_is_within) f cdv A outer s H E).A (cxOf (L2.CX P w) P w K mg base n_is_within "is_within" (defScope Hd.s_is_within) f cdv A outer s H E).env (cxOf (L2.CX P w) P w K mg base n_is_within "is_within" (defScope Hd.s_is_within) f cdv A outer s H E).xe := passes_of rfl
  unfold t_is_within 
  exact (dss_one (ds_ret (de_and (de_callB call_isiD (by rfl) m_isinstance boot_isinstance (da_cons (dv 0) (da_cons (de_ty rfl m_int boot_int) da_nil))) (de_and (de_not (de_callB call_isiD (by rfl) m_isinstance boot_isinstance (da_cons (dv 0) (da_cons (de_ty rfl m_bool boot_bool) da_nil)))) (de_one (de_chain op_leI op_leI (dv 1) (dv 0) (dv 2)))))))
theorem sc_fields_at : FnScope n_fields_at ["border"] (defScope Hd.s_fields_at) := fnScope_of (by kernel_rfl)
theorem ok_fields_at (F : FunAt K mg "fields_at" Hd.s_fields_at ["border"]) : Has P w K mg base 1 "fields_at" ["border"] sp_fields_at := by
  refine okH (N := n_fields_at) (k := 0) F sc_fields_at len_fields_at (fun f cdv A outer s H E hr args S Q Ed hsp tk => ⟨t_fields_at (fun cls od _ S' => Ed cls od S'), ?_, rd_fields_at hsp⟩)
  have hu := hu_of hr
  have hN : n_fields_at.Nodup := sc_fields_at.nd
  have hp : PassesOwn (model P w) (cxOf (L2.CX P w) P w K mg base n_fields_at "fields_at" (defScope Hd.s_fields_at) f cdv A outer s H E).A (cxOf (L2.CX P w) P w K mg base n_fields_at "fields_at" (defScope Hd.s_fields_at) f cdv A outer s H E).env (cxOf (L2.CX P w) P w K mg base n_fields_at "fields_at" (defScope Hd.s_fields_at) f cdv A outer s H E).xe := passes_of rfl
  unfold t_fields_at 
  exact (dss_cons (ds_asg (dv 0) (dg_tup rfl (dgs_cons (dg_name hN rfl (by first | exact Or.inl rfl | exact Or.inr rfl)) (dgs_cons (dg_name hN rfl (by first | exact Or.inl rfl | exact Or.inr rfl)) (dgs_cons (dg_name hN rfl (by first | exact Or.inl rfl | exact Or.inr rfl)) dgs_nil)))))
  (dss_one (ds_ret (de_tup (da_cons (de_tup (da_cons (dv 2) (da_cons (dv 3) da_nil))) (da_cons (de_if (dt_cmp (op_eqD hu) (dv 1) de_str (nomark _)) (de_tup (da_cons (de_op op_catD (dv 2) de_int) (da_cons (dv 3) da_nil))) (de_tup (da_cons (dv 2) (da_cons (de_op op_catD (dv 3) de_int) da_nil)))) da_nil))))))
theorem sc_rises : FnScope n_rises ["thing"] (defScope Hd.s_rises) := fnScope_of (by kernel_rfl)
theorem ok_rises (F : FunAt K mg "rises" Hd.s_rises ["thing"]) (m_zip : mg "zip" = none) : Has P w K mg base 1 "rises" ["thing"] sp_rises := by
  refine okH (N := n_rises) (k := 0) F sc_rises len_rises (fun f cdv A outer s H E hr args S Q Ed hsp tk => ⟨t_rises (fun cls od _ S' => Ed cls od S'), ?_, rd_rises hsp⟩)
  have hu := hu_of hr
  have hN : n_rises.Nodup := sc_rises.nd
  have hp : PassesOwn (model P w) (cxOf (L2.CX P w) P w K mg base n_rises "rises" (defScope Hd.s_rises) f cdv A outer s H E).A (cxOf (L2.CX P w) P w K mg base n_rises "rises" (defScope Hd.s_rises) f cdv A outer s H E).env (cxOf (L2.CX P w) P w K mg base n_rises "rises" (defScope Hd.s_rises) f cdv A outer s H E).xe := passes_of rfl
  unfold t_rises 
  exact (dss_one (ds_ret (de_not (de_lc rfl hN (di_zip (by rfl) m_zip (da_cons (dv 0) (da_cons (de_slice (dv 0) (do_some de_int) do_none) da_nil))) (blkOk_of (own := ([("one", 1), ("other", 2)] : List (Str × Nat))) (by kernel_rfl)) (gr_tup (gr_cons (gr_name (by decide)) (gr_cons (gr_name (by decide)) gr_nil))) (fun _ _ _ _ _ => (pg_tup rfl (pgs_cons (pg_name hN rfl (by first | exact Or.inl rfl | exact Or.inr rfl)) (pgs_cons (pg_name hN rfl (by first | exact Or.inl rfl | exact Or.inr rfl)) pgs_nil)))) (fun _ _ _ _ _ => (dts_one (dt_cmp (op_geD hu) (dv 1) (dv 2) (nomark _)))) (fun _ _ _ _ _ => de_int)))))
theorem sc_lot_from : FnScope n_lot_from ["field", "near", "seen"] (defScope Hd.s_lot_from) := fnScope_of (by kernel_rfl)
theorem ok_lot_from (F : FunAt K mg "lot_from" Hd.s_lot_from ["field", "near", "seen"]) (m_sorted : mg "sorted" = none) (m_tuple : mg "tuple" = none) : Has P w K mg base 1 "lot_from" ["field", "near", "seen"] sp_lot_from := by
  refine okH (N := n_lot_from) (k := 0) F sc_lot_from len_lot_from (fun f cdv A outer s H E hr args S Q Ed hsp tk => ⟨t_lot_from (fun cls od _ S' => Ed cls od S'), ?_, rd_lot_from hsp⟩)
  have hu := hu_of hr
  have hN : n_lot_from.Nodup := sc_lot_from.nd
  have hp : PassesOwn (model P w) (cxOf (L2.CX P w) P w K mg base n_lot_from "lot_from" (defScope Hd.s_lot_from) f cdv A outer s H E).A (cxOf (L2.CX P w) P w K mg base n_lot_from "lot_from" (defScope Hd.s_lot_from) f cdv A outer s H E).env (cxOf (L2.CX P w) P w K mg base n_lot_from "lot_from" (defScope Hd.s_lot_from) f cdv A outer s H E).xe := passes_of rfl
  unfold t_lot_from l_lot_from_2 l_lot_from_1
  exact (dss_cons (ds_set (i := 3) hN rfl (by first | exact Or.inl rfl | exact Or.inr rfl) (de_lst (da_cons (dv 0) da_nil)))
  (dss_cons (ds_set (i := 4) hN rfl (by first | exact Or.inl rfl | exact Or.inr rfl) (de_lst da_nil))
  (dss_cons (ds_while hp (dt_tru (dv 3)) (dss_cons (ds_set (i := 5) hN rfl (by first | exact Or.inl rfl | exact Or.inr rfl) (m_pop0 (dv 3)))
  (dss_cons (ds_expr (m_app (dv 4) (da_cons (dv 5) da_nil)))
  (dss_one (ds_for hp rfl (di_val (de_ix hu (dv 1) (dv 5) (fun _ _ => rfl))) (dg_name hN rfl (by first | exact Or.inl rfl | exact Or.inr rfl)) (dss_one (ds_if (dt_cmp (op_ninD hu) (dv 6) (dv 2) rfl) (dss_cons (ds_setIx hu (dv 2) (dv 6) de_bl)
  (dss_one (ds_expr (m_app (dv 3) (da_cons (dv 6) da_nil))))) dss_nil)))))))
  (dss_one (ds_ret (de_callTy call_tupD (by rfl) m_tuple boot_tuple (da_cons (de_callB (call_sortD rfl hu) (by rfl) m_sorted boot_sorted (da_cons (dv 4) da_nil)) da_nil)))))))
theorem sc_around : FnScope n_around ["corner"] (defScope Hd.s_around) := fnScope_of (by kernel_rfl)
theorem ok_around (F : FunAt K mg "around" Hd.s_around ["corner"]) : Has P w K mg base 1 "around" ["corner"] sp_around := by
  refine okH (N := n_around) (k := 0) F sc_around len_around (fun f cdv A outer s H E hr args S Q Ed hsp tk => ⟨t_around (fun cls od _ S' => Ed cls od S'), ?_, rd_around hsp⟩)
  have hu := hu_of hr
  have hN : n_around.Nodup := sc_around.nd
  have hp : PassesOwn (model P w) (cxOf (L2.CX P w) P w K mg base n_around "around" (defScope Hd.s_around) f cdv A outer s H E).A (cxOf (L2.CX P w) P w K mg base n_around "around" (defScope Hd.s_around) f cdv A outer s H E).env (cxOf (L2.CX P w) P w K mg base n_around "around" (defScope Hd.s_around) f cdv A outer s H E).xe := passes_of rfl
  unfold t_around 
  exact (dss_cons (ds_asg (dv 0) (dg_tup rfl (dgs_cons (dg_name hN rfl (by first | exact Or.inl rfl | exact Or.inr rfl)) (dgs_cons (dg_name hN rfl (by first | exact Or.inl rfl | exact Or.inr rfl)) dgs_nil))))
  (dss_one (ds_ret (de_tup (da_cons (de_tup (da_cons de_str (da_cons (de_op op_subI (dv 1) de_int) (da_cons (de_op op_subI (dv 2) de_int) da_nil)))) (da_cons (de_tup (da_cons de_str (da_cons (dv 1) (da_cons (de_op op_subI (dv 2) de_int) da_nil)))) (da_cons (de_tup (da_cons de_str (da_cons (de_op op_subI (dv 1) de_int) (da_cons (de_op op_subI (dv 2) de_int) da_nil)))) (da_cons (de_tup (da_cons de_str (da_cons (de_op op_subI (dv 1) de_int) (da_cons (dv 2) da_nil)))) da_nil))))))))
theorem sc_corners_at : FnScope n_corners_at ["border"] (defScope Hd.s_corners_at) := fnScope_of (by kernel_rfl)
theorem ok_corners_at (F : FunAt K mg "corners_at" Hd.s_corners_at ["border"]) : Has P w K mg base 1 "corners_at" ["border"] sp_corners_at := by
  refine okH (N := n_corners_at) (k := 0) F sc_corners_at len_corners_at (fun f cdv A outer s H E hr args S Q Ed hsp tk => ⟨t_corners_at (fun cls od _ S' => Ed cls od S'), ?_, rd_corners_at hsp⟩)
  have hu := hu_of hr
  have hN : n_corners_at.Nodup := sc_corners_at.nd
  have hp : PassesOwn (model P w) (cxOf (L2.CX P w) P w K mg base n_corners_at "corners_at" (defScope Hd.s_corners_at) f cdv A outer s H E).A (cxOf (L2.CX P w) P w K mg base n_corners_at "corners_at" (defScope Hd.s_corners_at) f cdv A outer s H E).env (cxOf (L2.CX P w) P w K mg base n_corners_at "corners_at" (defScope Hd.s_corners_at) f cdv A outer s H E).xe := passes_of rfl
  unfold t_corners_at 
  exact (dss_cons (ds_asg (dv 0) (dg_tup rfl (dgs_cons (dg_name hN rfl (by first | exact Or.inl rfl | exact Or.inr rfl)) (dgs_cons (dg_name hN rfl (by first | exact Or.inl rfl | exact Or.inr rfl)) (dgs_cons (dg_name hN rfl (by first | exact Or.inl rfl | exact Or.inr rfl)) dgs_nil)))))
  (dss_one (ds_ret (de_if (dt_cmp (op_eqD hu) (dv 1) de_str (nomark _)) (de_tup (da_cons (de_tup (da_cons (de_op op_catD (dv 2) de_int) (da_cons (dv 3) da_nil))) (da_cons (de_tup (da_cons (de_op op_catD (dv 2) de_int) (da_cons (de_op op_catD (dv 3) de_int) da_nil))) da_nil))) (de_tup (da_cons (de_tup (da_cons (dv 2) (da_cons (de_op op_catD (dv 3) de_int) da_nil))) (da_cons (de_tup (da_cons (de_op op_catD (dv 2) de_int) (da_cons (de_op op_catD (dv 3) de_int) da_nil))) da_nil)))))))
theorem sc_next_to : FnScope n_next_to ["border", "way"] (defScope Hd.s_next_to) := fnScope_of (by kernel_rfl)
theorem ok_next_to (F : FunAt K mg "next_to" Hd.s_next_to ["border", "way"]) : Has P w K mg base 1 "next_to" ["border", "way"] sp_next_to := by
  refine okH (N := n_next_to) (k := 0) F sc_next_to len_next_to (fun f cdv A outer s H E hr args S Q Ed hsp tk => ⟨t_next_to (fun cls od _ S' => Ed cls od S'), ?_, rd_next_to hsp⟩)
  have hu := hu_of hr
  have hN : n_next_to.Nodup := sc_next_to.nd
  have hp : PassesOwn (model P w) (cxOf (L2.CX P w) P w K mg base n_next_to "next_to" (defScope Hd.s_next_to) f cdv A outer s H E).A (cxOf (L2.CX P w) P w K mg base n_next_to "next_to" (defScope Hd.s_next_to) f cdv A outer s H E).env (cxOf (L2.CX P w) P w K mg base n_next_to "next_to" (defScope Hd.s_next_to) f cdv A outer s H E).xe := passes_of rfl
  unfold t_next_to 
  exact (dss_cons (ds_asg (dv 0) (dg_tup rfl (dgs_cons (dg_name hN rfl (by first | exact Or.inl rfl | exact Or.inr rfl)) (dgs_cons (dg_name hN rfl (by first | exact Or.inl rfl | exact Or.inr rfl)) (dgs_cons (dg_name hN rfl (by first | exact Or.inl rfl | exact Or.inr rfl)) dgs_nil)))))
  (dss_one (ds_ret (de_if (dt_cmp (op_eqD hu) (dv 2) de_str (nomark _)) (de_tup (da_cons (dv 2) (da_cons (dv 3) (da_cons (de_op op_catD (dv 4) (dv 1)) da_nil)))) (de_tup (da_cons (dv 2) (da_cons (de_op op_catD (dv 3) (dv 1)) (da_cons (dv 4) da_nil))))))))
theorem sc_pricks_of : FnScope n_pricks_of ["sheet"] (defScope Hd.s_pricks_of) := fnScope_of (by kernel_rfl)
theorem ok_pricks_of (F : FunAt K mg "pricks_of" Hd.s_pricks_of ["sheet"]) : Has P w K mg base 1 "pricks_of" ["sheet"] sp_pricks_of := by
  refine okH (N := n_pricks_of) (k := 0) F sc_pricks_of len_pricks_of (fun f cdv A outer s H E hr args S Q Ed hsp tk => ⟨t_pricks_of (fun cls od _ S' => Ed cls od S'), ?_, rd_pricks_of hsp⟩)
  have hu := hu_of hr
  have hN : n_pricks_of.Nodup := sc_pricks_of.nd
  have hp : PassesOwn (model P w) (cxOf (L2.CX P w) P w K mg base n_pricks_of "pricks_of" (defScope Hd.s_pricks_of) f cdv A outer s H E).A (cxOf (L2.CX P w) P w K mg base n_pricks_of "pricks_of" (defScope Hd.s_pricks_of) f cdv A outer s H E).env (cxOf (L2.CX P w) P w K mg base n_pricks_of "pricks_of" (defScope Hd.s_pricks_of) f cdv A outer s H E).xe := passes_of rfl
  unfold t_pricks_of 
  exact (dss_one (ds_ret (de_dcX rfl hN (di_val (de_ix hu (dv 0) de_int (fun _ _ => rfl))) (blkOk_of (own := ([("border", 1)] : List (Str × Nat))) (by kernel_rfl)) (dcLoop1 (vs := [1]) rfl hu (gr_name (by decide)) (fun _ _ _ _ _ => (pg_name hN rfl (by first | exact Or.inl rfl | exact Or.inr rfl))) (fun _ _ _ _ _ => dts_nil) (fun _ _ _ _ _ => (dv 1)) (fun _ _ _ _ _ => de_bl)))))
theorem sc_key_of : FnScope n_key_of ["fields", "hanging"] (defScope Hd.s_key_of) := fnScope_of (by kernel_rfl)
theorem ok_key_of (F : FunAt K mg "key_of" Hd.s_key_of ["fields", "hanging"]) (m_sorted : mg "sorted" = none) (m_tuple : mg "tuple" = none) : Has P w K mg base 1 "key_of" ["fields", "hanging"] sp_key_of := by
  refine okH (N := n_key_of) (k := 0) F sc_key_of len_key_of (fun f cdv A outer s H E hr args S Q Ed hsp tk => ⟨t_key_of (fun cls od _ S' => Ed cls od S'), ?_, rd_key_of hsp⟩)
  have hu := hu_of hr
  have hN : n_key_of.Nodup := sc_key_of.nd
  have hp : PassesOwn (model P w) (cxOf (L2.CX P w) P w K mg base n_key_of "key_of" (defScope Hd.s_key_of) f cdv A outer s H E).A (cxOf (L2.CX P w) P w K mg base n_key_of "key_of" (defScope Hd.s_key_of) f cdv A outer s H E).env (cxOf (L2.CX P w) P w K mg base n_key_of "key_of" (defScope Hd.s_key_of) f cdv A outer s H E).xe := passes_of rfl
  unfold t_key_of 
  exact (dss_one (ds_ret (de_tup (da_cons (dv 0) (da_cons (de_callTy call_tupD (by rfl) m_tuple boot_tuple (da_cons (de_callB (call_sortD rfl hu) (by rfl) m_sorted boot_sorted (da_cons (dv 1) da_nil)) da_nil)) da_nil)))))
theorem sc__law_cell : FnScope n__law_cell ["script", "k"] (defScope Hd.s__law_cell) := fnScope_of (by kernel_rfl)
theorem ok__law_cell (F : FunAt K mg "_law_cell" Hd.s__law_cell ["script", "k"]) (m_len : mg "len" = none) : Has P w K mg base 1 "_law_cell" ["script", "k"] sp__law_cell := by
  refine okH (N := n__law_cell) (k := 0) F sc__law_cell len__law_cell (fun f cdv A outer s H E hr args S Q Ed hsp tk => ⟨t__law_cell (fun cls od _ S' => Ed cls od S'), ?_, rd__law_cell hsp⟩)
  have hu := hu_of hr
  have hN : n__law_cell.Nodup := sc__law_cell.nd
  have hp : PassesOwn (model P w) (cxOf (L2.CX P w) P w K mg base n__law_cell "_law_cell" (defScope Hd.s__law_cell) f cdv A outer s H E).A (cxOf (L2.CX P w) P w K mg base n__law_cell "_law_cell" (defScope Hd.s__law_cell) f cdv A outer s H E).env (cxOf (L2.CX P w) P w K mg base n__law_cell "_law_cell" (defScope Hd.s__law_cell) f cdv A outer s H E).xe := passes_of rfl
  unfold t__law_cell 
  exact (dss_cons (ds_if (dt_cmp op_ltI (dv 1) (de_callB call_lenD (by rfl) m_len boot_len (da_cons (dv 0) da_nil)) (nomark _)) (dss_one (ds_ret (de_ix hu (dv 0) (dv 1) (fun _ _ => rfl)))) dss_nil)
  (dss_one (ds_ret de_int)))
theorem sc__law_inner : FnScope n__law_inner ["fields"] (defScope Hd.s__law_inner) := fnScope_of (by kernel_rfl)
theorem ok__law_inner (F : FunAt K mg "_law_inner" Hd.s__law_inner ["fields"]) (m_sorted : mg "sorted" = none) : Has P w K mg base 1 "_law_inner" ["fields"] sp__law_inner := by
  refine okH (N := n__law_inner) (k := 0) F sc__law_inner len__law_inner (fun f cdv A outer s H E hr args S Q Ed hsp tk => ⟨t__law_inner (fun cls od _ S' => Ed cls od S'), ?_, rd__law_inner hsp⟩)
  have hu := hu_of hr
  have hN : n__law_inner.Nodup := sc__law_inner.nd
  have hp : PassesOwn (model P w) (cxOf (L2.CX P w) P w K mg base n__law_inner "_law_inner" (defScope Hd.s__law_inner) f cdv A outer s H E).A (cxOf (L2.CX P w) P w K mg base n__law_inner "_law_inner" (defScope Hd.s__law_inner) f cdv A outer s H E).env (cxOf (L2.CX P w) P w K mg base n__law_inner "_law_inner" (defScope Hd.s__law_inner) f cdv A outer s H E).xe := passes_of rfl
  unfold t__law_inner l__law_inner_1
  exact (dss_cons (ds_set (i := 1) hN rfl (by first | exact Or.inl rfl | exact Or.inr rfl) (de_lst da_nil))
  (dss_cons (ds_for hp rfl (di_val (dv 0)) (dg_tup rfl (dgs_cons (dg_name hN rfl (by first | exact Or.inl rfl | exact Or.inr rfl)) (dgs_cons (dg_name hN rfl (by first | exact Or.inl rfl | exact Or.inr rfl)) dgs_nil))) (dss_cons (ds_if (dt_cmp (op_inD hu) (de_tup (da_cons (dv 2) (da_cons (de_op op_catD (dv 3) de_int) da_nil))) (dv 0) rfl) (dss_one (ds_expr (m_app (dv 1) (da_cons (de_tup (da_cons de_str (da_cons (dv 2) (da_cons (dv 3) da_nil)))) da_nil)))) dss_nil)
  (dss_one (ds_if (dt_cmp (op_inD hu) (de_tup (da_cons (de_op op_catD (dv 2) de_int) (da_cons (dv 3) da_nil))) (dv 0) rfl) (dss_one (ds_expr (m_app (dv 1) (da_cons (de_tup (da_cons de_str (da_cons (dv 2) (da_cons (dv 3) da_nil)))) da_nil)))) dss_nil))))
  (dss_one (ds_ret (de_callB (call_sortD rfl hu) (by rfl) m_sorted boot_sorted (da_cons (dv 1) da_nil))))))
theorem sc__law_full : FnScope n__law_full ["hanging", "x", "y"] (defScope Hd.s__law_full) := fnScope_of (by kernel_rfl)
theorem ok__law_full (F : FunAt K mg "_law_full" Hd.s__law_full ["hanging", "x", "y"]) : Has P w K mg base 1 "_law_full" ["hanging", "x", "y"] sp__law_full := by
  refine okH (N := n__law_full) (k := 0) F sc__law_full len__law_full (fun f cdv A outer s H E hr args S Q Ed hsp tk => ⟨t__law_full (fun cls od _ S' => Ed cls od S'), ?_, rd__law_full hsp⟩)
  have hu := hu_of hr
  have hN : n__law_full.Nodup := sc__law_full.nd
  have hp : PassesOwn (model P w) (cxOf (L2.CX P w) P w K mg base n__law_full "_law_full" (defScope Hd.s__law_full) f cdv A outer s H E).A (cxOf (L2.CX P w) P w K mg base n__law_full "_law_full" (defScope Hd.s__law_full) f cdv A outer s H E).env (cxOf (L2.CX P w) P w K mg base n__law_full "_law_full" (defScope Hd.s__law_full) f cdv A outer s H E).xe := passes_of rfl
  unfold t__law_full 
  exact (dss_cons (ds_set (i := 3) hN rfl (by first | exact Or.inl rfl | exact Or.inr rfl) (de_lst (da_cons (de_tup (da_cons de_str (da_cons (dv 1) (da_cons (dv 2) da_nil)))) (da_cons (de_tup (da_cons de_str (da_cons (dv 1) (da_cons (de_op op_catD (dv 2) de_int) da_nil)))) (da_cons (de_tup (da_cons de_str (da_cons (dv 1) (da_cons (dv 2) da_nil)))) (da_cons (de_tup (da_cons de_str (da_cons (de_op op_catD (dv 1) de_int) (da_cons (dv 2) da_nil)))) da_nil))))))
  (dss_one (ds_ret (de_cmp (op_eqD hu) (de_lc rfl hN (di_val (dv 3)) (blkOk_of (own := ([("border", 4)] : List (Str × Nat))) (by kernel_rfl)) (gr_name (by decide)) (fun _ _ _ _ _ => (pg_name hN rfl (by first | exact Or.inl rfl | exact Or.inr rfl))) (fun _ _ _ _ _ => (dts_one (dt_cmp (op_ninD hu) (dv 4) (dv 0) rfl))) (fun _ _ _ _ _ => (dv 4))) (de_lst da_nil) (nomark _)))))
theorem sc_is_field : FnScope n_is_field ["thing"] (defScope Hd.s_is_field) := fnScope_of (by kernel_rfl)
theorem ok_is_field (F : FunAt K mg "is_field" Hd.s_is_field ["thing"]) (h_is_within : Has P w K mg base 1 "is_within" ["thing", "low", "high"] sp_is_within) (m_isinstance : mg "isinstance" = none) (m_len : mg "len" = none) (m_tuple : mg "tuple" = none) (c_MOST_SIDE : ∃ t, mg "MOST_SIDE" = some (.int 7 t)) : Has P w K mg base 2 "is_field" ["thing"] sp_is_field := by
  refine okH (N := n_is_field) (k := 1) F sc_is_field len_is_field (fun f cdv A outer s H E hr args S Q Ed hsp tk => ⟨t_is_field (fun cls od _ S' => Ed cls od S'), ?_, rd_is_field hsp⟩)
  have hu := hu_of hr
  have hN : n_is_field.Nodup := sc_is_field.nd
  have hp : PassesOwn (model P w) (cxOf (L2.CX P w) P w K mg base n_is_field "is_field" (defScope Hd.s_is_field) f cdv A outer s H E).A (cxOf (L2.CX P w) P w K mg base n_is_field "is_field" (defScope Hd.s_is_field) f cdv A outer s H E).env (cxOf (L2.CX P w) P w K mg base n_is_field "is_field" (defScope Hd.s_is_field) f cdv A outer s H E).xe := passes_of rfl
  unfold t_is_field 
  exact (dss_cons (ds_if (DW.dt (dw_or (dt_not (dt_tru (de_callB call_isiD (by rfl) m_isinstance boot_isinstance (da_cons (dv 0) (da_cons (de_ty rfl m_tuple boot_tuple) da_nil))))) (dw_or1 (dt_cmp (op_neD hu) (de_callB call_lenD (by rfl) m_len boot_len (da_cons (dv 0) da_nil)) de_int (nomark _))))) (dss_one (ds_ret de_bl)) dss_nil)
  (dss_one (ds_ret (de_not (de_lc rfl hN (di_val (dv 0)) (blkOk_of (own := ([("one", 1)] : List (Str × Nat))) (by kernel_rfl)) (gr_name (by decide)) (fun _ _ _ _ _ => (pg_name hN rfl (by first | exact Or.inl rfl | exact Or.inr rfl))) (fun _ _ _ _ _ => (dts_one (dt_not (dt_tru (de_callH h_is_within hr (by decide) dtk0 (da_cons (dv 1) (da_cons de_int (da_cons (de_gint c_MOST_SIDE) da_nil)))))))) (fun _ _ _ _ _ => (dv 1)))))))
theorem sc_borders_of : FnScope n_borders_of ["fields"] (defScope Hd.s_borders_of) := fnScope_of (by kernel_rfl)
theorem ok_borders_of (F : FunAt K mg "borders_of" Hd.s_borders_of ["fields"]) (h_fields_at : Has P w K mg base 1 "fields_at" ["border"] sp_fields_at) (m_sorted : mg "sorted" = none) : Has P w K mg base 2 "borders_of" ["fields"] sp_borders_of := by
  refine okH (N := n_borders_of) (k := 1) F sc_borders_of len_borders_of (fun f cdv A outer s H E hr args S Q Ed hsp tk => ⟨t_borders_of (fun cls od _ S' => Ed cls od S'), ?_, rd_borders_of hsp⟩)
  have hu := hu_of hr
  have hN : n_borders_of.Nodup := sc_borders_of.nd
  have hp : PassesOwn (model P w) (cxOf (L2.CX P w) P w K mg base n_borders_of "borders_of" (defScope Hd.s_borders_of) f cdv A outer s H E).A (cxOf (L2.CX P w) P w K mg base n_borders_of "borders_of" (defScope Hd.s_borders_of) f cdv A outer s H E).env (cxOf (L2.CX P w) P w K mg base n_borders_of "borders_of" (defScope Hd.s_borders_of) f cdv A outer s H E).xe := passes_of rfl
  unfold t_borders_of l_borders_of_2 l_borders_of_1
  exact (dss_cons (ds_setDcX (i := 1) rfl hN rfl rfl (sw_trueD rfl rfl rfl rfl) (di_val (dv 0)) (blkOk_of (own := ([("field", 6)] : List (Str × Nat))) (by kernel_rfl)) (dcLoop1 (vs := [6]) rfl hu (gr_name (by decide)) (fun _ _ _ _ _ => (pg_name hN rfl (by first | exact Or.inl rfl | exact Or.inr rfl))) (fun _ _ _ _ _ => dts_nil) (fun _ _ _ _ _ => (dv 6)) (fun _ _ _ _ _ => de_bl)))
  (dss_cons (ds_set (i := 2) hN rfl (by first | exact Or.inl rfl | exact Or.inr rfl) (de_lst da_nil))
  (dss_cons (ds_for hp rfl (di_val (de_tup (da_cons de_str (da_cons de_str da_nil)))) (dg_name hN rfl (by first | exact Or.inl rfl | exact Or.inr rfl)) (dss_one (ds_for hp rfl (di_val (dv 0)) (dg_tup rfl (dgs_cons (dg_name hN rfl (by first | exact Or.inl rfl | exact Or.inr rfl)) (dgs_cons (dg_name hN rfl (by first | exact Or.inl rfl | exact Or.inr rfl)) dgs_nil))) (dss_one (ds_if (dt_cmp (op_inD hu) (de_ix hu (de_callH h_fields_at hr (by decide) tk (da_cons (de_tup (da_cons (dv 3) (da_cons (dv 4) (da_cons (dv 5) da_nil)))) da_nil)) de_int (fun _ _ => rfl)) (dv 1) rfl) (dss_one (ds_expr (m_app (dv 2) (da_cons (de_tup (da_cons (dv 3) (da_cons (dv 4) (da_cons (dv 5) da_nil)))) da_nil)))) dss_nil)))))
  (dss_one (ds_ret (de_callB (call_sortD rfl hu) (by rfl) m_sorted boot_sorted (da_cons (dv 2) da_nil)))))))
theorem sc_parts_of : FnScope n_parts_of ["fields", "hanging"] (defScope Hd.s_parts_of) := fnScope_of (by kernel_rfl)
theorem ok_parts_of (F : FunAt K mg "parts_of" Hd.s_parts_of ["fields", "hanging"]) (h_lot_from : Has P w K mg base 1 "lot_from" ["field", "near", "seen"] sp_lot_from) (h_fields_at : Has P w K mg base 1 "fields_at" ["border"] sp_fields_at) : Has P w K mg base 2 "parts_of" ["fields", "hanging"] sp_parts_of := by
  refine okH (N := n_parts_of) (k := 1) F sc_parts_of len_parts_of (fun f cdv A outer s H E hr args S Q Ed hsp tk => ⟨t_parts_of (fun cls od _ S' => Ed cls od S'), ?_, rd_parts_of hsp⟩)
  have hu := hu_of hr
  have hN : n_parts_of.Nodup := sc_parts_of.nd
  have hp : PassesOwn (model P w) (cxOf (L2.CX P w) P w K mg base n_parts_of "parts_of" (defScope Hd.s_parts_of) f cdv A outer s H E).A (cxOf (L2.CX P w) P w K mg base n_parts_of "parts_of" (defScope Hd.s_parts_of) f cdv A outer s H E).env (cxOf (L2.CX P w) P w K mg base n_parts_of "parts_of" (defScope Hd.s_parts_of) f cdv A outer s H E).xe := passes_of rfl
  unfold t_parts_of l_parts_of_2 l_parts_of_1
  exact (dss_cons (ds_setDcX (i := 2) rfl hN rfl rfl (sw_trueD rfl rfl rfl rfl) (di_val (dv 0)) (blkOk_of (own := ([("field", 8)] : List (Str × Nat))) (by kernel_rfl)) (dcLoop1 (vs := [8]) rfl hu (gr_name (by decide)) (fun _ _ _ _ _ => (pg_name hN rfl (by first | exact Or.inl rfl | exact Or.inr rfl))) (fun _ _ _ _ _ => dts_nil) (fun _ _ _ _ _ => (dv 8)) (fun _ _ _ _ _ => (de_lst da_nil))))
  (dss_cons (ds_for hp rfl (di_val (dv 1)) (dg_name hN rfl (by first | exact Or.inl rfl | exact Or.inr rfl)) (dss_cons (ds_asg (de_callH h_fields_at hr (by decide) tk (da_cons (dv 3) da_nil)) (dg_tup rfl (dgs_cons (dg_name hN rfl (by first | exact Or.inl rfl | exact Or.inr rfl)) (dgs_cons (dg_name hN rfl (by first | exact Or.inl rfl | exact Or.inr rfl)) dgs_nil))))
  (dss_cons (ds_expr (m_app (de_ix hu (dv 2) (dv 4) (fun _ _ => rfl)) (da_cons (dv 5) da_nil)))
  (dss_one (ds_expr (m_app (de_ix hu (dv 2) (dv 5) (fun _ _ => rfl)) (da_cons (dv 4) da_nil)))))))
  (dss_cons (ds_set (i := 6) hN rfl (by first | exact Or.inl rfl | exact Or.inr rfl) de_dict0)
  (dss_cons (ds_set (i := 7) hN rfl (by first | exact Or.inl rfl | exact Or.inr rfl) (de_lst da_nil))
  (dss_cons (ds_for hp rfl (di_val (dv 0)) (dg_name hN rfl (by first | exact Or.inl rfl | exact Or.inr rfl)) (dss_one (ds_if (dt_cmp (op_ninD hu) (dv 8) (dv 6) rfl) (dss_cons (ds_setIx hu (dv 6) (dv 8) de_bl)
  (dss_one (ds_expr (m_app (dv 7) (da_cons (de_callH h_lot_from hr (by decide) tk (da_cons (dv 8) (da_cons (dv 2) (da_cons (dv 6) da_nil)))) da_nil))))) dss_nil)))
  (dss_one (ds_ret (dv 7))))))))
theorem sc_is_whole_corner : FnScope n_is_whole_corner ["hanging", "corner"] (defScope Hd.s_is_whole_corner) := fnScope_of (by kernel_rfl)
theorem ok_is_whole_corner (F : FunAt K mg "is_whole_corner" Hd.s_is_whole_corner ["hanging", "corner"]) (h_around : Has P w K mg base 1 "around" ["corner"] sp_around) : Has P w K mg base 2 "is_whole_corner" ["hanging", "corner"] sp_is_whole_corner := by
  refine okH (N := n_is_whole_corner) (k := 1) F sc_is_whole_corner len_is_whole_corner (fun f cdv A outer s H E hr args S Q Ed hsp tk => ⟨t_is_whole_corner (fun cls od _ S' => Ed cls od S'), ?_, rd_is_whole_corner hsp⟩)
  have hu := hu_of hr
  have hN : n_is_whole_corner.Nodup := sc_is_whole_corner.nd
  have hp : PassesOwn (model P w) (cxOf (L2.CX P w) P w K mg base n_is_whole_corner "is_whole_corner" (defScope Hd.s_is_whole_corner) f cdv A outer s H E).A (cxOf (L2.CX P w) P w K mg base n_is_whole_corner "is_whole_corner" (defScope Hd.s_is_whole_corner) f cdv A outer s H E).env (cxOf (L2.CX P w) P w K mg base n_is_whole_corner "is_whole_corner" (defScope Hd.s_is_whole_corner) f cdv A outer s H E).xe := passes_of rfl
  unfold t_is_whole_corner 
  exact (dss_one (ds_ret (de_not (de_lc rfl hN (di_val (de_callH h_around hr (by decide) tk (da_cons (dv 1) da_nil))) (blkOk_of (own := ([("border", 2)] : List (Str × Nat))) (by kernel_rfl)) (gr_name (by decide)) (fun _ _ _ _ _ => (pg_name hN rfl (by first | exact Or.inl rfl | exact Or.inr rfl))) (fun _ _ _ _ _ => (dts_one (dt_cmp (op_ninD hu) (dv 2) (dv 0) rfl))) (fun _ _ _ _ _ => (dv 2))))))
theorem sc_within : FnScope n_within ["hanging", "fields"] (defScope Hd.s_within) := fnScope_of (by kernel_rfl)
theorem ok_within (F : FunAt K mg "within" Hd.s_within ["hanging", "fields"]) (h_fields_at : Has P w K mg base 1 "fields_at" ["border"] sp_fields_at) : Has P w K mg base 2 "within" ["hanging", "fields"] sp_within := by
  refine okH (N := n_within) (k := 1) F sc_within len_within (fun f cdv A outer s H E hr args S Q Ed hsp tk => ⟨t_within (fun cls od _ S' => Ed cls od S'), ?_, rd_within hsp⟩)
  have hu := hu_of hr
  have hN : n_within.Nodup := sc_within.nd
  have hp : PassesOwn (model P w) (cxOf (L2.CX P w) P w K mg base n_within "within" (defScope Hd.s_within) f cdv A outer s H E).A (cxOf (L2.CX P w) P w K mg base n_within "within" (defScope Hd.s_within) f cdv A outer s H E).env (cxOf (L2.CX P w) P w K mg base n_within "within" (defScope Hd.s_within) f cdv A outer s H E).xe := passes_of rfl
  unfold t_within 
  exact (dss_cons (ds_set (i := 2) hN rfl (by first | exact Or.inl rfl | exact Or.inr rfl) (de_dcX rfl hN (di_val (dv 1)) (blkOk_of (own := ([("field", 3)] : List (Str × Nat))) (by kernel_rfl)) (dcLoop1 (vs := [3]) rfl hu (gr_name (by decide)) (fun _ _ _ _ _ => (pg_name hN rfl (by first | exact Or.inl rfl | exact Or.inr rfl))) (fun _ _ _ _ _ => dts_nil) (fun _ _ _ _ _ => (dv 3)) (fun _ _ _ _ _ => de_bl))))
  (dss_one (ds_ret (de_dcX rfl hN (di_val (dv 0)) (blkOk_of (own := ([("border", 4)] : List (Str × Nat))) (by kernel_rfl)) (dcLoop1 (vs := [4]) rfl hu (gr_name (by decide)) (fun _ _ _ _ _ => (pg_name hN rfl (by first | exact Or.inl rfl | exact Or.inr rfl))) (fun _ _ _ _ _ => (dts_one (DW.dt (dw_and (dt_cmp (op_inD hu) (de_ix hu (de_callH h_fields_at hr (by decide) dtk0 (da_cons (dv 4) da_nil)) de_int (fun _ _ => rfl)) (dv 2) rfl) (dw_and1 (dt_cmp (op_inD hu) (de_ix hu (de_callH h_fields_at hr (by decide) dtk0 (da_cons (dv 4) da_nil)) de_int (fun _ _ => rfl)) (dv 2) rfl)))))) (fun _ _ _ _ _ => (dv 4)) (fun _ _ _ _ _ => de_bl))))))
theorem sc__law_row : FnScope n__law_row ["script", "at"] (defScope Hd.s__law_row) := fnScope_of (by kernel_rfl)
theorem ok__law_row (F : FunAt K mg "_law_row" Hd.s__law_row ["script", "at"]) (h__law_cell : Has P w K mg base 1 "_law_cell" ["script", "k"] sp__law_cell) (m_range : mg "range" = none) : Has P w K mg base 2 "_law_row" ["script", "at"] sp__law_row := by
  refine okH (N := n__law_row) (k := 1) F sc__law_row len__law_row (fun f cdv A outer s H E hr args S Q Ed hsp tk => ⟨t__law_row (fun cls od _ S' => Ed cls od S'), ?_, rd__law_row hsp⟩)
  have hu := hu_of hr
  have hN : n__law_row.Nodup := sc__law_row.nd
  have hp : PassesOwn (model P w) (cxOf (L2.CX P w) P w K mg base n__law_row "_law_row" (defScope Hd.s__law_row) f cdv A outer s H E).A (cxOf (L2.CX P w) P w K mg base n__law_row "_law_row" (defScope Hd.s__law_row) f cdv A outer s H E).env (cxOf (L2.CX P w) P w K mg base n__law_row "_law_row" (defScope Hd.s__law_row) f cdv A outer s H E).xe := passes_of rfl
  unfold t__law_row l__law_row_1
  exact (dss_cons (ds_set (i := 2) hN rfl (by first | exact Or.inl rfl | exact Or.inr rfl) (de_callH h__law_cell hr (by decide) tk (da_cons (dv 0) (da_cons (dv 1) da_nil))))
  (dss_cons (ds_set (i := 3) hN rfl (by first | exact Or.inl rfl | exact Or.inr rfl) (de_lst da_nil))
  (dss_cons (ds_for hp rfl (di_range1 (by rfl) m_range (da_cons de_int da_nil)) (dg_name hN rfl (by first | exact Or.inl rfl | exact Or.inr rfl)) (dss_one (ds_if (dt_cmp op_ltI (de_callH h__law_cell hr (by decide) tk (da_cons (dv 0) (da_cons (dv 1) da_nil))) (de_op op_powI de_int de_int) (nomark _)) (dss_cons (ds_set (i := 2) hN rfl (by first | exact Or.inl rfl | exact Or.inr rfl) (de_op op_modI (de_op op_catD (de_op op_catD (de_op op_catD (de_op op_mulI (dv 2) de_int) (de_op op_mulI de_int (dv 4))) de_int) (de_callH h__law_cell hr (by decide) tk (da_cons (dv 0) (da_cons (de_op op_modI (de_op op_catD (de_op op_catD (dv 1) de_int) (dv 4)) de_int) da_nil)))) de_int))
  (dss_one (ds_expr (m_app (dv 3) (da_cons (de_op op_modI (de_op op_divI (dv 2) de_int) de_int) da_nil))))) (dss_cons (ds_expr (m_app (dv 3) (da_cons (de_op op_modI (dv 2) de_int) da_nil)))
  (dss_one (ds_set (i := 2) hN rfl (by first | exact Or.inl rfl | exact Or.inr rfl) (de_op op_divI (dv 2) de_int)))))))
  (dss_one (ds_ret (dv 3))))))
theorem sc__law_hang : FnScope n__law_hang ["sheet", "torn"] (defScope Hd.s__law_hang) := fnScope_of (by kernel_rfl)
theorem ok__law_hang (F : FunAt K mg "_law_hang" Hd.s__law_hang ["sheet", "torn"]) (h__law_inner : Has P w K mg base 1 "_law_inner" ["fields"] sp__law_inner) : Has P w K mg base 2 "_law_hang" ["sheet", "torn"] sp__law_hang := by
  refine okH (N := n__law_hang) (k := 1) F sc__law_hang len__law_hang (fun f cdv A outer s H E hr args S Q Ed hsp tk => ⟨t__law_hang (fun cls od _ S' => Ed cls od S'), ?_, rd__law_hang hsp⟩)
  have hu := hu_of hr
  have hN : n__law_hang.Nodup := sc__law_hang.nd
  have hp : PassesOwn (model P w) (cxOf (L2.CX P w) P w K mg base n__law_hang "_law_hang" (defScope Hd.s__law_hang) f cdv A outer s H E).A (cxOf (L2.CX P w) P w K mg base n__law_hang "_law_hang" (defScope Hd.s__law_hang) f cdv A outer s H E).env (cxOf (L2.CX P w) P w K mg base n__law_hang "_law_hang" (defScope Hd.s__law_hang) f cdv A outer s H E).xe := passes_of rfl
  unfold t__law_hang 
  exact (dss_one (ds_ret (de_lc rfl hN (di_val (de_callH h__law_inner hr (by decide) tk (da_cons (de_ix hu (dv 0) de_int (fun _ _ => rfl)) da_nil))) (blkOk_of (own := ([("border", 2)] : List (Str × Nat))) (by kernel_rfl)) (gr_name (by decide)) (fun _ _ _ _ _ => (pg_name hN rfl (by first | exact Or.inl rfl | exact Or.inr rfl))) (fun _ _ _ _ _ => (dts_one (dt_cmp (op_ninD hu) (dv 2) (dv 1) rfl))) (fun _ _ _ _ _ => (dv 2)))))
theorem sc__law_tear : FnScope n__law_tear ["sheet", "hanging", "border"] (defScope Hd.s__law_tear) := fnScope_of (by kernel_rfl)
theorem ok__law_tear (F : FunAt K mg "_law_tear" Hd.s__law_tear ["sheet", "hanging", "border"]) (h__law_full : Has P w K mg base 1 "_law_full" ["hanging", "x", "y"] sp__law_full) (m_sorted : mg "sorted" = none) (m_tuple : mg "tuple" = none) : Has P w K mg base 2 "_law_tear" ["sheet", "hanging", "border"] sp__law_tear := by
  refine okH (N := n__law_tear) (k := 1) F sc__law_tear len__law_tear (fun f cdv A outer s H E hr args S Q Ed hsp tk => ⟨t__law_tear (fun cls od _ S' => Ed cls od S'), ?_, rd__law_tear hsp⟩)
  have hu := hu_of hr
  have hN : n__law_tear.Nodup := sc__law_tear.nd
  have hp : PassesOwn (model P w) (cxOf (L2.CX P w) P w K mg base n__law_tear "_law_tear" (defScope Hd.s__law_tear) f cdv A outer s H E).A (cxOf (L2.CX P w) P w K mg base n__law_tear "_law_tear" (defScope Hd.s__law_tear) f cdv A outer s H E).env (cxOf (L2.CX P w) P w K mg base n__law_tear "_law_tear" (defScope Hd.s__law_tear) f cdv A outer s H E).xe := passes_of rfl
  unfold t__law_tear l__law_tear_2 l__law_tear_1
  exact (dss_cons (ds_if (dt_cmp (op_ninD hu) (dv 2) (dv 1) rfl) (dss_one (ds_ret de_non)) dss_nil)
  (dss_cons (ds_set (i := 3) hN rfl (by first | exact Or.inl rfl | exact Or.inr rfl) (de_lst (da_cons (dv 2) da_nil)))
  (dss_cons (ds_for hp rfl (di_val (de_tup (da_cons de_int (da_cons (de_un un_negI de_int) da_nil)))) (dg_name hN rfl (by first | exact Or.inl rfl | exact Or.inr rfl)) (dss_cons (ds_asg (dv 2) (dg_tup rfl (dgs_cons (dg_name hN rfl (by first | exact Or.inl rfl | exact Or.inr rfl)) (dgs_cons (dg_name hN rfl (by first | exact Or.inl rfl | exact Or.inr rfl)) (dgs_cons (dg_name hN rfl (by first | exact Or.inl rfl | exact Or.inr rfl)) dgs_nil)))))
  (dss_cons (ds_set (i := 8) hN rfl (by first | exact Or.inl rfl | exact Or.inr rfl) de_bl)
  (dss_one (ds_while hp (dt_tru (dv 8)) (dss_cons (ds_set (i := 9) hN rfl (by first | exact Or.inl rfl | exact Or.inr rfl) (de_if (dt_cmp op_gtI (dv 4) de_int (nomark _)) (de_tup (da_cons (dv 6) (da_cons (dv 7) da_nil))) (de_if (dt_cmp (op_eqD hu) (dv 5) de_str (nomark _)) (de_tup (da_cons (dv 6) (da_cons (de_op op_subI (dv 7) de_int) da_nil))) (de_tup (da_cons (de_op op_subI (dv 6) de_int) (da_cons (dv 7) da_nil))))))
  (dss_cons (ds_set (i := 8) hN rfl (by first | exact Or.inl rfl | exact Or.inr rfl) (de_callH h__law_full hr (by decide) tk (da_cons (dv 1) (da_cons (de_ix hu (dv 9) de_int (fun _ _ => rfl)) (da_cons (de_ix hu (dv 9) de_int (fun _ _ => rfl)) da_nil)))))
  (dss_one (ds_if (dt_tru (dv 8)) (dss_cons (ds_asg (de_if (dt_cmp (op_eqD hu) (dv 5) de_str (nomark _)) (de_tup (da_cons (dv 6) (da_cons (de_op op_catD (dv 7) (dv 4)) da_nil))) (de_tup (da_cons (de_op op_catD (dv 6) (dv 4)) (da_cons (dv 7) da_nil)))) (dg_tup rfl (dgs_cons (dg_name hN rfl (by first | exact Or.inl rfl | exact Or.inr rfl)) (dgs_cons (dg_name hN rfl (by first | exact Or.inl rfl | exact Or.inr rfl)) dgs_nil))))
  (dss_one (ds_expr (m_app (dv 3) (da_cons (de_tup (da_cons (dv 5) (da_cons (dv 6) (da_cons (dv 7) da_nil)))) da_nil))))) dss_nil)))))))))
  (dss_cons (ds_if (dt_cmp (op_neD hu) (de_lc rfl hN (di_val (dv 3)) (blkOk_of (own := ([("one", 10)] : List (Str × Nat))) (by kernel_rfl)) (gr_name (by decide)) (fun _ _ _ _ _ => (pg_name hN rfl (by first | exact Or.inl rfl | exact Or.inr rfl))) (fun _ _ _ _ _ => (dts_one (dt_cmp (op_ninD hu) (dv 10) (de_ix hu (dv 0) de_int (fun _ _ => rfl)) rfl))) (fun _ _ _ _ _ => (dv 10))) (de_lst da_nil) (nomark _)) (dss_one (ds_ret de_non)) dss_nil)
  (dss_one (ds_ret (de_callTy call_tupD (by rfl) m_tuple boot_tuple (da_cons (de_callB (call_sortD rfl hu) (by rfl) m_sorted boot_sorted (da_cons (dv 3) da_nil)) da_nil))))))))
theorem sc_is_border : FnScope n_is_border ["thing"] (defScope Hd.s_is_border) := fnScope_of (by kernel_rfl)
theorem ok_is_border (F : FunAt K mg "is_border" Hd.s_is_border ["thing"]) (h_is_field : Has P w K mg base 2 "is_field" ["thing"] sp_is_field) (m_isinstance : mg "isinstance" = none) (m_len : mg "len" = none) (m_str : mg "str" = none) (m_tuple : mg "tuple" = none) : Has P w K mg base 3 "is_border" ["thing"] sp_is_border := by
  refine okH (N := n_is_border) (k := 2) F sc_is_border len_is_border (fun f cdv A outer s H E hr args S Q Ed hsp tk => ⟨t_is_border (fun cls od _ S' => Ed cls od S'), ?_, rd_is_border hsp⟩)
  have hu := hu_of hr
  have hN : n_is_border.Nodup := sc_is_border.nd
  have hp : PassesOwn (model P w) (cxOf (L2.CX P w) P w K mg base n_is_border "is_border" (defScope Hd.s_is_border) f cdv A outer s H E).A (cxOf (L2.CX P w) P w K mg base n_is_border "is_border" (defScope Hd.s_is_border) f cdv A outer s H E).env (cxOf (L2.CX P w) P w K mg base n_is_border "is_border" (defScope Hd.s_is_border) f cdv A outer s H E).xe := passes_of rfl
  unfold t_is_border 
  exact (dss_cons (ds_if (DW.dt (dw_or (dt_not (dt_tru (de_callB call_isiD (by rfl) m_isinstance boot_isinstance (da_cons (dv 0) (da_cons (de_ty rfl m_tuple boot_tuple) da_nil))))) (dw_or (dt_cmp (op_neD hu) (de_callB call_lenD (by rfl) m_len boot_len (da_cons (dv 0) da_nil)) de_int (nomark _)) (dw_or1 (dt_not (dt_tru (de_callB call_isiD (by rfl) m_isinstance boot_isinstance (da_cons (de_ix hu (dv 0) de_int (fun _ _ => rfl)) (da_cons (de_ty rfl m_str boot_str) da_nil))))))))) (dss_one (ds_ret de_bl)) dss_nil)
  (dss_one (ds_ret (de_and (de_cmp (op_inD hu) (de_ix hu (dv 0) de_int (fun _ _ => rfl)) (de_tup (da_cons de_str (da_cons de_str da_nil))) rfl) (de_one (de_callH h_is_field hr (by decide) tk (da_cons (de_slice (dv 0) (do_some de_int) do_none) da_nil)))))))
theorem sc_hanging_of : FnScope n_hanging_of ["sheet", "torn"] (defScope Hd.s_hanging_of) := fnScope_of (by kernel_rfl)
theorem ok_hanging_of (F : FunAt K mg "hanging_of" Hd.s_hanging_of ["sheet", "torn"]) (h_borders_of : Has P w K mg base 2 "borders_of" ["fields"] sp_borders_of) : Has P w K mg base 3 "hanging_of" ["sheet", "torn"] sp_hanging_of := by
  refine okH (N := n_hanging_of) (k := 2) F sc_hanging_of len_hanging_of (fun f cdv A outer s H E hr args S Q Ed hsp tk => ⟨t_hanging_of (fun cls od _ S' => Ed cls od S'), ?_, rd_hanging_of hsp⟩)
  have hu := hu_of hr
  have hN : n_hanging_of.Nodup := sc_hanging_of.nd
  have hp : PassesOwn (model P w) (cxOf (L2.CX P w) P w K mg base n_hanging_of "hanging_of" (defScope Hd.s_hanging_of) f cdv A outer s H E).A (cxOf (L2.CX P w) P w K mg base n_hanging_of "hanging_of" (defScope Hd.s_hanging_of) f cdv A outer s H E).env (cxOf (L2.CX P w) P w K mg base n_hanging_of "hanging_of" (defScope Hd.s_hanging_of) f cdv A outer s H E).xe := passes_of rfl
  unfold t_hanging_of 
  exact (dss_cons (ds_set (i := 2) hN rfl (by first | exact Or.inl rfl | exact Or.inr rfl) (de_dcX rfl hN (di_val (dv 1)) (blkOk_of (own := ([("border", 3)] : List (Str × Nat))) (by kernel_rfl)) (dcLoop1 (vs := [3]) rfl hu (gr_name (by decide)) (fun _ _ _ _ _ => (pg_name hN rfl (by first | exact Or.inl rfl | exact Or.inr rfl))) (fun _ _ _ _ _ => dts_nil) (fun _ _ _ _ _ => (dv 3)) (fun _ _ _ _ _ => de_bl))))
  (dss_one (ds_ret (de_dcX rfl hN (di_val (de_callH h_borders_of hr (by decide) tk (da_cons (de_ix hu (dv 0) de_int (fun _ _ => rfl)) da_nil))) (blkOk_of (own := ([("border", 3)] : List (Str × Nat))) (by kernel_rfl)) (dcLoop1 (vs := [3]) rfl hu (gr_name (by decide)) (fun _ _ _ _ _ => (pg_name hN rfl (by first | exact Or.inl rfl | exact Or.inr rfl))) (fun _ _ _ _ _ => (dts_one (dt_cmp (op_ninD hu) (dv 3) (dv 2) rfl))) (fun _ _ _ _ _ => (dv 3)) (fun _ _ _ _ _ => de_bl))))))
theorem sc_run_of : FnScope n_run_of ["hanging", "border", "way"] (defScope Hd.s_run_of) := fnScope_of (by kernel_rfl)
theorem ok_run_of (F : FunAt K mg "run_of" Hd.s_run_of ["hanging", "border", "way"]) (h_is_whole_corner : Has P w K mg base 2 "is_whole_corner" ["hanging", "corner"] sp_is_whole_corner) (h_corners_at : Has P w K mg base 1 "corners_at" ["border"] sp_corners_at) (h_next_to : Has P w K mg base 1 "next_to" ["border", "way"] sp_next_to) : Has P w K mg base 3 "run_of" ["hanging", "border", "way"] sp_run_of := by
  refine okH (N := n_run_of) (k := 2) F sc_run_of len_run_of (fun f cdv A outer s H E hr args S Q Ed hsp tk => ⟨t_run_of (fun cls od _ S' => Ed cls od S'), ?_, rd_run_of hsp⟩)
  have hu := hu_of hr
  have hN : n_run_of.Nodup := sc_run_of.nd
  have hp : PassesOwn (model P w) (cxOf (L2.CX P w) P w K mg base n_run_of "run_of" (defScope Hd.s_run_of) f cdv A outer s H E).A (cxOf (L2.CX P w) P w K mg base n_run_of "run_of" (defScope Hd.s_run_of) f cdv A outer s H E).env (cxOf (L2.CX P w) P w K mg base n_run_of "run_of" (defScope Hd.s_run_of) f cdv A outer s H E).xe := passes_of rfl
  unfold t_run_of l_run_of_1
  exact (dss_cons (ds_set (i := 3) hN rfl (by first | exact Or.inl rfl | exact Or.inr rfl) (de_lst da_nil))
  (dss_cons (ds_set (i := 4) hN rfl (by first | exact Or.inl rfl | exact Or.inr rfl) (dv 1))
  (dss_cons (ds_while hp (dt_tru (de_callH h_is_whole_corner hr (by decide) tk (da_cons (dv 0) (da_cons (de_ix hu (de_callH h_corners_at hr (by decide) tk (da_cons (dv 4) da_nil)) (de_if (dt_cmp op_gtI (dv 2) de_int (nomark _)) de_int de_int) (fun _ _ => rfl)) da_nil)))) (dss_cons (ds_set (i := 4) hN rfl (by first | exact Or.inl rfl | exact Or.inr rfl) (de_callH h_next_to hr (by decide) tk (da_cons (dv 4) (da_cons (dv 2) da_nil))))
  (dss_one (ds_expr (m_app (dv 3) (da_cons (dv 4) da_nil))))))
  (dss_one (ds_ret (dv 3))))))
theorem sc_corners_of : FnScope n_corners_of ["hanging"] (defScope Hd.s_corners_of) := fnScope_of (by kernel_rfl)
theorem ok_corners_of (F : FunAt K mg "corners_of" Hd.s_corners_of ["hanging"]) (h_is_whole_corner : Has P w K mg base 2 "is_whole_corner" ["hanging", "corner"] sp_is_whole_corner) (h_corners_at : Has P w K mg base 1 "corners_at" ["border"] sp_corners_at) (m_len : mg "len" = none) : Has P w K mg base 3 "corners_of" ["hanging"] sp_corners_of := by
  refine okH (N := n_corners_of) (k := 2) F sc_corners_of len_corners_of (fun f cdv A outer s H E hr args S Q Ed hsp tk => ⟨t_corners_of (fun cls od _ S' => Ed cls od S'), ?_, rd_corners_of hsp⟩)
  have hu := hu_of hr
  have hN : n_corners_of.Nodup := sc_corners_of.nd
  have hp : PassesOwn (model P w) (cxOf (L2.CX P w) P w K mg base n_corners_of "corners_of" (defScope Hd.s_corners_of) f cdv A outer s H E).A (cxOf (L2.CX P w) P w K mg base n_corners_of "corners_of" (defScope Hd.s_corners_of) f cdv A outer s H E).env (cxOf (L2.CX P w) P w K mg base n_corners_of "corners_of" (defScope Hd.s_corners_of) f cdv A outer s H E).xe := passes_of rfl
  unfold t_corners_of 
  exact (dss_cons (ds_setDcX (i := 1) rfl hN rfl rfl (sw_trueD rfl rfl rfl rfl) (di_val (dv 0)) (blkOk_of (own := ([("border", 2), ("corner", 3)] : List (Str × Nat))) (by kernel_rfl)) (dcLoop2 (vs := [2, 3]) (vs1 := [3]) rfl hu (gr_name (by decide)) (gr_name (by decide)) (by decide) (fun _ _ _ _ _ => (pg_name hN rfl (by first | exact Or.inl rfl | exact Or.inr rfl))) (fun _ _ _ _ _ => dts_nil) (fun _ _ _ _ _ => (di_val (de_callH h_corners_at hr (by decide) dtk0 (da_cons (dv 2) da_nil)))) (fun _ _ _ _ _ => (pg_name hN rfl (by first | exact Or.inl rfl | exact Or.inr rfl))) (fun _ _ _ _ _ => dts_nil) (fun _ _ _ _ _ => (dv 3)) (fun _ _ _ _ _ => de_bl) (fun _ _ _ => rfl)))
  (dss_one (ds_ret (de_callB call_lenD (by rfl) m_len boot_len (da_cons (de_lc rfl hN (di_val (dv 1)) (blkOk_of (own := ([("corner", 3)] : List (Str × Nat))) (by kernel_rfl)) (gr_name (by decide)) (fun _ _ _ _ _ => (pg_name hN rfl (by first | exact Or.inl rfl | exact Or.inr rfl))) (fun _ _ _ _ _ => (dts_one (dt_tru (de_callH h_is_whole_corner hr (by decide) dtk0 (da_cons (dv 0) (da_cons (dv 3) da_nil)))))) (fun _ _ _ _ _ => (dv 3))) da_nil)))))
theorem sc_behind : FnScope n_behind ["fields", "hanging", "tear"] (defScope Hd.s_behind) := fnScope_of (by kernel_rfl)
theorem ok_behind (F : FunAt K mg "behind" Hd.s_behind ["fields", "hanging", "tear"]) (h_parts_of : Has P w K mg base 2 "parts_of" ["fields", "hanging"] sp_parts_of) (h_within : Has P w K mg base 2 "within" ["hanging", "fields"] sp_within) (m_list : mg "list" = none) : Has P w K mg base 3 "behind" ["fields", "hanging", "tear"] sp_behind := by
  refine okH (N := n_behind) (k := 2) F sc_behind len_behind (fun f cdv A outer s H E hr args S Q Ed hsp tk => ⟨t_behind (fun cls od _ S' => Ed cls od S'), ?_, rd_behind hsp⟩)
  have hu := hu_of hr
  have hN : n_behind.Nodup := sc_behind.nd
  have hp : PassesOwn (model P w) (cxOf (L2.CX P w) P w K mg base n_behind "behind" (defScope Hd.s_behind) f cdv A outer s H E).A (cxOf (L2.CX P w) P w K mg base n_behind "behind" (defScope Hd.s_behind) f cdv A outer s H E).env (cxOf (L2.CX P w) P w K mg base n_behind "behind" (defScope Hd.s_behind) f cdv A outer s H E).xe := passes_of rfl
  unfold t_behind 
  exact (dss_cons (ds_set (i := 3) hN rfl (by first | exact Or.inl rfl | exact Or.inr rfl) (de_dcX rfl hN (di_val (dv 1)) (blkOk_of (own := ([("border", 4)] : List (Str × Nat))) (by kernel_rfl)) (dcLoop1 (vs := [4]) rfl hu (gr_name (by decide)) (fun _ _ _ _ _ => (pg_name hN rfl (by first | exact Or.inl rfl | exact Or.inr rfl))) (fun _ _ _ _ _ => (dts_one (dt_cmp (op_ninD hu) (dv 4) (dv 2) rfl))) (fun _ _ _ _ _ => (dv 4)) (fun _ _ _ _ _ => de_bl))))
  (dss_one (ds_ret (de_lc rfl hN (di_val (de_callH h_parts_of hr (by decide) tk (da_cons (dv 0) (da_cons (de_callTy (call_lstK rfl) (by rfl) m_list boot_list (da_cons (dv 3) da_nil)) da_nil)))) (blkOk_of (own := ([("piece", 5)] : List (Str × Nat))) (by kernel_rfl)) (gr_name (by decide)) (fun _ _ _ _ _ => (pg_name hN rfl (by first | exact Or.inl rfl | exact Or.inr rfl))) (fun _ _ _ _ _ => dts_nil) (fun _ _ _ _ _ => (de_tup (da_cons (dv 5) (da_cons (de_callH h_within hr (by decide) dtk0 (da_cons (dv 3) (da_cons (dv 5) da_nil))) da_nil))))))))
theorem sc__law_tears : FnScope n__law_tears ["sheet", "torn"] (defScope Hd.s__law_tears) := fnScope_of (by kernel_rfl)
theorem ok__law_tears (F : FunAt K mg "_law_tears" Hd.s__law_tears ["sheet", "torn"]) (h__law_tear : Has P w K mg base 2 "_law_tear" ["sheet", "hanging", "border"] sp__law_tear) (h__law_hang : Has P w K mg base 2 "_law_hang" ["sheet", "torn"] sp__law_hang) (m_sorted : mg "sorted" = none) : Has P w K mg base 3 "_law_tears" ["sheet", "torn"] sp__law_tears := by
  refine okH (N := n__law_tears) (k := 2) F sc__law_tears len__law_tears (fun f cdv A outer s H E hr args S Q Ed hsp tk => ⟨t__law_tears (fun cls od _ S' => Ed cls od S'), ?_, rd__law_tears hsp⟩)
  have hu := hu_of hr
  have hN : n__law_tears.Nodup := sc__law_tears.nd
  have hp : PassesOwn (model P w) (cxOf (L2.CX P w) P w K mg base n__law_tears "_law_tears" (defScope Hd.s__law_tears) f cdv A outer s H E).A (cxOf (L2.CX P w) P w K mg base n__law_tears "_law_tears" (defScope Hd.s__law_tears) f cdv A outer s H E).env (cxOf (L2.CX P w) P w K mg base n__law_tears "_law_tears" (defScope Hd.s__law_tears) f cdv A outer s H E).xe := passes_of rfl
  unfold t__law_tears l__law_tears_1
  exact (dss_cons (ds_set (i := 2) hN rfl (by first | exact Or.inl rfl | exact Or.inr rfl) (de_callH h__law_hang hr (by decide) tk (da_cons (dv 0) (da_cons (dv 1) da_nil))))
  (dss_cons (ds_set (i := 3) hN rfl (by first | exact Or.inl rfl | exact Or.inr rfl) (de_lst da_nil))
  (dss_cons (ds_for hp rfl (di_val (de_ix hu (dv 0) de_int (fun _ _ => rfl))) (dg_name hN rfl (by first | exact Or.inl rfl | exact Or.inr rfl)) (dss_cons (ds_set (i := 5) hN rfl (by first | exact Or.inl rfl | exact Or.inr rfl) (de_callH h__law_tear hr (by decide) tk (da_cons (dv 0) (da_cons (dv 2) (da_cons (dv 4) da_nil)))))
  (dss_one (ds_if (DW.dt (dw_and (dt_cmp op_notND (dv 5) de_non (nomark _)) (dw_and1 (dt_cmp (op_ninD hu) (dv 5) (dv 3) rfl)))) (dss_one (ds_expr (m_app (dv 3) (da_cons (dv 5) da_nil)))) dss_nil))))
  (dss_one (ds_ret (de_callB (call_sortD rfl hu) (by rfl) m_sorted boot_sorted (da_cons (dv 3) da_nil)))))))
theorem sc_is_sheet : FnScope n_is_sheet ["thing"] (defScope Hd.s_is_sheet) := fnScope_of (by kernel_rfl)
theorem ok_is_sheet (F : FunAt K mg "is_sheet" Hd.s_is_sheet ["thing"]) (h_parts_of : Has P w K mg base 2 "parts_of" ["fields", "hanging"] sp_parts_of) (h_borders_of : Has P w K mg base 2 "borders_of" ["fields"] sp_borders_of) (h_is_border : Has P w K mg base 3 "is_border" ["thing"] sp_is_border) (h_rises : Has P w K mg base 1 "rises" ["thing"] sp_rises) (h_is_field : Has P w K mg base 2 "is_field" ["thing"] sp_is_field) (m_isinstance : mg "isinstance" = none) (m_len : mg "len" = none) (m_tuple : mg "tuple" = none) (c_MOST_FIELDS : ∃ t, mg "MOST_FIELDS" = some (.int 16 t)) : Has P w K mg base 4 "is_sheet" ["thing"] sp_is_sheet := by
  refine okH (N := n_is_sheet) (k := 3) F sc_is_sheet len_is_sheet (fun f cdv A outer s H E hr args S Q Ed hsp tk => ⟨t_is_sheet (fun cls od _ S' => Ed cls od S'), ?_, rd_is_sheet hsp⟩)
  have hu := hu_of hr
  have hN : n_is_sheet.Nodup := sc_is_sheet.nd
  have hp : PassesOwn (model P w) (cxOf (L2.CX P w) P w K mg base n_is_sheet "is_sheet" (defScope Hd.s_is_sheet) f cdv A outer s H E).A (cxOf (L2.CX P w) P w K mg base n_is_sheet "is_sheet" (defScope Hd.s_is_sheet) f cdv A outer s H E).env (cxOf (L2.CX P w) P w K mg base n_is_sheet "is_sheet" (defScope Hd.s_is_sheet) f cdv A outer s H E).xe := passes_of rfl
  unfold t_is_sheet 
  exact (dss_cons (ds_if (DW.dt (dw_or (dt_not (dt_tru (de_callB call_isiD (by rfl) m_isinstance boot_isinstance (da_cons (dv 0) (da_cons (de_ty rfl m_tuple boot_tuple) da_nil))))) (dw_or (dt_cmp (op_neD hu) (de_callB call_lenD (by rfl) m_len boot_len (da_cons (dv 0) da_nil)) de_int (nomark _)) (dw_or1 (dt_not (dt_tru (de_callB call_isiD (by rfl) m_isinstance boot_isinstance (da_cons (de_ix hu (dv 0) de_int (fun _ _ => rfl)) (da_cons (de_ty rfl m_tuple boot_tuple) da_nil))))))))) (dss_one (ds_ret de_bl)) dss_nil)
  (dss_cons (ds_if (DW.dt (dw_or (dt_not (dt_chain op_leI op_leI de_int (de_callB call_lenD (by rfl) m_len boot_len (da_cons (de_ix hu (dv 0) de_int (fun _ _ => rfl)) da_nil)) (de_gint c_MOST_FIELDS))) (dw_or (dt_tru (de_lc rfl hN (di_val (de_ix hu (dv 0) de_int (fun _ _ => rfl))) (blkOk_of (own := ([("one", 2)] : List (Str × Nat))) (by kernel_rfl)) (gr_name (by decide)) (fun _ _ _ _ _ => (pg_name hN rfl (by first | exact Or.inl rfl | exact Or.inr rfl))) (fun _ _ _ _ _ => (dts_one (dt_not (dt_tru (de_callH h_is_field hr (by decide) dtk0 (da_cons (dv 2) da_nil)))))) (fun _ _ _ _ _ => (dv 2)))) (dw_or1 (dt_not (dt_tru (de_callH h_rises hr (by decide) tk (da_cons (de_ix hu (dv 0) de_int (fun _ _ => rfl)) da_nil)))))))) (dss_one (ds_ret de_bl)) dss_nil)
  (dss_cons (ds_if (DW.dt (dw_or (dt_not (dt_tru (de_callB call_isiD (by rfl) m_isinstance boot_isinstance (da_cons (de_ix hu (dv 0) de_int (fun _ _ => rfl)) (da_cons (de_ty rfl m_tuple boot_tuple) da_nil))))) (dw_or (dt_tru (de_lc rfl hN (di_val (de_ix hu (dv 0) de_int (fun _ _ => rfl))) (blkOk_of (own := ([("one", 2)] : List (Str × Nat))) (by kernel_rfl)) (gr_name (by decide)) (fun _ _ _ _ _ => (pg_name hN rfl (by first | exact Or.inl rfl | exact Or.inr rfl))) (fun _ _ _ _ _ => (dts_one (dt_not (dt_tru (de_callH h_is_border hr (by decide) dtk0 (da_cons (dv 2) da_nil)))))) (fun _ _ _ _ _ => (dv 2)))) (dw_or1 (dt_not (dt_tru (de_callH h_rises hr (by decide) tk (da_cons (de_ix hu (dv 0) de_int (fun _ _ => rfl)) da_nil)))))))) (dss_one (ds_ret de_bl)) dss_nil)
  (dss_cons (ds_set (i := 1) hN rfl (by first | exact Or.inl rfl | exact Or.inr rfl) (de_callH h_borders_of hr (by decide) tk (da_cons (de_ix hu (dv 0) de_int (fun _ _ => rfl)) da_nil)))
  (dss_one (ds_ret (de_and (de_not (de_lc rfl hN (di_val (de_ix hu (dv 0) de_int (fun _ _ => rfl))) (blkOk_of (own := ([("one", 2)] : List (Str × Nat))) (by kernel_rfl)) (gr_name (by decide)) (fun _ _ _ _ _ => (pg_name hN rfl (by first | exact Or.inl rfl | exact Or.inr rfl))) (fun _ _ _ _ _ => (dts_one (dt_cmp (op_ninD hu) (dv 2) (dv 1) rfl))) (fun _ _ _ _ _ => (dv 2)))) (de_one (de_cmp (op_eqD hu) (de_callB call_lenD (by rfl) m_len boot_len (da_cons (de_callH h_parts_of hr (by decide) tk (da_cons (de_ix hu (dv 0) de_int (fun _ _ => rfl)) (da_cons (dv 1) da_nil))) da_nil)) de_int (nomark _))))))))))
theorem sc_is_torn : FnScope n_is_torn ["sheet", "thing"] (defScope Hd.s_is_torn) := fnScope_of (by kernel_rfl)
theorem ok_is_torn (F : FunAt K mg "is_torn" Hd.s_is_torn ["sheet", "thing"]) (h_is_border : Has P w K mg base 3 "is_border" ["thing"] sp_is_border) (h_rises : Has P w K mg base 1 "rises" ["thing"] sp_rises) (m_isinstance : mg "isinstance" = none) (m_tuple : mg "tuple" = none) : Has P w K mg base 4 "is_torn" ["sheet", "thing"] sp_is_torn := by
  refine okH (N := n_is_torn) (k := 3) F sc_is_torn len_is_torn (fun f cdv A outer s H E hr args S Q Ed hsp tk => ⟨t_is_torn (fun cls od _ S' => Ed cls od S'), ?_, rd_is_torn hsp⟩)
  have hu := hu_of hr
  have hN : n_is_torn.Nodup := sc_is_torn.nd
  have hp : PassesOwn (model P w) (cxOf (L2.CX P w) P w K mg base n_is_torn "is_torn" (defScope Hd.s_is_torn) f cdv A outer s H E).A (cxOf (L2.CX P w) P w K mg base n_is_torn "is_torn" (defScope Hd.s_is_torn) f cdv A outer s H E).env (cxOf (L2.CX P w) P w K mg base n_is_torn "is_torn" (defScope Hd.s_is_torn) f cdv A outer s H E).xe := passes_of rfl
  unfold t_is_torn 
  exact (dss_cons (ds_if (DW.dt (dw_or (dt_not (dt_tru (de_callB call_isiD (by rfl) m_isinstance boot_isinstance (da_cons (dv 1) (da_cons (de_ty rfl m_tuple boot_tuple) da_nil))))) (dw_or (dt_tru (de_lc rfl hN (di_val (dv 1)) (blkOk_of (own := ([("one", 2)] : List (Str × Nat))) (by kernel_rfl)) (gr_name (by decide)) (fun _ _ _ _ _ => (pg_name hN rfl (by first | exact Or.inl rfl | exact Or.inr rfl))) (fun _ _ _ _ _ => (dts_one (dt_not (dt_tru (de_callH h_is_border hr (by decide) dtk0 (da_cons (dv 2) da_nil)))))) (fun _ _ _ _ _ => (dv 2)))) (dw_or1 (dt_not (dt_tru (de_callH h_rises hr (by decide) tk (da_cons (dv 1) da_nil)))))))) (dss_one (ds_ret de_bl)) dss_nil)
  (dss_one (ds_ret (de_not (de_lc rfl hN (di_val (dv 1)) (blkOk_of (own := ([("one", 2)] : List (Str × Nat))) (by kernel_rfl)) (gr_name (by decide)) (fun _ _ _ _ _ => (pg_name hN rfl (by first | exact Or.inl rfl | exact Or.inr rfl))) (fun _ _ _ _ _ => (dts_one (dt_cmp (op_ninD hu) (dv 2) (de_ix hu (dv 0) de_int (fun _ _ => rfl)) rfl))) (fun _ _ _ _ _ => (dv 2)))))))
theorem sc_look_border : FnScope n_look_border ["sheet", "border"] (defScope Hd.s_look_border) := fnScope_of (by kernel_rfl)
theorem ok_look_border (F : FunAt K mg "look_border" Hd.s_look_border ["sheet", "border"]) (h_is_border : Has P w K mg base 3 "is_border" ["thing"] sp_is_border) (h_borders_of : Has P w K mg base 2 "borders_of" ["fields"] sp_borders_of) (e_BadBorder : ExcN K mg "BadBorder") : Has P w K mg base 4 "look_border" ["sheet", "border"] sp_look_border := by
  refine okH (N := n_look_border) (k := 3) F sc_look_border len_look_border (fun f cdv A outer s H E hr args S Q Ed hsp tk => ⟨t_look_border (fun cls od _ S' => Ed cls od S'), ?_, rd_look_border hsp⟩)
  have hu := hu_of hr
  have hN : n_look_border.Nodup := sc_look_border.nd
  have hp : PassesOwn (model P w) (cxOf (L2.CX P w) P w K mg base n_look_border "look_border" (defScope Hd.s_look_border) f cdv A outer s H E).A (cxOf (L2.CX P w) P w K mg base n_look_border "look_border" (defScope Hd.s_look_border) f cdv A outer s H E).env (cxOf (L2.CX P w) P w K mg base n_look_border "look_border" (defScope Hd.s_look_border) f cdv A outer s H E).xe := passes_of rfl
  unfold t_look_border 
  exact (dss_one (ds_if (DW.dt (dw_or (dt_not (dt_tru (de_callH h_is_border hr (by decide) tk (da_cons (dv 1) da_nil)))) (dw_or1 (dt_cmp (op_ninD hu) (dv 1) (de_callH h_borders_of hr (by decide) tk (da_cons (de_ix hu (dv 0) de_int (fun _ _ => rfl)) da_nil)) rfl)))) (dss_one (ds_raise0 rfl tk e_BadBorder rfl)) dss_nil))
theorem sc_tear_at : FnScope n_tear_at ["hanging", "pricks", "border"] (defScope Hd.s_tear_at) := fnScope_of (by kernel_rfl)
theorem ok_tear_at (F : FunAt K mg "tear_at" Hd.s_tear_at ["hanging", "pricks", "border"]) (h_run_of : Has P w K mg base 3 "run_of" ["hanging", "border", "way"] sp_run_of) (m_sorted : mg "sorted" = none) (m_tuple : mg "tuple" = none) : Has P w K mg base 4 "tear_at" ["hanging", "pricks", "border"] sp_tear_at := by
  refine okH (N := n_tear_at) (k := 3) F sc_tear_at len_tear_at (fun f cdv A outer s H E hr args S Q Ed hsp tk => ⟨t_tear_at (fun cls od _ S' => Ed cls od S'), ?_, rd_tear_at hsp⟩)
  have hu := hu_of hr
  have hN : n_tear_at.Nodup := sc_tear_at.nd
  have hp : PassesOwn (model P w) (cxOf (L2.CX P w) P w K mg base n_tear_at "tear_at" (defScope Hd.s_tear_at) f cdv A outer s H E).A (cxOf (L2.CX P w) P w K mg base n_tear_at "tear_at" (defScope Hd.s_tear_at) f cdv A outer s H E).env (cxOf (L2.CX P w) P w K mg base n_tear_at "tear_at" (defScope Hd.s_tear_at) f cdv A outer s H E).xe := passes_of rfl
  unfold t_tear_at 
  exact (dss_cons (ds_if (dt_cmp (op_ninD hu) (dv 2) (dv 0) rfl) (dss_one (ds_ret de_non)) dss_nil)
  (dss_cons (ds_set (i := 3) hN rfl (by first | exact Or.inl rfl | exact Or.inr rfl) (de_callB (call_sortD rfl hu) (by rfl) m_sorted boot_sorted (da_cons (de_op op_catD (de_op op_catD (de_callH h_run_of hr (by decide) tk (da_cons (dv 0) (da_cons (dv 2) (da_cons (de_un un_negI de_int) da_nil)))) (de_lst (da_cons (dv 2) da_nil))) (de_callH h_run_of hr (by decide) tk (da_cons (dv 0) (da_cons (dv 2) (da_cons de_int da_nil))))) da_nil)))
  (dss_one (ds_ret (de_if (dt_tru (de_lc rfl hN (di_val (dv 3)) (blkOk_of (own := ([("one", 4)] : List (Str × Nat))) (by kernel_rfl)) (gr_name (by decide)) (fun _ _ _ _ _ => (pg_name hN rfl (by first | exact Or.inl rfl | exact Or.inr rfl))) (fun _ _ _ _ _ => (dts_one (dt_cmp (op_ninD hu) (dv 4) (dv 1) rfl))) (fun _ _ _ _ _ => (dv 4)))) de_non (de_callTy call_tupD (by rfl) m_tuple boot_tuple (da_cons (dv 3) da_nil)))))))
theorem sc_measure_of : FnScope n_measure_of ["fields", "hanging"] (defScope Hd.s_measure_of) := fnScope_of (by kernel_rfl)
theorem ok_measure_of (F : FunAt K mg "measure_of" Hd.s_measure_of ["fields", "hanging"]) (h_corners_of : Has P w K mg base 3 "corners_of" ["hanging"] sp_corners_of) (m_len : mg "len" = none) : Has P w K mg base 4 "measure_of" ["fields", "hanging"] sp_measure_of := by
  refine okH (N := n_measure_of) (k := 3) F sc_measure_of len_measure_of (fun f cdv A outer s H E hr args S Q Ed hsp tk => ⟨t_measure_of (fun cls od _ S' => Ed cls od S'), ?_, rd_measure_of hsp⟩)
  have hu := hu_of hr
  have hN : n_measure_of.Nodup := sc_measure_of.nd
  have hp : PassesOwn (model P w) (cxOf (L2.CX P w) P w K mg base n_measure_of "measure_of" (defScope Hd.s_measure_of) f cdv A outer s H E).A (cxOf (L2.CX P w) P w K mg base n_measure_of "measure_of" (defScope Hd.s_measure_of) f cdv A outer s H E).env (cxOf (L2.CX P w) P w K mg base n_measure_of "measure_of" (defScope Hd.s_measure_of) f cdv A outer s H E).xe := passes_of rfl
  unfold t_measure_of 
  exact (dss_one (ds_ret (de_op op_catD (de_op op_subI (de_callB call_lenD (by rfl) m_len boot_len (da_cons (dv 0) da_nil)) (de_callB call_lenD (by rfl) m_len boot_len (da_cons (dv 1) da_nil))) (de_callH h_corners_of hr (by decide) tk (da_cons (dv 1) da_nil)))))
theorem sc_pieces_of : FnScope n_pieces_of ["sheet", "torn"] (defScope Hd.s_pieces_of) := fnScope_of (by kernel_rfl)
theorem ok_pieces_of (F : FunAt K mg "pieces_of" Hd.s_pieces_of ["sheet", "torn"]) (h_parts_of : Has P w K mg base 2 "parts_of" ["fields", "hanging"] sp_parts_of) (h_hanging_of : Has P w K mg base 3 "hanging_of" ["sheet", "torn"] sp_hanging_of) (m_list : mg "list" = none) : Has P w K mg base 4 "pieces_of" ["sheet", "torn"] sp_pieces_of := by
  refine okH (N := n_pieces_of) (k := 3) F sc_pieces_of len_pieces_of (fun f cdv A outer s H E hr args S Q Ed hsp tk => ⟨t_pieces_of (fun cls od _ S' => Ed cls od S'), ?_, rd_pieces_of hsp⟩)
  have hu := hu_of hr
  have hN : n_pieces_of.Nodup := sc_pieces_of.nd
  have hp : PassesOwn (model P w) (cxOf (L2.CX P w) P w K mg base n_pieces_of "pieces_of" (defScope Hd.s_pieces_of) f cdv A outer s H E).A (cxOf (L2.CX P w) P w K mg base n_pieces_of "pieces_of" (defScope Hd.s_pieces_of) f cdv A outer s H E).env (cxOf (L2.CX P w) P w K mg base n_pieces_of "pieces_of" (defScope Hd.s_pieces_of) f cdv A outer s H E).xe := passes_of rfl
  unfold t_pieces_of 
  exact (dss_one (ds_ret (de_callH h_parts_of hr (by decide) tk (da_cons (de_ix hu (dv 0) de_int (fun _ _ => rfl)) (da_cons (de_callTy (call_lstK rfl) (by rfl) m_list boot_list (da_cons (de_callH h_hanging_of hr (by decide) tk (da_cons (dv 0) (da_cons (dv 1) da_nil))) da_nil)) da_nil)))))
theorem sc__law_end : FnScope n__law_end ["sheet", "torn", "draws"] (defScope Hd.s__law_end) := fnScope_of (by kernel_rfl)
theorem ok__law_end (F : FunAt K mg "_law_end" Hd.s__law_end ["sheet", "torn", "draws"]) (h__law_tears : Has P w K mg base 3 "_law_tears" ["sheet", "torn"] sp__law_tears) (m_len : mg "len" = none) (m_sorted : mg "sorted" = none) (m_tuple : mg "tuple" = none) : Has P w K mg base 4 "_law_end" ["sheet", "torn", "draws"] sp__law_end := by
  refine okH (N := n__law_end) (k := 3) F sc__law_end len__law_end (fun f cdv A outer s H E hr args S Q Ed hsp tk => ⟨t__law_end (fun cls od _ S' => Ed cls od S'), ?_, rd__law_end hsp⟩)
  have hu := hu_of hr
  have hN : n__law_end.Nodup := sc__law_end.nd
  have hp : PassesOwn (model P w) (cxOf (L2.CX P w) P w K mg base n__law_end "_law_end" (defScope Hd.s__law_end) f cdv A outer s H E).A (cxOf (L2.CX P w) P w K mg base n__law_end "_law_end" (defScope Hd.s__law_end) f cdv A outer s H E).env (cxOf (L2.CX P w) P w K mg base n__law_end "_law_end" (defScope Hd.s__law_end) f cdv A outer s H E).xe := passes_of rfl
  unfold t__law_end l__law_end_1
  exact (dss_cons (ds_set (i := 3) hN rfl (by first | exact Or.inl rfl | exact Or.inr rfl) de_int)
  (dss_cons (ds_set (i := 4) hN rfl (by first | exact Or.inl rfl | exact Or.inr rfl) (de_callH h__law_tears hr (by decide) tk (da_cons (dv 0) (da_cons (dv 1) da_nil))))
  (dss_cons (ds_while hp (dt_cmp (op_neD hu) (dv 4) (de_lst da_nil) (nomark _)) (dss_cons (ds_set (i := 1) hN rfl (by first | exact Or.inl rfl | exact Or.inr rfl) (de_callTy call_tupD (by rfl) m_tuple boot_tuple (da_cons (de_callB (call_sortD rfl hu) (by rfl) m_sorted boot_sorted (da_cons (de_op op_catD (dv 1) (de_ix hu (dv 4) (de_op op_modI (de_ix hu (dv 2) (de_op op_modI (dv 3) de_int) (fun _ _ => rfl)) (de_callB call_lenD (by rfl) m_len boot_len (da_cons (dv 4) da_nil))) (fun _ _ => rfl))) da_nil)) da_nil)))
  (dss_cons (ds_set (i := 3) hN rfl (by first | exact Or.inl rfl | exact Or.inr rfl) (de_op op_catD (dv 3) de_int))
  (dss_one (ds_set (i := 4) hN rfl (by first | exact Or.inl rfl | exact Or.inr rfl) (de_callH h__law_tears hr (by decide) tk (da_cons (dv 0) (da_cons (dv 1) da_nil))))))))
  (dss_one (ds_ret (de_tup (da_cons (dv 1) (da_cons (dv 3) da_nil))))))))
theorem sc_look : FnScope n_look ["sheet"] (defScope Hd.s_look) := fnScope_of (by kernel_rfl)
theorem ok_look (F : FunAt K mg "look" Hd.s_look ["sheet"]) (h_is_sheet : Has P w K mg base 4 "is_sheet" ["thing"] sp_is_sheet) (e_BadSheet : ExcN K mg "BadSheet") : Has P w K mg base 5 "look" ["sheet"] sp_look := by
  refine okH (N := n_look) (k := 4) F sc_look len_look (fun f cdv A outer s H E hr args S Q Ed hsp tk => ⟨t_look (fun cls od _ S' => Ed cls od S'), ?_, rd_look hsp⟩)
  have hu := hu_of hr
  have hN : n_look.Nodup := sc_look.nd
  have hp : PassesOwn (model P w) (cxOf (L2.CX P w) P w K mg base n_look "look" (defScope Hd.s_look) f cdv A outer s H E).A (cxOf (L2.CX P w) P w K mg base n_look "look" (defScope Hd.s_look) f cdv A outer s H E).env (cxOf (L2.CX P w) P w K mg base n_look "look" (defScope Hd.s_look) f cdv A outer s H E).xe := passes_of rfl
  unfold t_look 
  exact (dss_one (ds_if (dt_not (dt_tru (de_callH h_is_sheet hr (by decide) tk (da_cons (dv 0) da_nil)))) (dss_one (ds_raise0 rfl tk e_BadSheet rfl)) dss_nil))
theorem sc_tears_of : FnScope n_tears_of ["hanging", "pricks"] (defScope Hd.s_tears_of) := fnScope_of (by kernel_rfl)
theorem ok_tears_of (F : FunAt K mg "tears_of" Hd.s_tears_of ["hanging", "pricks"]) (h_tear_at : Has P w K mg base 4 "tear_at" ["hanging", "pricks", "border"] sp_tear_at) (m_sorted : mg "sorted" = none) : Has P w K mg base 5 "tears_of" ["hanging", "pricks"] sp_tears_of := by
  refine okH (N := n_tears_of) (k := 4) F sc_tears_of len_tears_of (fun f cdv A outer s H E hr args S Q Ed hsp tk => ⟨t_tears_of (fun cls od _ S' => Ed cls od S'), ?_, rd_tears_of hsp⟩)
  have hu := hu_of hr
  have hN : n_tears_of.Nodup := sc_tears_of.nd
  have hp : PassesOwn (model P w) (cxOf (L2.CX P w) P w K mg base n_tears_of "tears_of" (defScope Hd.s_tears_of) f cdv A outer s H E).A (cxOf (L2.CX P w) P w K mg base n_tears_of "tears_of" (defScope Hd.s_tears_of) f cdv A outer s H E).env (cxOf (L2.CX P w) P w K mg base n_tears_of "tears_of" (defScope Hd.s_tears_of) f cdv A outer s H E).xe := passes_of rfl
  unfold t_tears_of l_tears_of_1
  exact (dss_cons (ds_set (i := 2) hN rfl (by first | exact Or.inl rfl | exact Or.inr rfl) de_dict0)
  (dss_cons (ds_for hp rfl (di_val (dv 1)) (dg_name hN rfl (by first | exact Or.inl rfl | exact Or.inr rfl)) (dss_cons (ds_set (i := 4) hN rfl (by first | exact Or.inl rfl | exact Or.inr rfl) (de_callH h_tear_at hr (by decide) tk (da_cons (dv 0) (da_cons (dv 1) (da_cons (dv 3) da_nil)))))
  (dss_one (ds_if (dt_cmp op_notND (dv 4) de_non (nomark _)) (dss_one (ds_setIx hu (dv 2) (dv 4) de_bl)) dss_nil))))
  (dss_one (ds_ret (de_callB (call_sortD rfl hu) (by rfl) m_sorted boot_sorted (da_cons (dv 2) da_nil))))))
theorem sc_look_torn : FnScope n_look_torn ["sheet", "torn"] (defScope Hd.s_look_torn) := fnScope_of (by kernel_rfl)
theorem ok_look_torn (F : FunAt K mg "look_torn" Hd.s_look_torn ["sheet", "torn"]) (h_is_torn : Has P w K mg base 4 "is_torn" ["sheet", "thing"] sp_is_torn) (h_look : Has P w K mg base 5 "look" ["sheet"] sp_look) (e_BadTorn : ExcN K mg "BadTorn") : Has P w K mg base 6 "look_torn" ["sheet", "torn"] sp_look_torn := by
  refine okH (N := n_look_torn) (k := 5) F sc_look_torn len_look_torn (fun f cdv A outer s H E hr args S Q Ed hsp tk => ⟨t_look_torn (fun cls od _ S' => Ed cls od S'), ?_, rd_look_torn hsp⟩)
  have hu := hu_of hr
  have hN : n_look_torn.Nodup := sc_look_torn.nd
  have hp : PassesOwn (model P w) (cxOf (L2.CX P w) P w K mg base n_look_torn "look_torn" (defScope Hd.s_look_torn) f cdv A outer s H E).A (cxOf (L2.CX P w) P w K mg base n_look_torn "look_torn" (defScope Hd.s_look_torn) f cdv A outer s H E).env (cxOf (L2.CX P w) P w K mg base n_look_torn "look_torn" (defScope Hd.s_look_torn) f cdv A outer s H E).xe := passes_of rfl
  unfold t_look_torn 
  exact (dss_cons (ds_expr (de_callH h_look hr (by decide) tk (da_cons (dv 0) da_nil)))
  (dss_one (ds_if (dt_not (dt_tru (de_callH h_is_torn hr (by decide) tk (da_cons (dv 0) (da_cons (dv 1) da_nil))))) (dss_one (ds_raise0 rfl tk e_BadTorn rfl)) dss_nil)))
theorem sc_first_row : FnScope n_first_row ["sheet", "torn"] (defScope Hd.s_first_row) := fnScope_of (by kernel_rfl)
theorem ok_first_row (F : FunAt K mg "first_row" Hd.s_first_row ["sheet", "torn"]) (h_tears_of : Has P w K mg base 5 "tears_of" ["hanging", "pricks"] sp_tears_of) (h_pricks_of : Has P w K mg base 1 "pricks_of" ["sheet"] sp_pricks_of) (h_hanging_of : Has P w K mg base 3 "hanging_of" ["sheet", "torn"] sp_hanging_of) (m_tuple : mg "tuple" = none) : Has P w K mg base 6 "first_row" ["sheet", "torn"] sp_first_row := by
  refine okH (N := n_first_row) (k := 5) F sc_first_row len_first_row (fun f cdv A outer s H E hr args S Q Ed hsp tk => ⟨t_first_row (fun cls od _ S' => Ed cls od S'), ?_, rd_first_row hsp⟩)
  have hu := hu_of hr
  have hN : n_first_row.Nodup := sc_first_row.nd
  have hp : PassesOwn (model P w) (cxOf (L2.CX P w) P w K mg base n_first_row "first_row" (defScope Hd.s_first_row) f cdv A outer s H E).A (cxOf (L2.CX P w) P w K mg base n_first_row "first_row" (defScope Hd.s_first_row) f cdv A outer s H E).env (cxOf (L2.CX P w) P w K mg base n_first_row "first_row" (defScope Hd.s_first_row) f cdv A outer s H E).xe := passes_of rfl
  unfold t_first_row l_first_row_2 l_first_row_1
  exact (dss_cons (ds_asg (de_tup (da_cons (de_callH h_hanging_of hr (by decide) tk (da_cons (dv 0) (da_cons (dv 1) da_nil))) (da_cons (de_callH h_pricks_of hr (by decide) tk (da_cons (dv 0) da_nil)) da_nil))) (dg_tup rfl (dgs_cons (dg_name hN rfl (by first | exact Or.inl rfl | exact Or.inr rfl)) (dgs_cons (dg_name hN rfl (by first | exact Or.inl rfl | exact Or.inr rfl)) dgs_nil))))
  (dss_cons (ds_set (i := 4) hN rfl (by first | exact Or.inl rfl | exact Or.inr rfl) (de_lst da_nil))
  (dss_cons (ds_set (i := 5) hN rfl (by first | exact Or.inl rfl | exact Or.inr rfl) (de_callH h_tears_of hr (by decide) tk (da_cons (dv 2) (da_cons (dv 3) da_nil))))
  (dss_cons (ds_while hp (dt_tru (dv 5)) (dss_cons (ds_expr (m_app (dv 4) (da_cons (de_ix hu (de_ix hu (dv 5) de_int (fun _ _ => rfl)) de_int (fun _ _ => rfl)) da_nil)))
  (dss_cons (ds_for hp rfl (di_val (de_ix hu (dv 5) de_int (fun _ _ => rfl))) (dg_name hN rfl (by first | exact Or.inl rfl | exact Or.inr rfl)) (dss_one (ds_expr (m_popK hu (dv 2) (da_cons (dv 6) da_nil)))))
  (dss_one (ds_set (i := 5) hN rfl (by first | exact Or.inl rfl | exact Or.inr rfl) (de_callH h_tears_of hr (by decide) tk (da_cons (dv 2) (da_cons (dv 3) da_nil))))))))
  (dss_cons (ds_set (i := 7) hN rfl (by first | exact Or.inl rfl | exact Or.inr rfl) (de_callTy call_tupD (by rfl) m_tuple boot_tuple (da_cons (de_lc rfl hN (di_val (de_ix hu (dv 0) de_int (fun _ _ => rfl))) (blkOk_of (own := ([("border", 6)] : List (Str × Nat))) (by kernel_rfl)) (gr_name (by decide)) (fun _ _ _ _ _ => (pg_name hN rfl (by first | exact Or.inl rfl | exact Or.inr rfl))) (fun _ _ _ _ _ => (dts_one (dt_cmp (op_ninD hu) (dv 6) (dv 2) rfl))) (fun _ _ _ _ _ => (dv 6))) da_nil)))
  (dss_one (ds_ret (de_tup (da_cons (dv 4) (da_cons (dv 7) da_nil))))))))))
theorem sc_tears : FnScope n_tears ["sheet", "torn"] (defScope Hd.s_tears) := fnScope_of (by kernel_rfl)
theorem ok_tears (F : FunAt K mg "tears" Hd.s_tears ["sheet", "torn"]) (h_tears_of : Has P w K mg base 5 "tears_of" ["hanging", "pricks"] sp_tears_of) (h_pricks_of : Has P w K mg base 1 "pricks_of" ["sheet"] sp_pricks_of) (h_hanging_of : Has P w K mg base 3 "hanging_of" ["sheet", "torn"] sp_hanging_of) (h_look_torn : Has P w K mg base 6 "look_torn" ["sheet", "torn"] sp_look_torn) : Has P w K mg base 7 "tears" ["sheet", "torn"] sp_tears := by
  refine okH (N := n_tears) (k := 6) F sc_tears len_tears (fun f cdv A outer s H E hr args S Q Ed hsp tk => ⟨t_tears (fun cls od _ S' => Ed cls od S'), ?_, rd_tears hsp⟩)
  have hu := hu_of hr
  have hN : n_tears.Nodup := sc_tears.nd
  have hp : PassesOwn (model P w) (cxOf (L2.CX P w) P w K mg base n_tears "tears" (defScope Hd.s_tears) f cdv A outer s H E).A (cxOf (L2.CX P w) P w K mg base n_tears "tears" (defScope Hd.s_tears) f cdv A outer s H E).env (cxOf (L2.CX P w) P w K mg base n_tears "tears" (defScope Hd.s_tears) f cdv A outer s H E).xe := passes_of rfl
  unfold t_tears 
  exact (dss_cons (ds_expr (de_callH h_look_torn hr (by decide) tk (da_cons (dv 0) (da_cons (dv 1) da_nil))))
  (dss_one (ds_ret (de_callH h_tears_of hr (by decide) tk (da_cons (de_callH h_hanging_of hr (by decide) tk (da_cons (dv 0) (da_cons (dv 1) da_nil))) (da_cons (de_callH h_pricks_of hr (by decide) tk (da_cons (dv 0) da_nil)) da_nil))))))
theorem sc_torn_by : FnScope n_torn_by ["sheet", "torn", "border"] (defScope Hd.s_torn_by) := fnScope_of (by kernel_rfl)
theorem ok_torn_by (F : FunAt K mg "torn_by" Hd.s_torn_by ["sheet", "torn", "border"]) (h_tear_at : Has P w K mg base 4 "tear_at" ["hanging", "pricks", "border"] sp_tear_at) (h_pricks_of : Has P w K mg base 1 "pricks_of" ["sheet"] sp_pricks_of) (h_hanging_of : Has P w K mg base 3 "hanging_of" ["sheet", "torn"] sp_hanging_of) (h_look_border : Has P w K mg base 4 "look_border" ["sheet", "border"] sp_look_border) (h_look_torn : Has P w K mg base 6 "look_torn" ["sheet", "torn"] sp_look_torn) (m_sorted : mg "sorted" = none) (m_tuple : mg "tuple" = none) (x_NoTear : HasX P w K mg base "NoTear" "at") : Has P w K mg base 7 "torn_by" ["sheet", "torn", "border"] sp_torn_by := by
  refine okH (N := n_torn_by) (k := 6) F sc_torn_by len_torn_by (fun f cdv A outer s H E hr args S Q Ed hsp tk => ⟨t_torn_by (fun cls od _ S' => Ed cls od S'), ?_, rd_torn_by hsp⟩)
  have hu := hu_of hr
  have hN : n_torn_by.Nodup := sc_torn_by.nd
  have hp : PassesOwn (model P w) (cxOf (L2.CX P w) P w K mg base n_torn_by "torn_by" (defScope Hd.s_torn_by) f cdv A outer s H E).A (cxOf (L2.CX P w) P w K mg base n_torn_by "torn_by" (defScope Hd.s_torn_by) f cdv A outer s H E).env (cxOf (L2.CX P w) P w K mg base n_torn_by "torn_by" (defScope Hd.s_torn_by) f cdv A outer s H E).xe := passes_of rfl
  unfold t_torn_by 
  exact (dss_cons (ds_expr (de_callH h_look_torn hr (by decide) tk (da_cons (dv 0) (da_cons (dv 1) da_nil))))
  (dss_cons (ds_expr (de_callH h_look_border hr (by decide) tk (da_cons (dv 0) (da_cons (dv 2) da_nil))))
  (dss_cons (ds_set (i := 3) hN rfl (by first | exact Or.inl rfl | exact Or.inr rfl) (de_callH h_tear_at hr (by decide) tk (da_cons (de_callH h_hanging_of hr (by decide) tk (da_cons (dv 0) (da_cons (dv 1) da_nil))) (da_cons (de_callH h_pricks_of hr (by decide) tk (da_cons (dv 0) da_nil)) (da_cons (dv 2) da_nil)))))
  (dss_cons (ds_if (dt_cmp op_isND (dv 3) de_non (nomark _)) (dss_one (ds_raiseX x_NoTear hr (by decide) rfl tk de_int)) dss_nil)
  (dss_one (ds_ret (de_callTy call_tupD (by rfl) m_tuple boot_tuple (da_cons (de_callB (call_sortD rfl hu) (by rfl) m_sorted boot_sorted (da_cons (de_op op_catD (dv 1) (dv 3)) da_nil)) da_nil))))))))
theorem sc_measure : FnScope n_measure ["sheet", "torn"] (defScope Hd.s_measure) := fnScope_of (by kernel_rfl)
theorem ok_measure (F : FunAt K mg "measure" Hd.s_measure ["sheet", "torn"]) (h_measure_of : Has P w K mg base 4 "measure_of" ["fields", "hanging"] sp_measure_of) (h_hanging_of : Has P w K mg base 3 "hanging_of" ["sheet", "torn"] sp_hanging_of) (h_look_torn : Has P w K mg base 6 "look_torn" ["sheet", "torn"] sp_look_torn) : Has P w K mg base 7 "measure" ["sheet", "torn"] sp_measure := by
  refine okH (N := n_measure) (k := 6) F sc_measure len_measure (fun f cdv A outer s H E hr args S Q Ed hsp tk => ⟨t_measure (fun cls od _ S' => Ed cls od S'), ?_, rd_measure hsp⟩)
  have hu := hu_of hr
  have hN : n_measure.Nodup := sc_measure.nd
  have hp : PassesOwn (model P w) (cxOf (L2.CX P w) P w K mg base n_measure "measure" (defScope Hd.s_measure) f cdv A outer s H E).A (cxOf (L2.CX P w) P w K mg base n_measure "measure" (defScope Hd.s_measure) f cdv A outer s H E).env (cxOf (L2.CX P w) P w K mg base n_measure "measure" (defScope Hd.s_measure) f cdv A outer s H E).xe := passes_of rfl
  unfold t_measure 
  exact (dss_cons (ds_expr (de_callH h_look_torn hr (by decide) tk (da_cons (dv 0) (da_cons (dv 1) da_nil))))
  (dss_one (ds_ret (de_callH h_measure_of hr (by decide) tk (da_cons (de_ix hu (dv 0) de_int (fun _ _ => rfl)) (da_cons (de_callH h_hanging_of hr (by decide) tk (da_cons (dv 0) (da_cons (dv 1) da_nil))) da_nil))))))
theorem sc_pieces : FnScope n_pieces ["sheet", "torn"] (defScope Hd.s_pieces) := fnScope_of (by kernel_rfl)
theorem ok_pieces (F : FunAt K mg "pieces" Hd.s_pieces ["sheet", "torn"]) (h_pieces_of : Has P w K mg base 4 "pieces_of" ["sheet", "torn"] sp_pieces_of) (h_look_torn : Has P w K mg base 6 "look_torn" ["sheet", "torn"] sp_look_torn) : Has P w K mg base 7 "pieces" ["sheet", "torn"] sp_pieces := by
  refine okH (N := n_pieces) (k := 6) F sc_pieces len_pieces (fun f cdv A outer s H E hr args S Q Ed hsp tk => ⟨t_pieces (fun cls od _ S' => Ed cls od S'), ?_, rd_pieces hsp⟩)
  have hu := hu_of hr
  have hN : n_pieces.Nodup := sc_pieces.nd
  have hp : PassesOwn (model P w) (cxOf (L2.CX P w) P w K mg base n_pieces "pieces" (defScope Hd.s_pieces) f cdv A outer s H E).A (cxOf (L2.CX P w) P w K mg base n_pieces "pieces" (defScope Hd.s_pieces) f cdv A outer s H E).env (cxOf (L2.CX P w) P w K mg base n_pieces "pieces" (defScope Hd.s_pieces) f cdv A outer s H E).xe := passes_of rfl
  unfold t_pieces 
  exact (dss_cons (ds_expr (de_callH h_look_torn hr (by decide) tk (da_cons (dv 0) (da_cons (dv 1) da_nil))))
  (dss_one (ds_ret (de_callH h_pieces_of hr (by decide) tk (da_cons (dv 0) (da_cons (dv 1) da_nil))))))
theorem sc_holes : FnScope n_holes ["sheet", "torn"] (defScope Hd.s_holes) := fnScope_of (by kernel_rfl)
theorem ok_holes (F : FunAt K mg "holes" Hd.s_holes ["sheet", "torn"]) (h_pieces_of : Has P w K mg base 4 "pieces_of" ["sheet", "torn"] sp_pieces_of) (h_measure_of : Has P w K mg base 4 "measure_of" ["fields", "hanging"] sp_measure_of) (h_within : Has P w K mg base 2 "within" ["hanging", "fields"] sp_within) (h_hanging_of : Has P w K mg base 3 "hanging_of" ["sheet", "torn"] sp_hanging_of) (h_look_torn : Has P w K mg base 6 "look_torn" ["sheet", "torn"] sp_look_torn) : Has P w K mg base 7 "holes" ["sheet", "torn"] sp_holes := by
  refine okH (N := n_holes) (k := 6) F sc_holes len_holes (fun f cdv A outer s H E hr args S Q Ed hsp tk => ⟨t_holes (fun cls od _ S' => Ed cls od S'), ?_, rd_holes hsp⟩)
  have hu := hu_of hr
  have hN : n_holes.Nodup := sc_holes.nd
  have hp : PassesOwn (model P w) (cxOf (L2.CX P w) P w K mg base n_holes "holes" (defScope Hd.s_holes) f cdv A outer s H E).A (cxOf (L2.CX P w) P w K mg base n_holes "holes" (defScope Hd.s_holes) f cdv A outer s H E).env (cxOf (L2.CX P w) P w K mg base n_holes "holes" (defScope Hd.s_holes) f cdv A outer s H E).xe := passes_of rfl
  unfold t_holes 
  exact (dss_cons (ds_expr (de_callH h_look_torn hr (by decide) tk (da_cons (dv 0) (da_cons (dv 1) da_nil))))
  (dss_cons (ds_set (i := 2) hN rfl (by first | exact Or.inl rfl | exact Or.inr rfl) (de_callH h_hanging_of hr (by decide) tk (da_cons (dv 0) (da_cons (dv 1) da_nil))))
  (dss_one (ds_ret (de_lc rfl hN (di_val (de_callH h_pieces_of hr (by decide) tk (da_cons (dv 0) (da_cons (dv 1) da_nil)))) (blkOk_of (own := ([("piece", 3)] : List (Str × Nat))) (by kernel_rfl)) (gr_name (by decide)) (fun _ _ _ _ _ => (pg_name hN rfl (by first | exact Or.inl rfl | exact Or.inr rfl))) (fun _ _ _ _ _ => dts_nil) (fun _ _ _ _ _ => (de_op op_subI de_int (de_callH h_measure_of hr (by decide) dtk0 (da_cons (dv 3) (da_cons (de_callH h_within hr (by decide) dtk0 (da_cons (dv 2) (da_cons (dv 3) da_nil))) da_nil))))))))))
theorem sc_end_torn : FnScope n_end_torn ["sheet"] (defScope Hd.s_end_torn) := fnScope_of (by kernel_rfl)
theorem ok_end_torn (F : FunAt K mg "end_torn" Hd.s_end_torn ["sheet"]) (h_first_row : Has P w K mg base 6 "first_row" ["sheet", "torn"] sp_first_row) : Has P w K mg base 7 "end_torn" ["sheet"] sp_end_torn := by
  refine okH (N := n_end_torn) (k := 6) F sc_end_torn len_end_torn (fun f cdv A outer s H E hr args S Q Ed hsp tk => ⟨t_end_torn (fun cls od _ S' => Ed cls od S'), ?_, rd_end_torn hsp⟩)
  have hu := hu_of hr
  have hN : n_end_torn.Nodup := sc_end_torn.nd
  have hp : PassesOwn (model P w) (cxOf (L2.CX P w) P w K mg base n_end_torn "end_torn" (defScope Hd.s_end_torn) f cdv A outer s H E).A (cxOf (L2.CX P w) P w K mg base n_end_torn "end_torn" (defScope Hd.s_end_torn) f cdv A outer s H E).env (cxOf (L2.CX P w) P w K mg base n_end_torn "end_torn" (defScope Hd.s_end_torn) f cdv A outer s H E).xe := passes_of rfl
  unfold t_end_torn 
  exact (dss_one (ds_ret (de_ix hu (de_callH h_first_row hr (by decide) tk (da_cons (dv 0) (da_cons (de_tup da_nil) da_nil))) de_int (fun _ _ => rfl))))
theorem sc_left_of : FnScope n_left_of ["sheet", "torn"] (defScope Hd.s_left_of) := fnScope_of (by kernel_rfl)
theorem ok_left_of (F : FunAt K mg "left_of" Hd.s_left_of ["sheet", "torn"]) (h_measure_of : Has P w K mg base 4 "measure_of" ["fields", "hanging"] sp_measure_of) (h_hanging_of : Has P w K mg base 3 "hanging_of" ["sheet", "torn"] sp_hanging_of) (h_first_row : Has P w K mg base 6 "first_row" ["sheet", "torn"] sp_first_row) : Has P w K mg base 7 "left_of" ["sheet", "torn"] sp_left_of := by
  refine okH (N := n_left_of) (k := 6) F sc_left_of len_left_of (fun f cdv A outer s H E hr args S Q Ed hsp tk => ⟨t_left_of (fun cls od _ S' => Ed cls od S'), ?_, rd_left_of hsp⟩)
  have hu := hu_of hr
  have hN : n_left_of.Nodup := sc_left_of.nd
  have hp : PassesOwn (model P w) (cxOf (L2.CX P w) P w K mg base n_left_of "left_of" (defScope Hd.s_left_of) f cdv A outer s H E).A (cxOf (L2.CX P w) P w K mg base n_left_of "left_of" (defScope Hd.s_left_of) f cdv A outer s H E).env (cxOf (L2.CX P w) P w K mg base n_left_of "left_of" (defScope Hd.s_left_of) f cdv A outer s H E).xe := passes_of rfl
  unfold t_left_of 
  exact (dss_cons (ds_set (i := 2) hN rfl (by first | exact Or.inl rfl | exact Or.inr rfl) (de_ix hu (de_callH h_first_row hr (by decide) tk (da_cons (dv 0) (da_cons (dv 1) da_nil))) de_int (fun _ _ => rfl)))
  (dss_one (ds_ret (de_op op_subI (de_callH h_measure_of hr (by decide) tk (da_cons (de_ix hu (dv 0) de_int (fun _ _ => rfl)) (da_cons (de_callH h_hanging_of hr (by decide) tk (da_cons (dv 0) (da_cons (dv 2) da_nil))) da_nil))) (de_callH h_measure_of hr (by decide) tk (da_cons (de_ix hu (dv 0) de_int (fun _ _ => rfl)) (da_cons (de_callH h_hanging_of hr (by decide) tk (da_cons (dv 0) (da_cons (dv 1) da_nil))) da_nil)))))))
theorem sc_end_pieces : FnScope n_end_pieces ["sheet"] (defScope Hd.s_end_pieces) := fnScope_of (by kernel_rfl)
theorem ok_end_pieces (F : FunAt K mg "end_pieces" Hd.s_end_pieces ["sheet"]) (h_pieces_of : Has P w K mg base 4 "pieces_of" ["sheet", "torn"] sp_pieces_of) (h_end_torn : Has P w K mg base 7 "end_torn" ["sheet"] sp_end_torn) (h_look : Has P w K mg base 5 "look" ["sheet"] sp_look) : Has P w K mg base 8 "end_pieces" ["sheet"] sp_end_pieces := by
  refine okH (N := n_end_pieces) (k := 7) F sc_end_pieces len_end_pieces (fun f cdv A outer s H E hr args S Q Ed hsp tk => ⟨t_end_pieces (fun cls od _ S' => Ed cls od S'), ?_, rd_end_pieces hsp⟩)
  have hu := hu_of hr
  have hN : n_end_pieces.Nodup := sc_end_pieces.nd
  have hp : PassesOwn (model P w) (cxOf (L2.CX P w) P w K mg base n_end_pieces "end_pieces" (defScope Hd.s_end_pieces) f cdv A outer s H E).A (cxOf (L2.CX P w) P w K mg base n_end_pieces "end_pieces" (defScope Hd.s_end_pieces) f cdv A outer s H E).env (cxOf (L2.CX P w) P w K mg base n_end_pieces "end_pieces" (defScope Hd.s_end_pieces) f cdv A outer s H E).xe := passes_of rfl
  unfold t_end_pieces 
  exact (dss_cons (ds_expr (de_callH h_look hr (by decide) tk (da_cons (dv 0) da_nil)))
  (dss_one (ds_ret (de_callH h_pieces_of hr (by decide) tk (da_cons (dv 0) (da_cons (de_callH h_end_torn hr (by decide) tk (da_cons (dv 0) da_nil)) da_nil))))))
theorem sc_left : FnScope n_left ["sheet", "torn"] (defScope Hd.s_left) := fnScope_of (by kernel_rfl)
theorem ok_left (F : FunAt K mg "left" Hd.s_left ["sheet", "torn"]) (h_left_of : Has P w K mg base 7 "left_of" ["sheet", "torn"] sp_left_of) (h_look_torn : Has P w K mg base 6 "look_torn" ["sheet", "torn"] sp_look_torn) : Has P w K mg base 8 "left" ["sheet", "torn"] sp_left := by
  refine okH (N := n_left) (k := 7) F sc_left len_left (fun f cdv A outer s H E hr args S Q Ed hsp tk => ⟨t_left (fun cls od _ S' => Ed cls od S'), ?_, rd_left hsp⟩)
  have hu := hu_of hr
  have hN : n_left.Nodup := sc_left.nd
  have hp : PassesOwn (model P w) (cxOf (L2.CX P w) P w K mg base n_left "left" (defScope Hd.s_left) f cdv A outer s H E).A (cxOf (L2.CX P w) P w K mg base n_left "left" (defScope Hd.s_left) f cdv A outer s H E).env (cxOf (L2.CX P w) P w K mg base n_left "left" (defScope Hd.s_left) f cdv A outer s H E).xe := passes_of rfl
  unfold t_left 
  exact (dss_cons (ds_expr (de_callH h_look_torn hr (by decide) tk (da_cons (dv 0) (da_cons (dv 1) da_nil))))
  (dss_one (ds_ret (de_callH h_left_of hr (by decide) tk (da_cons (dv 0) (da_cons (dv 1) da_nil))))))
theorem sc_winner : FnScope n_winner ["sheet"] (defScope Hd.s_winner) := fnScope_of (by kernel_rfl)
theorem ok_winner (F : FunAt K mg "winner" Hd.s_winner ["sheet"]) (h_left_of : Has P w K mg base 7 "left_of" ["sheet", "torn"] sp_left_of) (h_look : Has P w K mg base 5 "look" ["sheet"] sp_look) : Has P w K mg base 8 "winner" ["sheet"] sp_winner := by
  refine okH (N := n_winner) (k := 7) F sc_winner len_winner (fun f cdv A outer s H E hr args S Q Ed hsp tk => ⟨t_winner (fun cls od _ S' => Ed cls od S'), ?_, rd_winner hsp⟩)
  have hu := hu_of hr
  have hN : n_winner.Nodup := sc_winner.nd
  have hp : PassesOwn (model P w) (cxOf (L2.CX P w) P w K mg base n_winner "winner" (defScope Hd.s_winner) f cdv A outer s H E).A (cxOf (L2.CX P w) P w K mg base n_winner "winner" (defScope Hd.s_winner) f cdv A outer s H E).env (cxOf (L2.CX P w) P w K mg base n_winner "winner" (defScope Hd.s_winner) f cdv A outer s H E).xe := passes_of rfl
  unfold t_winner 
  exact (dss_cons (ds_expr (de_callH h_look hr (by decide) tk (da_cons (dv 0) da_nil)))
  (dss_one (ds_ret (de_if (dt_cmp (op_eqD hu) (de_op op_modI (de_callH h_left_of hr (by decide) tk (da_cons (dv 0) (da_cons (de_tup da_nil) da_nil))) de_int) de_int (nomark _)) de_int de_int))))
theorem sc_fewest_of : FnScope n_fewest_of ["fields", "hanging", "pricks", "known"] (defScope Hd.s_fewest_of) := fnScope_of (by kernel_rfl)
theorem okR_fewest_of (F : FunAt K mg "fewest_of" Hd.s_fewest_of ["fields", "hanging", "pricks", "known"]) (h_tears_of : Has P w K mg base 5 "tears_of" ["hanging", "pricks"] sp_tears_of) (h_behind : Has P w K mg base 3 "behind" ["fields", "hanging", "tear"] sp_behind) (h_key_of : Has P w K mg base 1 "key_of" ["fields", "hanging"] sp_key_of) (m_max : mg "max" = none) (m_min : mg "min" = none) : ∀ n, Has P w K mg base (6 + n) "fewest_of" ["fields", "hanging", "pricks", "known"] (spR_fewest_of n)
  | 0 => okH (N := n_fewest_of) (k := 5) F sc_fewest_of (fun args S Q E h => (no_fewest_of h).elim) (fun f cdv A outer s H E hr args S Q Ed hsp tk => (no_fewest_of hsp).elim)
  | n + 1 => by
    have h_fewest_of := okR_fewest_of F h_tears_of h_behind h_key_of m_max m_min n
    refine okH (N := n_fewest_of) (k := 6 + n) F sc_fewest_of len_fewest_of (fun f cdv A outer s H E hr args S Q Ed hsp tk => ⟨t_fewest_of (spR_fewest_of n) (fun cls od _ S' => Ed cls od S'), ?_, rd_fewest_of hsp⟩)
    have hu := hu_of hr
    have hN : n_fewest_of.Nodup := sc_fewest_of.nd
    have hp : PassesOwn (model P w) (cxOf (L2.CX P w) P w K mg base n_fewest_of "fewest_of" (defScope Hd.s_fewest_of) f cdv A outer s H E).A (cxOf (L2.CX P w) P w K mg base n_fewest_of "fewest_of" (defScope Hd.s_fewest_of) f cdv A outer s H E).env (cxOf (L2.CX P w) P w K mg base n_fewest_of "fewest_of" (defScope Hd.s_fewest_of) f cdv A outer s H E).xe := passes_of rfl
    unfold t_fewest_of l_fewest_of_1
    exact (dss_cons (ds_set (i := 4) hN rfl (by first | exact Or.inl rfl | exact Or.inr rfl) (de_callH h_key_of hr (by omega) tk (da_cons (dv 0) (da_cons (dv 1) da_nil))))
  (dss_cons (ds_if (dt_cmp (op_ninD hu) (dv 4) (dv 3) rfl) (dss_cons (ds_set (i := 5) hN rfl (by first | exact Or.inl rfl | exact Or.inr rfl) de_non)
  (dss_cons (ds_for hp rfl (di_val (de_callH h_tears_of hr (by omega) tk (da_cons (dv 1) (da_cons (de_dcX rfl hN (di_val (dv 2)) (blkOk_of (own := ([("border", 8)] : List (Str × Nat))) (by kernel_rfl)) (dcLoop1 (vs := [8]) rfl hu (gr_name (by decide)) (fun _ _ _ _ _ => (pg_name hN rfl (by first | exact Or.inl rfl | exact Or.inr rfl))) (fun _ _ _ _ _ => (dts_one (dt_cmp (op_inD hu) (dv 8) (dv 1) rfl))) (fun _ _ _ _ _ => (dv 8)) (fun _ _ _ _ _ => de_bl))) da_nil)))) (dg_name hN rfl (by first | exact Or.inl rfl | exact Or.inr rfl)) (dss_cons (ds_set (i := 7) hN rfl (by first | exact Or.inl rfl | exact Or.inr rfl) (de_callB (call_maxLD rfl hu) (by rfl) m_max boot_max (da_cons (de_lc rfl hN (di_val (de_callH h_behind hr (by omega) tk (da_cons (dv 0) (da_cons (dv 1) (da_cons (dv 6) da_nil))))) (blkOk_of (own := ([("piece", 9), ("rest", 10)] : List (Str × Nat))) (by kernel_rfl)) (gr_tup (gr_cons (gr_name (by decide)) (gr_cons (gr_name (by decide)) gr_nil))) (fun _ _ _ _ _ => (pg_tup rfl (pgs_cons (pg_name hN rfl (by first | exact Or.inl rfl | exact Or.inr rfl)) (pgs_cons (pg_name hN rfl (by first | exact Or.inl rfl | exact Or.inr rfl)) pgs_nil)))) (fun _ _ _ _ _ => dts_nil) (fun _ _ _ _ _ => (de_callH h_fewest_of hr (Nat.le_refl _) dtk0 (da_cons (dv 9) (da_cons (dv 10) (da_cons (dv 2) (da_cons (dv 3) da_nil))))))) da_nil)))
  (dss_one (ds_set (i := 5) hN rfl (by first | exact Or.inl rfl | exact Or.inr rfl) (de_if (dt_cmp op_isND (dv 5) de_non (nomark _)) (de_op op_catD (dv 7) de_int) (de_callB (call_min2D rfl) (by rfl) m_min boot_min (da_cons (dv 5) (da_cons (de_op op_catD (dv 7) de_int) da_nil))))))))
  (dss_one (ds_setIx hu (dv 3) (dv 4) (de_if (dt_cmp op_isND (dv 5) de_non (nomark _)) de_int (dv 5)))))) dss_nil)
  (dss_one (ds_ret (de_ix hu (dv 3) (dv 4) (fun _ _ => rfl))))))
theorem ok_fewest_of (F : FunAt K mg "fewest_of" Hd.s_fewest_of ["fields", "hanging", "pricks", "known"]) (h_tears_of : Has P w K mg base 5 "tears_of" ["hanging", "pricks"] sp_tears_of) (h_behind : Has P w K mg base 3 "behind" ["fields", "hanging", "tear"] sp_behind) (h_key_of : Has P w K mg base 1 "key_of" ["fields", "hanging"] sp_key_of) (m_max : mg "max" = none) (m_min : mg "min" = none) : Has P w K mg base 46 "fewest_of" ["fields", "hanging", "pricks", "known"] sp_fewest_of := okR_fewest_of F h_tears_of h_behind h_key_of m_max m_min 40
theorem sc_goes : FnScope n_goes ["sheet"] (defScope Hd.s_goes) := fnScope_of (by kernel_rfl)
theorem ok_goes (F : FunAt K mg "goes" Hd.s_goes ["sheet"]) (h_fewest_of : Has P w K mg base 46 "fewest_of" ["fields", "hanging", "pricks", "known"] sp_fewest_of) (h_pricks_of : Has P w K mg base 1 "pricks_of" ["sheet"] sp_pricks_of) (h_hanging_of : Has P w K mg base 3 "hanging_of" ["sheet", "torn"] sp_hanging_of) (h_look : Has P w K mg base 5 "look" ["sheet"] sp_look) : Has P w K mg base 47 "goes" ["sheet"] sp_goes := by
  refine okH (N := n_goes) (k := 46) F sc_goes len_goes (fun f cdv A outer s H E hr args S Q Ed hsp tk => ⟨t_goes (fun cls od _ S' => Ed cls od S'), ?_, rd_goes hsp⟩)
  have hu := hu_of hr
  have hN : n_goes.Nodup := sc_goes.nd
  have hp : PassesOwn (model P w) (cxOf (L2.CX P w) P w K mg base n_goes "goes" (defScope Hd.s_goes) f cdv A outer s H E).A (cxOf (L2.CX P w) P w K mg base n_goes "goes" (defScope Hd.s_goes) f cdv A outer s H E).env (cxOf (L2.CX P w) P w K mg base n_goes "goes" (defScope Hd.s_goes) f cdv A outer s H E).xe := passes_of rfl
  unfold t_goes 
  exact (dss_cons (ds_expr (de_callH h_look hr (by decide) tk (da_cons (dv 0) da_nil)))
  (dss_one (ds_ret (de_callH h_fewest_of hr (by decide) tk (da_cons (de_ix hu (dv 0) de_int (fun _ _ => rfl)) (da_cons (de_callH h_hanging_of hr (by decide) tk (da_cons (dv 0) (da_cons (de_tup da_nil) da_nil))) (da_cons (de_callH h_pricks_of hr (by decide) tk (da_cons (dv 0) da_nil)) (da_cons de_dict0 da_nil))))))))

theorem sc_law : FnScope n_law ["script"] (defScope Hd.s_law) := fnScope_of (by kernel_rfl)
theorem ok_law {f : Addr} {fd : FuncData} (F : Fun K "law" "law" Hd.s_law f fd) (h_goes : Has P w K mg base 47 "goes" ["sheet"] sp_goes) (h_winner : Has P w K mg base 8 "winner" ["sheet"] sp_winner) (h_end_pieces : Has P w K mg base 8 "end_pieces" ["sheet"] sp_end_pieces) (h__law_end : Has P w K mg base 4 "_law_end" ["sheet", "torn", "draws"] sp__law_end) (h__law_row : Has P w K mg base 2 "_law_row" ["script", "at"] sp__law_row) (h_tears : Has P w K mg base 7 "tears" ["sheet", "torn"] sp_tears) (h_pieces : Has P w K mg base 7 "pieces" ["sheet", "torn"] sp_pieces) (h_holes : Has P w K mg base 7 "holes" ["sheet", "torn"] sp_holes) (h_torn_by : Has P w K mg base 7 "torn_by" ["sheet", "torn", "border"] sp_torn_by) (h_measure : Has P w K mg base 7 "measure" ["sheet", "torn"] sp_measure) (h_left : Has P w K mg base 8 "left" ["sheet", "torn"] sp_left) (h__law_inner : Has P w K mg base 1 "_law_inner" ["fields"] sp__law_inner) (m_int : mg "int" = none) (m_len : mg "len" = none) (m_range : mg "range" = none) (m_sorted : mg "sorted" = none) (m_tuple : mg "tuple" = none) : DFn P w K mg base 48 f fd ["script"] sp_law := by
  refine okD (N := n_law) (k := 47) F sc_law len_law (fun cdv A outer s H E hr args S Q Ed hsp tk => ⟨t_law (fun cls od _ S' => Ed cls od S'), ?_, rd_law hsp⟩)
  have hu := hu_of hr
  have hN : n_law.Nodup := sc_law.nd
  have hp : PassesOwn (model P w) (cxOf (L2.CX P w) P w K mg base n_law "law" (defScope Hd.s_law) f cdv A outer s H E).A (cxOf (L2.CX P w) P w K mg base n_law "law" (defScope Hd.s_law) f cdv A outer s H E).env (cxOf (L2.CX P w) P w K mg base n_law "law" (defScope Hd.s_law) f cdv A outer s H E).xe := passes_of rfl
  unfold t_law l_law_4 l_law_3 l_law_2 l_law_1
  exact (dss_cons (ds_set (i := 1) hN rfl (by first | exact Or.inl rfl | exact Or.inr rfl) (de_callH h__law_row hr (by decide) tk (da_cons (dv 0) (da_cons de_int da_nil))))
  (dss_cons (ds_par (i := 2) (j := 3) rfl hN rfl rfl (by decide) rfl rfl (da_cons (de_op op_catD de_int (de_op op_modI (de_ix hu (dv 1) de_int (fun _ _ => rfl)) de_int)) (da_cons (de_op op_catD de_int (de_op op_modI (de_ix hu (dv 1) de_int (fun _ _ => rfl)) de_int)) da_nil)) rfl)
  (dss_cons (ds_par (i := 4) (j := 5) rfl hN rfl rfl (by decide) rfl rfl (da_cons (de_op op_modI (de_ix hu (dv 1) de_int (fun _ _ => rfl)) de_int) (da_cons (de_op op_modI (de_ix hu (dv 1) de_int (fun _ _ => rfl)) de_int) da_nil)) rfl)
  (dss_cons (ds_set (i := 6) hN rfl (by first | exact Or.inl rfl | exact Or.inr rfl) (de_lst da_nil))
  (dss_cons (ds_for hp rfl (di_range1 (by rfl) m_range (da_cons (dv 2) da_nil)) (dg_name hN rfl (by first | exact Or.inl rfl | exact Or.inr rfl)) (dss_one (ds_for hp rfl (di_range1 (by rfl) m_range (da_cons (dv 3) da_nil)) (dg_name hN rfl (by first | exact Or.inl rfl | exact Or.inr rfl)) (dss_cons (ds_set (i := 9) hN rfl (by first | exact Or.inl rfl | exact Or.inr rfl) (de_or (de_cmp (op_inD hu) (dv 7) (de_tup (da_cons de_int (da_cons (de_op op_subI (dv 2) de_int) da_nil))) rfl) (de_one (de_cmp (op_inD hu) (dv 8) (de_tup (da_cons de_int (da_cons (de_op op_subI (dv 3) de_int) da_nil))) rfl))))
  (dss_one (ds_set (i := 6) hN rfl (by first | exact Or.inl rfl | exact Or.inr rfl) (de_op op_catD (dv 6) (de_op op_repD (de_lst (da_cons (de_tup (da_cons (de_op op_catD (dv 7) (dv 4)) (da_cons (de_op op_catD (dv 8) (dv 5)) da_nil))) da_nil)) (de_callTy call_int1D (by rfl) m_int boot_int (da_cons (dv 9) da_nil))))))))))
  (dss_cons (ds_set (i := 6) hN rfl (by first | exact Or.inl rfl | exact Or.inr rfl) (de_callTy call_tupD (by rfl) m_tuple boot_tuple (da_cons (de_callB (call_sortD rfl hu) (by rfl) m_sorted boot_sorted (da_cons (dv 6) da_nil)) da_nil)))
  (dss_cons (ds_set (i := 10) hN rfl (by first | exact Or.inl rfl | exact Or.inr rfl) (de_tup (da_cons (dv 6) (da_cons (de_callTy call_tupD (by rfl) m_tuple boot_tuple (da_cons (de_callH h__law_inner hr (by decide) tk (da_cons (dv 6) da_nil)) da_nil)) da_nil))))
  (dss_cons (ds_if (DW.dt (dw_or (dt_cmp (op_neD hu) (de_callH h_holes hr (by decide) tk (da_cons (dv 10) (da_cons (de_tup da_nil) da_nil))) (de_lst (da_cons de_int da_nil)) (nomark _)) (dw_or (dt_cmp (op_neD hu) (de_callH h_measure hr (by decide) tk (da_cons (dv 10) (da_cons (de_tup da_nil) da_nil))) de_int (nomark _)) (dw_or1 (dt_cmp (op_neD hu) (de_callH h_left hr (by decide) tk (da_cons (dv 10) (da_cons (de_tup da_nil) da_nil))) (de_callB call_lenD (by rfl) m_len boot_len (da_cons (dv 6) da_nil)) (nomark _)))))) (dss_one (ds_ret de_bl)) dss_nil)
  (dss_cons (ds_for hp rfl (di_val (de_callH h_tears hr (by decide) tk (da_cons (dv 10) (da_cons (de_tup da_nil) da_nil)))) (dg_name hN rfl (by first | exact Or.inl rfl | exact Or.inr rfl)) (dss_cons (ds_set (i := 12) hN rfl (by first | exact Or.inl rfl | exact Or.inr rfl) (de_callH h_torn_by hr (by decide) tk (da_cons (dv 10) (da_cons (de_tup da_nil) (da_cons (de_ix hu (dv 11) de_int (fun _ _ => rfl)) da_nil)))))
  (dss_one (ds_if (DW.dt (dw_or (dt_cmp (op_neD hu) (de_callB call_lenD (by rfl) m_len boot_len (da_cons (dv 11) da_nil)) de_int (nomark _)) (dw_or (dt_cmp (op_neD hu) (de_callH h_pieces hr (by decide) tk (da_cons (dv 10) (da_cons (dv 12) da_nil))) (de_lst (da_cons (dv 6) da_nil)) (nomark _)) (dw_or1 (dt_cmp (op_neD hu) (de_callH h_holes hr (by decide) tk (da_cons (dv 10) (da_cons (dv 12) da_nil))) (de_lst (da_cons de_int da_nil)) (nomark _)))))) (dss_one (ds_ret de_bl)) dss_nil))))
  (dss_cons (ds_asg (de_callH h__law_end hr (by decide) tk (da_cons (dv 10) (da_cons (de_tup da_nil) (da_cons (de_callH h__law_row hr (by decide) tk (da_cons (dv 0) (da_cons de_int da_nil))) da_nil)))) (dg_tup rfl (dgs_cons (dg_name hN rfl (by first | exact Or.inl rfl | exact Or.inr rfl)) (dgs_cons (dg_name hN rfl (by first | exact Or.inl rfl | exact Or.inr rfl)) dgs_nil))))
  (dss_cons (ds_if (DW.dt (dw_or (dt_cmp (op_neD hu) (dv 14) (de_callB call_lenD (by rfl) m_len boot_len (da_cons (dv 6) da_nil)) (nomark _)) (dw_or (dt_cmp (op_neD hu) (dv 13) (de_ix hu (dv 10) de_int (fun _ _ => rfl)) (nomark _)) (dw_or1 (dt_cmp (op_neD hu) (de_callB call_lenD (by rfl) m_len boot_len (da_cons (de_callH h_end_pieces hr (by decide) tk (da_cons (dv 10) da_nil)) da_nil)) (de_callB call_lenD (by rfl) m_len boot_len (da_cons (dv 6) da_nil)) (nomark _)))))) (dss_one (ds_ret de_bl)) dss_nil)
  (dss_cons (ds_set (i := 15) hN rfl (by first | exact Or.inl rfl | exact Or.inr rfl) de_int)
  (dss_cons (ds_set (i := 16) hN rfl (by first | exact Or.inl rfl | exact Or.inr rfl) (de_callB call_lenD (by rfl) m_len boot_len (da_cons (dv 6) da_nil)))
  (dss_cons (ds_while hp (dt_cmp op_gtI (dv 16) de_int (nomark _)) (dss_cons (ds_set (i := 16) hN rfl (by first | exact Or.inl rfl | exact Or.inr rfl) (de_op op_divI (de_op op_catD (dv 16) de_int) de_int))
  (dss_one (ds_set (i := 15) hN rfl (by first | exact Or.inl rfl | exact Or.inr rfl) (de_op op_catD (dv 15) de_int)))))
  (dss_one (ds_ret (de_and (de_cmp op_geI (de_callH h_goes hr (by decide) tk (da_cons (dv 10) da_nil)) (de_op op_catD (dv 15) de_int) (nomark _)) (de_one (de_cmp (op_eqD hu) (de_callH h_winner hr (by decide) tk (da_cons (dv 10) da_nil)) (de_if (dt_cmp (op_eqD hu) (de_op op_modI (de_callB call_lenD (by rfl) m_len boot_len (da_cons (dv 6) da_nil)) de_int) de_int (nomark _)) de_int de_int) (nomark _))))))))))))))))))))

theorem at_is_within {h : Heap} (X : K.In h) (G : h.Ns mainGlobals mg) (c : He.SaysD Hd.fa Hd.fn K) : FunAt K mg "is_within" Hd.s_is_within ["thing", "low", "high"] := by
  obtain ⟨fd, F⟩ := c.def_ 0 (d := Hd.d_is_within) rfl
  exact ⟨_, fd, fun_of F, He.glo_ok X G (c.fact 0 (f := .glo "is_within") rfl), FunD.bindsN F fun _ _ _ _ _ _ us hl => match us, hl with | [_, _, _], _ => rfl⟩
theorem at_is_field {h : Heap} (X : K.In h) (G : h.Ns mainGlobals mg) (c : He.SaysD Hd.fa Hd.fn K) : FunAt K mg "is_field" Hd.s_is_field ["thing"] := by
  obtain ⟨fd, F⟩ := c.def_ 1 (d := Hd.d_is_field) rfl
  exact ⟨_, fd, fun_of F, He.glo_ok X G (c.fact 1 (f := .glo "is_field") rfl), FunD.bindsN F fun _ _ _ _ _ _ us hl => match us, hl with | [_], _ => rfl⟩
theorem at_is_border {h : Heap} (X : K.In h) (G : h.Ns mainGlobals mg) (c : He.SaysD Hd.fa Hd.fn K) : FunAt K mg "is_border" Hd.s_is_border ["thing"] := by
  obtain ⟨fd, F⟩ := c.def_ 2 (d := Hd.d_is_border) rfl
  exact ⟨_, fd, fun_of F, He.glo_ok X G (c.fact 2 (f := .glo "is_border") rfl), FunD.bindsN F fun _ _ _ _ _ _ us hl => match us, hl with | [_], _ => rfl⟩
theorem at_fields_at {h : Heap} (X : K.In h) (G : h.Ns mainGlobals mg) (c : He.SaysD Hd.fa Hd.fn K) : FunAt K mg "fields_at" Hd.s_fields_at ["border"] := by
  obtain ⟨fd, F⟩ := c.def_ 3 (d := Hd.d_fields_at) rfl
  exact ⟨_, fd, fun_of F, He.glo_ok X G (c.fact 3 (f := .glo "fields_at") rfl), FunD.bindsN F fun _ _ _ _ _ _ us hl => match us, hl with | [_], _ => rfl⟩
theorem at_rises {h : Heap} (X : K.In h) (G : h.Ns mainGlobals mg) (c : He.SaysD Hd.fa Hd.fn K) : FunAt K mg "rises" Hd.s_rises ["thing"] := by
  obtain ⟨fd, F⟩ := c.def_ 4 (d := Hd.d_rises) rfl
  exact ⟨_, fd, fun_of F, He.glo_ok X G (c.fact 4 (f := .glo "rises") rfl), FunD.bindsN F fun _ _ _ _ _ _ us hl => match us, hl with | [_], _ => rfl⟩
theorem at_borders_of {h : Heap} (X : K.In h) (G : h.Ns mainGlobals mg) (c : He.SaysD Hd.fa Hd.fn K) : FunAt K mg "borders_of" Hd.s_borders_of ["fields"] := by
  obtain ⟨fd, F⟩ := c.def_ 5 (d := Hd.d_borders_of) rfl
  exact ⟨_, fd, fun_of F, He.glo_ok X G (c.fact 5 (f := .glo "borders_of") rfl), FunD.bindsN F fun _ _ _ _ _ _ us hl => match us, hl with | [_], _ => rfl⟩
theorem at_parts_of {h : Heap} (X : K.In h) (G : h.Ns mainGlobals mg) (c : He.SaysD Hd.fa Hd.fn K) : FunAt K mg "parts_of" Hd.s_parts_of ["fields", "hanging"] := by
  obtain ⟨fd, F⟩ := c.def_ 6 (d := Hd.d_parts_of) rfl
  exact ⟨_, fd, fun_of F, He.glo_ok X G (c.fact 6 (f := .glo "parts_of") rfl), FunD.bindsN F fun _ _ _ _ _ _ us hl => match us, hl with | [_, _], _ => rfl⟩
theorem at_lot_from {h : Heap} (X : K.In h) (G : h.Ns mainGlobals mg) (c : He.SaysD Hd.fa Hd.fn K) : FunAt K mg "lot_from" Hd.s_lot_from ["field", "near", "seen"] := by
  obtain ⟨fd, F⟩ := c.def_ 7 (d := Hd.d_lot_from) rfl
  exact ⟨_, fd, fun_of F, He.glo_ok X G (c.fact 7 (f := .glo "lot_from") rfl), FunD.bindsN F fun _ _ _ _ _ _ us hl => match us, hl with | [_, _, _], _ => rfl⟩
theorem at_is_sheet {h : Heap} (X : K.In h) (G : h.Ns mainGlobals mg) (c : He.SaysD Hd.fa Hd.fn K) : FunAt K mg "is_sheet" Hd.s_is_sheet ["thing"] := by
  obtain ⟨fd, F⟩ := c.def_ 8 (d := Hd.d_is_sheet) rfl
  exact ⟨_, fd, fun_of F, He.glo_ok X G (c.fact 8 (f := .glo "is_sheet") rfl), FunD.bindsN F fun _ _ _ _ _ _ us hl => match us, hl with | [_], _ => rfl⟩
theorem at_look {h : Heap} (X : K.In h) (G : h.Ns mainGlobals mg) (c : He.SaysD Hd.fa Hd.fn K) : FunAt K mg "look" Hd.s_look ["sheet"] := by
  obtain ⟨fd, F⟩ := c.def_ 9 (d := Hd.d_look) rfl
  exact ⟨_, fd, fun_of F, He.glo_ok X G (c.fact 9 (f := .glo "look") rfl), FunD.bindsN F fun _ _ _ _ _ _ us hl => match us, hl with | [_], _ => rfl⟩
theorem at_is_torn {h : Heap} (X : K.In h) (G : h.Ns mainGlobals mg) (c : He.SaysD Hd.fa Hd.fn K) : FunAt K mg "is_torn" Hd.s_is_torn ["sheet", "thing"] := by
  obtain ⟨fd, F⟩ := c.def_ 10 (d := Hd.d_is_torn) rfl
  exact ⟨_, fd, fun_of F, He.glo_ok X G (c.fact 10 (f := .glo "is_torn") rfl), FunD.bindsN F fun _ _ _ _ _ _ us hl => match us, hl with | [_, _], _ => rfl⟩
theorem at_look_torn {h : Heap} (X : K.In h) (G : h.Ns mainGlobals mg) (c : He.SaysD Hd.fa Hd.fn K) : FunAt K mg "look_torn" Hd.s_look_torn ["sheet", "torn"] := by
  obtain ⟨fd, F⟩ := c.def_ 11 (d := Hd.d_look_torn) rfl
  exact ⟨_, fd, fun_of F, He.glo_ok X G (c.fact 11 (f := .glo "look_torn") rfl), FunD.bindsN F fun _ _ _ _ _ _ us hl => match us, hl with | [_, _], _ => rfl⟩
theorem at_look_border {h : Heap} (X : K.In h) (G : h.Ns mainGlobals mg) (c : He.SaysD Hd.fa Hd.fn K) : FunAt K mg "look_border" Hd.s_look_border ["sheet", "border"] := by
  obtain ⟨fd, F⟩ := c.def_ 12 (d := Hd.d_look_border) rfl
  exact ⟨_, fd, fun_of F, He.glo_ok X G (c.fact 12 (f := .glo "look_border") rfl), FunD.bindsN F fun _ _ _ _ _ _ us hl => match us, hl with | [_, _], _ => rfl⟩
theorem at_hanging_of {h : Heap} (X : K.In h) (G : h.Ns mainGlobals mg) (c : He.SaysD Hd.fa Hd.fn K) : FunAt K mg "hanging_of" Hd.s_hanging_of ["sheet", "torn"] := by
  obtain ⟨fd, F⟩ := c.def_ 13 (d := Hd.d_hanging_of) rfl
  exact ⟨_, fd, fun_of F, He.glo_ok X G (c.fact 13 (f := .glo "hanging_of") rfl), FunD.bindsN F fun _ _ _ _ _ _ us hl => match us, hl with | [_, _], _ => rfl⟩
theorem at_around {h : Heap} (X : K.In h) (G : h.Ns mainGlobals mg) (c : He.SaysD Hd.fa Hd.fn K) : FunAt K mg "around" Hd.s_around ["corner"] := by
  obtain ⟨fd, F⟩ := c.def_ 14 (d := Hd.d_around) rfl
  exact ⟨_, fd, fun_of F, He.glo_ok X G (c.fact 14 (f := .glo "around") rfl), FunD.bindsN F fun _ _ _ _ _ _ us hl => match us, hl with | [_], _ => rfl⟩
theorem at_is_whole_corner {h : Heap} (X : K.In h) (G : h.Ns mainGlobals mg) (c : He.SaysD Hd.fa Hd.fn K) : FunAt K mg "is_whole_corner" Hd.s_is_whole_corner ["hanging", "corner"] := by
  obtain ⟨fd, F⟩ := c.def_ 15 (d := Hd.d_is_whole_corner) rfl
  exact ⟨_, fd, fun_of F, He.glo_ok X G (c.fact 15 (f := .glo "is_whole_corner") rfl), FunD.bindsN F fun _ _ _ _ _ _ us hl => match us, hl with | [_, _], _ => rfl⟩
theorem at_corners_at {h : Heap} (X : K.In h) (G : h.Ns mainGlobals mg) (c : He.SaysD Hd.fa Hd.fn K) : FunAt K mg "corners_at" Hd.s_corners_at ["border"] := by
  obtain ⟨fd, F⟩ := c.def_ 16 (d := Hd.d_corners_at) rfl
  exact ⟨_, fd, fun_of F, He.glo_ok X G (c.fact 16 (f := .glo "corners_at") rfl), FunD.bindsN F fun _ _ _ _ _ _ us hl => match us, hl with | [_], _ => rfl⟩
theorem at_next_to {h : Heap} (X : K.In h) (G : h.Ns mainGlobals mg) (c : He.SaysD Hd.fa Hd.fn K) : FunAt K mg "next_to" Hd.s_next_to ["border", "way"] := by
  obtain ⟨fd, F⟩ := c.def_ 17 (d := Hd.d_next_to) rfl
  exact ⟨_, fd, fun_of F, He.glo_ok X G (c.fact 17 (f := .glo "next_to") rfl), FunD.bindsN F fun _ _ _ _ _ _ us hl => match us, hl with | [_, _], _ => rfl⟩
theorem at_run_of {h : Heap} (X : K.In h) (G : h.Ns mainGlobals mg) (c : He.SaysD Hd.fa Hd.fn K) : FunAt K mg "run_of" Hd.s_run_of ["hanging", "border", "way"] := by
  obtain ⟨fd, F⟩ := c.def_ 18 (d := Hd.d_run_of) rfl
  exact ⟨_, fd, fun_of F, He.glo_ok X G (c.fact 18 (f := .glo "run_of") rfl), FunD.bindsN F fun _ _ _ _ _ _ us hl => match us, hl with | [_, _, _], _ => rfl⟩
theorem at_tear_at {h : Heap} (X : K.In h) (G : h.Ns mainGlobals mg) (c : He.SaysD Hd.fa Hd.fn K) : FunAt K mg "tear_at" Hd.s_tear_at ["hanging", "pricks", "border"] := by
  obtain ⟨fd, F⟩ := c.def_ 19 (d := Hd.d_tear_at) rfl
  exact ⟨_, fd, fun_of F, He.glo_ok X G (c.fact 19 (f := .glo "tear_at") rfl), FunD.bindsN F fun _ _ _ _ _ _ us hl => match us, hl with | [_, _, _], _ => rfl⟩
theorem at_tears_of {h : Heap} (X : K.In h) (G : h.Ns mainGlobals mg) (c : He.SaysD Hd.fa Hd.fn K) : FunAt K mg "tears_of" Hd.s_tears_of ["hanging", "pricks"] := by
  obtain ⟨fd, F⟩ := c.def_ 20 (d := Hd.d_tears_of) rfl
  exact ⟨_, fd, fun_of F, He.glo_ok X G (c.fact 20 (f := .glo "tears_of") rfl), FunD.bindsN F fun _ _ _ _ _ _ us hl => match us, hl with | [_, _], _ => rfl⟩
theorem at_pricks_of {h : Heap} (X : K.In h) (G : h.Ns mainGlobals mg) (c : He.SaysD Hd.fa Hd.fn K) : FunAt K mg "pricks_of" Hd.s_pricks_of ["sheet"] := by
  obtain ⟨fd, F⟩ := c.def_ 21 (d := Hd.d_pricks_of) rfl
  exact ⟨_, fd, fun_of F, He.glo_ok X G (c.fact 21 (f := .glo "pricks_of") rfl), FunD.bindsN F fun _ _ _ _ _ _ us hl => match us, hl with | [_], _ => rfl⟩
theorem at_tears {h : Heap} (X : K.In h) (G : h.Ns mainGlobals mg) (c : He.SaysD Hd.fa Hd.fn K) : FunAt K mg "tears" Hd.s_tears ["sheet", "torn"] := by
  obtain ⟨fd, F⟩ := c.def_ 22 (d := Hd.d_tears) rfl
  exact ⟨_, fd, fun_of F, He.glo_ok X G (c.fact 22 (f := .glo "tears") rfl), FunD.bindsN F fun _ _ _ _ _ _ us hl => match us, hl with | [_, _], _ => rfl⟩
theorem at_torn_by {h : Heap} (X : K.In h) (G : h.Ns mainGlobals mg) (c : He.SaysD Hd.fa Hd.fn K) : FunAt K mg "torn_by" Hd.s_torn_by ["sheet", "torn", "border"] := by
  obtain ⟨fd, F⟩ := c.def_ 23 (d := Hd.d_torn_by) rfl
  exact ⟨_, fd, fun_of F, He.glo_ok X G (c.fact 23 (f := .glo "torn_by") rfl), FunD.bindsN F fun _ _ _ _ _ _ us hl => match us, hl with | [_, _, _], _ => rfl⟩
theorem at_corners_of {h : Heap} (X : K.In h) (G : h.Ns mainGlobals mg) (c : He.SaysD Hd.fa Hd.fn K) : FunAt K mg "corners_of" Hd.s_corners_of ["hanging"] := by
  obtain ⟨fd, F⟩ := c.def_ 24 (d := Hd.d_corners_of) rfl
  exact ⟨_, fd, fun_of F, He.glo_ok X G (c.fact 24 (f := .glo "corners_of") rfl), FunD.bindsN F fun _ _ _ _ _ _ us hl => match us, hl with | [_], _ => rfl⟩
theorem at_measure_of {h : Heap} (X : K.In h) (G : h.Ns mainGlobals mg) (c : He.SaysD Hd.fa Hd.fn K) : FunAt K mg "measure_of" Hd.s_measure_of ["fields", "hanging"] := by
  obtain ⟨fd, F⟩ := c.def_ 25 (d := Hd.d_measure_of) rfl
  exact ⟨_, fd, fun_of F, He.glo_ok X G (c.fact 25 (f := .glo "measure_of") rfl), FunD.bindsN F fun _ _ _ _ _ _ us hl => match us, hl with | [_, _], _ => rfl⟩
theorem at_measure {h : Heap} (X : K.In h) (G : h.Ns mainGlobals mg) (c : He.SaysD Hd.fa Hd.fn K) : FunAt K mg "measure" Hd.s_measure ["sheet", "torn"] := by
  obtain ⟨fd, F⟩ := c.def_ 26 (d := Hd.d_measure) rfl
  exact ⟨_, fd, fun_of F, He.glo_ok X G (c.fact 26 (f := .glo "measure") rfl), FunD.bindsN F fun _ _ _ _ _ _ us hl => match us, hl with | [_, _], _ => rfl⟩
theorem at_pieces_of {h : Heap} (X : K.In h) (G : h.Ns mainGlobals mg) (c : He.SaysD Hd.fa Hd.fn K) : FunAt K mg "pieces_of" Hd.s_pieces_of ["sheet", "torn"] := by
  obtain ⟨fd, F⟩ := c.def_ 27 (d := Hd.d_pieces_of) rfl
  exact ⟨_, fd, fun_of F, He.glo_ok X G (c.fact 27 (f := .glo "pieces_of") rfl), FunD.bindsN F fun _ _ _ _ _ _ us hl => match us, hl with | [_, _], _ => rfl⟩
theorem at_pieces {h : Heap} (X : K.In h) (G : h.Ns mainGlobals mg) (c : He.SaysD Hd.fa Hd.fn K) : FunAt K mg "pieces" Hd.s_pieces ["sheet", "torn"] := by
  obtain ⟨fd, F⟩ := c.def_ 28 (d := Hd.d_pieces) rfl
  exact ⟨_, fd, fun_of F, He.glo_ok X G (c.fact 28 (f := .glo "pieces") rfl), FunD.bindsN F fun _ _ _ _ _ _ us hl => match us, hl with | [_, _], _ => rfl⟩
theorem at_within {h : Heap} (X : K.In h) (G : h.Ns mainGlobals mg) (c : He.SaysD Hd.fa Hd.fn K) : FunAt K mg "within" Hd.s_within ["hanging", "fields"] := by
  obtain ⟨fd, F⟩ := c.def_ 29 (d := Hd.d_within) rfl
  exact ⟨_, fd, fun_of F, He.glo_ok X G (c.fact 29 (f := .glo "within") rfl), FunD.bindsN F fun _ _ _ _ _ _ us hl => match us, hl with | [_, _], _ => rfl⟩
theorem at_holes {h : Heap} (X : K.In h) (G : h.Ns mainGlobals mg) (c : He.SaysD Hd.fa Hd.fn K) : FunAt K mg "holes" Hd.s_holes ["sheet", "torn"] := by
  obtain ⟨fd, F⟩ := c.def_ 30 (d := Hd.d_holes) rfl
  exact ⟨_, fd, fun_of F, He.glo_ok X G (c.fact 30 (f := .glo "holes") rfl), FunD.bindsN F fun _ _ _ _ _ _ us hl => match us, hl with | [_, _], _ => rfl⟩
theorem at_first_row {h : Heap} (X : K.In h) (G : h.Ns mainGlobals mg) (c : He.SaysD Hd.fa Hd.fn K) : FunAt K mg "first_row" Hd.s_first_row ["sheet", "torn"] := by
  obtain ⟨fd, F⟩ := c.def_ 31 (d := Hd.d_first_row) rfl
  exact ⟨_, fd, fun_of F, He.glo_ok X G (c.fact 31 (f := .glo "first_row") rfl), FunD.bindsN F fun _ _ _ _ _ _ us hl => match us, hl with | [_, _], _ => rfl⟩
theorem at_end_torn {h : Heap} (X : K.In h) (G : h.Ns mainGlobals mg) (c : He.SaysD Hd.fa Hd.fn K) : FunAt K mg "end_torn" Hd.s_end_torn ["sheet"] := by
  obtain ⟨fd, F⟩ := c.def_ 32 (d := Hd.d_end_torn) rfl
  exact ⟨_, fd, fun_of F, He.glo_ok X G (c.fact 32 (f := .glo "end_torn") rfl), FunD.bindsN F fun _ _ _ _ _ _ us hl => match us, hl with | [_], _ => rfl⟩
theorem at_end_pieces {h : Heap} (X : K.In h) (G : h.Ns mainGlobals mg) (c : He.SaysD Hd.fa Hd.fn K) : FunAt K mg "end_pieces" Hd.s_end_pieces ["sheet"] := by
  obtain ⟨fd, F⟩ := c.def_ 33 (d := Hd.d_end_pieces) rfl
  exact ⟨_, fd, fun_of F, He.glo_ok X G (c.fact 33 (f := .glo "end_pieces") rfl), FunD.bindsN F fun _ _ _ _ _ _ us hl => match us, hl with | [_], _ => rfl⟩
theorem at_left_of {h : Heap} (X : K.In h) (G : h.Ns mainGlobals mg) (c : He.SaysD Hd.fa Hd.fn K) : FunAt K mg "left_of" Hd.s_left_of ["sheet", "torn"] := by
  obtain ⟨fd, F⟩ := c.def_ 34 (d := Hd.d_left_of) rfl
  exact ⟨_, fd, fun_of F, He.glo_ok X G (c.fact 34 (f := .glo "left_of") rfl), FunD.bindsN F fun _ _ _ _ _ _ us hl => match us, hl with | [_, _], _ => rfl⟩
theorem at_left {h : Heap} (X : K.In h) (G : h.Ns mainGlobals mg) (c : He.SaysD Hd.fa Hd.fn K) : FunAt K mg "left" Hd.s_left ["sheet", "torn"] := by
  obtain ⟨fd, F⟩ := c.def_ 35 (d := Hd.d_left) rfl
  exact ⟨_, fd, fun_of F, He.glo_ok X G (c.fact 35 (f := .glo "left") rfl), FunD.bindsN F fun _ _ _ _ _ _ us hl => match us, hl with | [_, _], _ => rfl⟩
theorem at_winner {h : Heap} (X : K.In h) (G : h.Ns mainGlobals mg) (c : He.SaysD Hd.fa Hd.fn K) : FunAt K mg "winner" Hd.s_winner ["sheet"] := by
  obtain ⟨fd, F⟩ := c.def_ 36 (d := Hd.d_winner) rfl
  exact ⟨_, fd, fun_of F, He.glo_ok X G (c.fact 36 (f := .glo "winner") rfl), FunD.bindsN F fun _ _ _ _ _ _ us hl => match us, hl with | [_], _ => rfl⟩
theorem at_behind {h : Heap} (X : K.In h) (G : h.Ns mainGlobals mg) (c : He.SaysD Hd.fa Hd.fn K) : FunAt K mg "behind" Hd.s_behind ["fields", "hanging", "tear"] := by
  obtain ⟨fd, F⟩ := c.def_ 37 (d := Hd.d_behind) rfl
  exact ⟨_, fd, fun_of F, He.glo_ok X G (c.fact 37 (f := .glo "behind") rfl), FunD.bindsN F fun _ _ _ _ _ _ us hl => match us, hl with | [_, _, _], _ => rfl⟩
theorem at_key_of {h : Heap} (X : K.In h) (G : h.Ns mainGlobals mg) (c : He.SaysD Hd.fa Hd.fn K) : FunAt K mg "key_of" Hd.s_key_of ["fields", "hanging"] := by
  obtain ⟨fd, F⟩ := c.def_ 38 (d := Hd.d_key_of) rfl
  exact ⟨_, fd, fun_of F, He.glo_ok X G (c.fact 38 (f := .glo "key_of") rfl), FunD.bindsN F fun _ _ _ _ _ _ us hl => match us, hl with | [_, _], _ => rfl⟩
theorem at_fewest_of {h : Heap} (X : K.In h) (G : h.Ns mainGlobals mg) (c : He.SaysD Hd.fa Hd.fn K) : FunAt K mg "fewest_of" Hd.s_fewest_of ["fields", "hanging", "pricks", "known"] := by
  obtain ⟨fd, F⟩ := c.def_ 39 (d := Hd.d_fewest_of) rfl
  exact ⟨_, fd, fun_of F, He.glo_ok X G (c.fact 39 (f := .glo "fewest_of") rfl), FunD.bindsN F fun _ _ _ _ _ _ us hl => match us, hl with | [_, _, _, _], _ => rfl⟩
theorem at_goes {h : Heap} (X : K.In h) (G : h.Ns mainGlobals mg) (c : He.SaysD Hd.fa Hd.fn K) : FunAt K mg "goes" Hd.s_goes ["sheet"] := by
  obtain ⟨fd, F⟩ := c.def_ 40 (d := Hd.d_goes) rfl
  exact ⟨_, fd, fun_of F, He.glo_ok X G (c.fact 40 (f := .glo "goes") rfl), FunD.bindsN F fun _ _ _ _ _ _ us hl => match us, hl with | [_], _ => rfl⟩
theorem at__law_cell {h : Heap} (X : K.In h) (G : h.Ns mainGlobals mg) (c : He.SaysD Hd.fa Hd.fn K) : FunAt K mg "_law_cell" Hd.s__law_cell ["script", "k"] := by
  obtain ⟨fd, F⟩ := c.def_ 41 (d := Hd.d__law_cell) rfl
  exact ⟨_, fd, fun_of F, He.glo_ok X G (c.fact 41 (f := .glo "_law_cell") rfl), FunD.bindsN F fun _ _ _ _ _ _ us hl => match us, hl with | [_, _], _ => rfl⟩
theorem at__law_row {h : Heap} (X : K.In h) (G : h.Ns mainGlobals mg) (c : He.SaysD Hd.fa Hd.fn K) : FunAt K mg "_law_row" Hd.s__law_row ["script", "at"] := by
  obtain ⟨fd, F⟩ := c.def_ 42 (d := Hd.d__law_row) rfl
  exact ⟨_, fd, fun_of F, He.glo_ok X G (c.fact 42 (f := .glo "_law_row") rfl), FunD.bindsN F fun _ _ _ _ _ _ us hl => match us, hl with | [_, _], _ => rfl⟩
theorem at__law_inner {h : Heap} (X : K.In h) (G : h.Ns mainGlobals mg) (c : He.SaysD Hd.fa Hd.fn K) : FunAt K mg "_law_inner" Hd.s__law_inner ["fields"] := by
  obtain ⟨fd, F⟩ := c.def_ 43 (d := Hd.d__law_inner) rfl
  exact ⟨_, fd, fun_of F, He.glo_ok X G (c.fact 43 (f := .glo "_law_inner") rfl), FunD.bindsN F fun _ _ _ _ _ _ us hl => match us, hl with | [_], _ => rfl⟩
theorem at__law_hang {h : Heap} (X : K.In h) (G : h.Ns mainGlobals mg) (c : He.SaysD Hd.fa Hd.fn K) : FunAt K mg "_law_hang" Hd.s__law_hang ["sheet", "torn"] := by
  obtain ⟨fd, F⟩ := c.def_ 44 (d := Hd.d__law_hang) rfl
  exact ⟨_, fd, fun_of F, He.glo_ok X G (c.fact 44 (f := .glo "_law_hang") rfl), FunD.bindsN F fun _ _ _ _ _ _ us hl => match us, hl with | [_, _], _ => rfl⟩
theorem at__law_full {h : Heap} (X : K.In h) (G : h.Ns mainGlobals mg) (c : He.SaysD Hd.fa Hd.fn K) : FunAt K mg "_law_full" Hd.s__law_full ["hanging", "x", "y"] := by
  obtain ⟨fd, F⟩ := c.def_ 45 (d := Hd.d__law_full) rfl
  exact ⟨_, fd, fun_of F, He.glo_ok X G (c.fact 45 (f := .glo "_law_full") rfl), FunD.bindsN F fun _ _ _ _ _ _ us hl => match us, hl with | [_, _, _], _ => rfl⟩
theorem at__law_tear {h : Heap} (X : K.In h) (G : h.Ns mainGlobals mg) (c : He.SaysD Hd.fa Hd.fn K) : FunAt K mg "_law_tear" Hd.s__law_tear ["sheet", "hanging", "border"] := by
  obtain ⟨fd, F⟩ := c.def_ 46 (d := Hd.d__law_tear) rfl
  exact ⟨_, fd, fun_of F, He.glo_ok X G (c.fact 46 (f := .glo "_law_tear") rfl), FunD.bindsN F fun _ _ _ _ _ _ us hl => match us, hl with | [_, _, _], _ => rfl⟩
theorem at__law_tears {h : Heap} (X : K.In h) (G : h.Ns mainGlobals mg) (c : He.SaysD Hd.fa Hd.fn K) : FunAt K mg "_law_tears" Hd.s__law_tears ["sheet", "torn"] := by
  obtain ⟨fd, F⟩ := c.def_ 47 (d := Hd.d__law_tears) rfl
  exact ⟨_, fd, fun_of F, He.glo_ok X G (c.fact 47 (f := .glo "_law_tears") rfl), FunD.bindsN F fun _ _ _ _ _ _ us hl => match us, hl with | [_, _], _ => rfl⟩
theorem at__law_end {h : Heap} (X : K.In h) (G : h.Ns mainGlobals mg) (c : He.SaysD Hd.fa Hd.fn K) : FunAt K mg "_law_end" Hd.s__law_end ["sheet", "torn", "draws"] := by
  obtain ⟨fd, F⟩ := c.def_ 48 (d := Hd.d__law_end) rfl
  exact ⟨_, fd, fun_of F, He.glo_ok X G (c.fact 48 (f := .glo "_law_end") rfl), FunD.bindsN F fun _ _ _ _ _ _ us hl => match us, hl with | [_, _, _], _ => rfl⟩
theorem sc_NoTear_init : FnScope ["self", "at"] ["self", "at"] (defScope Hd.s_NoTear_init) := fnScope_of (by kernel_rfl)
theorem has_NoTear {h : Heap} (X : K.In h) (G : h.Ns mainGlobals mg) (c : He.SaysD Hd.fa Hd.fn K) (hx : Hd.ex K = true) : HasX P w K mg base "NoTear" "at" := by
  obtain ⟨x_noL, x_sub, x_base, x_oex_NoTear, x_xf_NoTear⟩ : Hd.noL K = true ∧ subB ["TornError", "NoTear", "BadSheet", "BadTorn", "BadBorder"] K = true ∧ baseB K (He.ga K "TornError") = true ∧ oexB K (He.ga K "NoTear") "at" = true ∧ xfB K (He.ga K "NoTear") = true := by
    have h := hx
    unfold Hd.ex at h
    simp only [Bool.and_eq_true] at h
    exact h
  obtain ⟨T, hno, iC, tI⟩ := oexB_ok x_oex_NoTear
  obtain ⟨rd, ga, vV⟩ := baseB_ok x_base
  obtain ⟨fd, F⟩ := c.def_ 50 (d := Hd.d_NoTear_init) rfl
  have hmT : mg "TornError" = some (.ref (He.ga K "TornError")) := He.glo_ok X G (c.fact 65 (f := .glo "TornError") rfl)
  have hmN : mg "NoTear" = some (.ref (He.ga K "NoTear")) := He.glo_ok X G (c.fact 66 (f := .glo "NoTear") rfl)
  refine ⟨_, fd, T, iC, tI, ?_, FunD.bindsN F fun _ _ _ _ _ _ us hl => match us, hl with | [_, _], _ => rfl, hmN⟩
  refine (fun_of F).okX (N := ["self", "at"]) (k := 0) sc_NoTear_init (fun vs H Q E ⟨a, y, e, _⟩ => by rw [e]; rfl) (fun cdv A outer s H vs Q E hr h => ⟨tInit K "at" "no tear", ?_, rd_init T hno h⟩)
  exact pss_cons (ps_expr (pe_tinit rfl hmT rd ga vV (pa_cons (pv 0) (pa_cons pe_str pa_nil)))) (pss_one (ps_ost (pv 0) (pv 1)))
theorem all_of {h : Heap} {f : Addr} {fd : FuncData} (X : K.In h) (G : h.Ns mainGlobals mg) (c : He.SaysD Hd.fa Hd.fn K) (hx : Hd.ex K = true) (F : Fun K "law" "law" Hd.s_law f fd) : DFn P w K mg base 48 f fd ["script"] sp_law := by
  obtain ⟨x_noL, x_sub, x_base, x_oex_NoTear, x_xf_NoTear⟩ : Hd.noL K = true ∧ subB ["TornError", "NoTear", "BadSheet", "BadTorn", "BadBorder"] K = true ∧ baseB K (He.ga K "TornError") = true ∧ oexB K (He.ga K "NoTear") "at" = true ∧ xfB K (He.ga K "NoTear") = true := by
    have h := hx
    unfold Hd.ex at h
    simp only [Bool.and_eq_true] at h
    exact h
  have e_BadSheet : ExcN K mg "BadSheet" := by
    obtain ⟨h1, h2, h3, h4⟩ := He.exc_ok (c.fact 71 (f := .exc "BadSheet") rfl)
    exact ⟨h1, h2, h3, h4, He.glo_ok X G (c.fact 67 (f := .glo "BadSheet") rfl)⟩
  have e_BadTorn : ExcN K mg "BadTorn" := by
    obtain ⟨h1, h2, h3, h4⟩ := He.exc_ok (c.fact 72 (f := .exc "BadTorn") rfl)
    exact ⟨h1, h2, h3, h4, He.glo_ok X G (c.fact 68 (f := .glo "BadTorn") rfl)⟩
  have e_BadBorder : ExcN K mg "BadBorder" := by
    obtain ⟨h1, h2, h3, h4⟩ := He.exc_ok (c.fact 73 (f := .exc "BadBorder") rfl)
    exact ⟨h1, h2, h3, h4, He.glo_ok X G (c.fact 69 (f := .glo "BadBorder") rfl)⟩
  have x_NoTear : HasX P w K mg base "NoTear" "at" := has_NoTear X G c hx
  have m_bool : mg "bool" = none := He.free_ok X G (c.fact 62 (f := .free "bool") rfl)
  have m_int : mg "int" = none := He.free_ok X G (c.fact 61 (f := .free "int") rfl)
  have m_isinstance : mg "isinstance" = none := He.free_ok X G (c.fact 57 (f := .free "isinstance") rfl)
  have m_len : mg "len" = none := He.free_ok X G (c.fact 52 (f := .free "len") rfl)
  have m_list : mg "list" = none := He.free_ok X G (c.fact 56 (f := .free "list") rfl)
  have m_max : mg "max" = none := He.free_ok X G (c.fact 59 (f := .free "max") rfl)
  have m_min : mg "min" = none := He.free_ok X G (c.fact 60 (f := .free "min") rfl)
  have m_range : mg "range" = none := He.free_ok X G (c.fact 53 (f := .free "range") rfl)
  have m_sorted : mg "sorted" = none := He.free_ok X G (c.fact 54 (f := .free "sorted") rfl)
  have m_str : mg "str" = none := He.free_ok X G (c.fact 63 (f := .free "str") rfl)
  have m_tuple : mg "tuple" = none := He.free_ok X G (c.fact 55 (f := .free "tuple") rfl)
  have m_zip : mg "zip" = none := He.free_ok X G (c.fact 58 (f := .free "zip") rfl)
  have c_MOST_SIDE : ∃ t, mg "MOST_SIDE" = some (.int 7 t) := He.int_ok X G (c.fact 50 (f := .int "MOST_SIDE" 7) rfl)
  have c_MOST_FIELDS : ∃ t, mg "MOST_FIELDS" = some (.int 16 t) := He.int_ok X G (c.fact 51 (f := .int "MOST_FIELDS" 16) rfl)
  have h_is_within : Has P w K mg base 1 "is_within" ["thing", "low", "high"] sp_is_within := ok_is_within (at_is_within X G c) m_bool m_int m_isinstance
  have h_fields_at : Has P w K mg base 1 "fields_at" ["border"] sp_fields_at := ok_fields_at (at_fields_at X G c) 
  have h_rises : Has P w K mg base 1 "rises" ["thing"] sp_rises := ok_rises (at_rises X G c) m_zip
  have h_lot_from : Has P w K mg base 1 "lot_from" ["field", "near", "seen"] sp_lot_from := ok_lot_from (at_lot_from X G c) m_sorted m_tuple
  have h_around : Has P w K mg base 1 "around" ["corner"] sp_around := ok_around (at_around X G c) 
  have h_corners_at : Has P w K mg base 1 "corners_at" ["border"] sp_corners_at := ok_corners_at (at_corners_at X G c) 
  have h_next_to : Has P w K mg base 1 "next_to" ["border", "way"] sp_next_to := ok_next_to (at_next_to X G c) 
  have h_pricks_of : Has P w K mg base 1 "pricks_of" ["sheet"] sp_pricks_of := ok_pricks_of (at_pricks_of X G c) 
  have h_key_of : Has P w K mg base 1 "key_of" ["fields", "hanging"] sp_key_of := ok_key_of (at_key_of X G c) m_sorted m_tuple
  have h__law_cell : Has P w K mg base 1 "_law_cell" ["script", "k"] sp__law_cell := ok__law_cell (at__law_cell X G c) m_len
  have h__law_inner : Has P w K mg base 1 "_law_inner" ["fields"] sp__law_inner := ok__law_inner (at__law_inner X G c) m_sorted
  have h__law_full : Has P w K mg base 1 "_law_full" ["hanging", "x", "y"] sp__law_full := ok__law_full (at__law_full X G c) 
  have h_is_field : Has P w K mg base 2 "is_field" ["thing"] sp_is_field := ok_is_field (at_is_field X G c) h_is_within m_isinstance m_len m_tuple c_MOST_SIDE
  have h_borders_of : Has P w K mg base 2 "borders_of" ["fields"] sp_borders_of := ok_borders_of (at_borders_of X G c) h_fields_at m_sorted
  have h_parts_of : Has P w K mg base 2 "parts_of" ["fields", "hanging"] sp_parts_of := ok_parts_of (at_parts_of X G c) h_lot_from h_fields_at
  have h_is_whole_corner : Has P w K mg base 2 "is_whole_corner" ["hanging", "corner"] sp_is_whole_corner := ok_is_whole_corner (at_is_whole_corner X G c) h_around
  have h_within : Has P w K mg base 2 "within" ["hanging", "fields"] sp_within := ok_within (at_within X G c) h_fields_at
  have h__law_row : Has P w K mg base 2 "_law_row" ["script", "at"] sp__law_row := ok__law_row (at__law_row X G c) h__law_cell m_range
  have h__law_hang : Has P w K mg base 2 "_law_hang" ["sheet", "torn"] sp__law_hang := ok__law_hang (at__law_hang X G c) h__law_inner
  have h__law_tear : Has P w K mg base 2 "_law_tear" ["sheet", "hanging", "border"] sp__law_tear := ok__law_tear (at__law_tear X G c) h__law_full m_sorted m_tuple
  have h_is_border : Has P w K mg base 3 "is_border" ["thing"] sp_is_border := ok_is_border (at_is_border X G c) h_is_field m_isinstance m_len m_str m_tuple
  have h_hanging_of : Has P w K mg base 3 "hanging_of" ["sheet", "torn"] sp_hanging_of := ok_hanging_of (at_hanging_of X G c) h_borders_of
  have h_run_of : Has P w K mg base 3 "run_of" ["hanging", "border", "way"] sp_run_of := ok_run_of (at_run_of X G c) h_is_whole_corner h_corners_at h_next_to
  have h_corners_of : Has P w K mg base 3 "corners_of" ["hanging"] sp_corners_of := ok_corners_of (at_corners_of X G c) h_is_whole_corner h_corners_at m_len
  have h_behind : Has P w K mg base 3 "behind" ["fields", "hanging", "tear"] sp_behind := ok_behind (at_behind X G c) h_parts_of h_within m_list
  have h__law_tears : Has P w K mg base 3 "_law_tears" ["sheet", "torn"] sp__law_tears := ok__law_tears (at__law_tears X G c) h__law_tear h__law_hang m_sorted
  have h_is_sheet : Has P w K mg base 4 "is_sheet" ["thing"] sp_is_sheet := ok_is_sheet (at_is_sheet X G c) h_parts_of h_borders_of h_is_border h_rises h_is_field m_isinstance m_len m_tuple c_MOST_FIELDS
  have h_is_torn : Has P w K mg base 4 "is_torn" ["sheet", "thing"] sp_is_torn := ok_is_torn (at_is_torn X G c) h_is_border h_rises m_isinstance m_tuple
  have h_look_border : Has P w K mg base 4 "look_border" ["sheet", "border"] sp_look_border := ok_look_border (at_look_border X G c) h_is_border h_borders_of e_BadBorder
  have h_tear_at : Has P w K mg base 4 "tear_at" ["hanging", "pricks", "border"] sp_tear_at := ok_tear_at (at_tear_at X G c) h_run_of m_sorted m_tuple
  have h_measure_of : Has P w K mg base 4 "measure_of" ["fields", "hanging"] sp_measure_of := ok_measure_of (at_measure_of X G c) h_corners_of m_len
  have h_pieces_of : Has P w K mg base 4 "pieces_of" ["sheet", "torn"] sp_pieces_of := ok_pieces_of (at_pieces_of X G c) h_parts_of h_hanging_of m_list
  have h__law_end : Has P w K mg base 4 "_law_end" ["sheet", "torn", "draws"] sp__law_end := ok__law_end (at__law_end X G c) h__law_tears m_len m_sorted m_tuple
  have h_look : Has P w K mg base 5 "look" ["sheet"] sp_look := ok_look (at_look X G c) h_is_sheet e_BadSheet
  have h_tears_of : Has P w K mg base 5 "tears_of" ["hanging", "pricks"] sp_tears_of := ok_tears_of (at_tears_of X G c) h_tear_at m_sorted
  have h_look_torn : Has P w K mg base 6 "look_torn" ["sheet", "torn"] sp_look_torn := ok_look_torn (at_look_torn X G c) h_is_torn h_look e_BadTorn
  have h_first_row : Has P w K mg base 6 "first_row" ["sheet", "torn"] sp_first_row := ok_first_row (at_first_row X G c) h_tears_of h_pricks_of h_hanging_of m_tuple
  have h_tears : Has P w K mg base 7 "tears" ["sheet", "torn"] sp_tears := ok_tears (at_tears X G c) h_tears_of h_pricks_of h_hanging_of h_look_torn
  have h_torn_by : Has P w K mg base 7 "torn_by" ["sheet", "torn", "border"] sp_torn_by := ok_torn_by (at_torn_by X G c) h_tear_at h_pricks_of h_hanging_of h_look_border h_look_torn m_sorted m_tuple x_NoTear
  have h_measure : Has P w K mg base 7 "measure" ["sheet", "torn"] sp_measure := ok_measure (at_measure X G c) h_measure_of h_hanging_of h_look_torn
  have h_pieces : Has P w K mg base 7 "pieces" ["sheet", "torn"] sp_pieces := ok_pieces (at_pieces X G c) h_pieces_of h_look_torn
  have h_holes : Has P w K mg base 7 "holes" ["sheet", "torn"] sp_holes := ok_holes (at_holes X G c) h_pieces_of h_measure_of h_within h_hanging_of h_look_torn
  have h_end_torn : Has P w K mg base 7 "end_torn" ["sheet"] sp_end_torn := ok_end_torn (at_end_torn X G c) h_first_row
  have h_left_of : Has P w K mg base 7 "left_of" ["sheet", "torn"] sp_left_of := ok_left_of (at_left_of X G c) h_measure_of h_hanging_of h_first_row
  have h_end_pieces : Has P w K mg base 8 "end_pieces" ["sheet"] sp_end_pieces := ok_end_pieces (at_end_pieces X G c) h_pieces_of h_end_torn h_look
  have h_left : Has P w K mg base 8 "left" ["sheet", "torn"] sp_left := ok_left (at_left X G c) h_left_of h_look_torn
  have h_winner : Has P w K mg base 8 "winner" ["sheet"] sp_winner := ok_winner (at_winner X G c) h_left_of h_look
  have h_fewest_of : Has P w K mg base 46 "fewest_of" ["fields", "hanging", "pricks", "known"] sp_fewest_of := ok_fewest_of (at_fewest_of X G c) h_tears_of h_behind h_key_of m_max m_min
  have h_goes : Has P w K mg base 47 "goes" ["sheet"] sp_goes := ok_goes (at_goes X G c) h_fewest_of h_pricks_of h_hanging_of h_look
  exact ok_law F h_goes h_winner h_end_pieces h__law_end h__law_row h_tears h_pieces h_holes h_torn_by h_measure h_left h__law_inner m_int m_len m_range m_sorted m_tuple
end

theorem cx_no {P : Program} {w : World} {H : Hp} {s : Shared} {e : Value} {s' : Shared} (h : L2.CX P w [] H s (fun _ _ _ => False) e s') : False := by
  obtain ⟨_, _, _, _, _, _, _, _, _, _, _, _, z⟩ := h
  exact z
/-- the end, where what may be let out hangs on the world -/
theorem walk_ofW {l : PySem.W.OpenLaw} {n k : Nat} {q : Program} {loose : List Str} {XP : (Str → Option Value) → Heap → Prop} {YP : World → Heap → Prop} {d : DefRec} {CX : World → CXT} {x : Str}
    (hn : l.most = some n) (hn2 : n ≤ sizeLine) (hdf : d.params.defaults = []) (hr : Room k callerA)
    (F : ∀ (w : World) (mg : Str → Option Value) (fa : Addr) (h : Heap), YP w h → h.Ns mainGlobals mg → mg d.name = some (.ref fa) →
      ∃ (K : PySem.W.Frag) (fd : FuncData) (sp : Sp), K.In h ∧ (∀ (s : Shared) (u : Value), BindsTo s fd ⟨[u], []⟩ [(x, u)]) ∧
        (∀ (H : Hp) (a : Addr) (ns : List Int), ns.length ≤ n → Only H → SqL K H a (ns.map V.int) → sp [.ref a] H (fun v _ => v = .bl true) fun _ _ _ => False) ∧
        ∀ base : Heap, K.In base → base.Ns mainGlobals mg → FnOk l.prog w K mg base (CX w) k fa fd [x] sp)
    (hCX : ∀ (w : World) (H : Hp) (s : Shared) (e : Value) (s' : Shared), CX w [] H s (fun _ _ _ => False) e s' → False) :
    PySem.W.WalkO q loose XP YP l.row.toRowW d [] (fun f vs => PySem.call f vs) := by
  refine Att.attach_call hn hdf fun w s₀ s₁ mg mb fa o pm cd doc a vs ns G Y ho hd hcd hmg hobj hints hlen hg => ?_
  obtain ⟨K, fd, sp, KX, hb, hsp, hF⟩ := F w mg fa _ Y G.T.g hmg
  exact law_call KX G.T.g G.T.b G.T.builtins G.T.nolimit hg hobj hints (Nat.le_trans hlen hn2) hr hF hb (fun H hO hS => hsp H a ns hlen hO hS) fun H e s' => hCX w H s₁ e s'
theorem noL_out {K : PySem.W.Frag} (h : Hd.noL K = true) {a : Addr} {o : Obj} (e : K.lookup a = some o) (hc : o.cls = .type "list") : False := by
  unfold Hd.noL at h
  rw [List.all_eq_true] at h
  have hm : ∀ (l : List (Addr × Obj)), l.lookup a = some o → (a, o) ∈ l := fun l => by
    induction l with
    | nil => intro z; cases z
    | cons p l ih =>
      intro z
      obtain ⟨b, u⟩ := p
      rw [List.lookup_cons] at z
      by_cases hb : (a == b) = true
      · rw [hb] at z
        cases z
        rw [beq_iff_eq.mp hb]
        exact List.mem_cons_self
      · rw [Bool.eq_false_iff.mpr hb] at z
        exact List.mem_cons_of_mem _ (ih z)
  have := h _ (hm K e)
  simp only [hc] at this
  revert this
  decide
theorem noL_of {K : PySem.W.Frag} (h : Hd.ex K = true) : Hd.noL K = true := by
  unfold Hd.ex at h
  first
    | exact (Bool.and_eq_true_iff.mp h).1
    | exact h
theorem law_sp {P : Program} {w : World} {K : PySem.W.Frag} (hN : Hd.noL K = true) {H : Hp} {a : Addr} {ns : List Int} (hO : Only H) (hS : SqL K H a (ns.map V.int)) : liftSp P w K sp_law [.ref a] H (fun v _ => v = .bl true) fun _ _ _ => False := by
  have hfr : ∃ o, H a = some (.frz o (.lst (ns.map V.int))) := by
    rcases hS with (h | h) | ⟨o, its, n, h1, h2, _⟩
    · rcases hO a with z | ⟨o, xs, z⟩ <;> (rw [h] at z; cases z)
    · exact h
    · exact (noL_out hN h1 h2).elim
  refine ⟨[.loc a], fun b => if b = a then some (.scr ns) else none, fun d _ => d = .bl true, fun _ _ _ => False, ⟨.ref a, [], rfl, rfl, rfl⟩, fun b m e => ?_, ⟨a, ns, rfl, if_pos rfl, fun _ => rfl⟩, fun d S' v H' q p _ _ => ?_, fun _ _ _ _ z _ _ => z⟩
  · have e : (if b = a then some (MO.scr ns) else none) = some m := e
    by_cases hb : b = a
    · subst hb
      rw [if_pos rfl] at e
      cases e
      obtain ⟨o, ho⟩ := hfr
      exact ⟨hS, (fun xs z => by rw [ho] at z; cases z), o, ho⟩
    · rw [if_neg hb] at e; cases e
  · subst q
    exact p
end DL
open PySem PySem.W PySem.Calls PyProof.Rows
theorem PySem.Challenge.cw_tornsheets_k19_whole_a_ring_is_opened_holds : PySem.Challenge.rw_tornsheets_k19_whole_a_ring_is_opened.Holds := by
  w_on; o_law
  refine HandSHeadRun.head_any (r := OpenLaw.row PySem.Challenge.rw_tornsheets_k19_whole_a_ring_is_opened) (q := view (OpenLaw.row PySem.Challenge.rw_tornsheets_k19_whole_a_ring_is_opened).prog [63]) (H := Hd.hk) (ob := Hd.ob) (M := 6000) (loose := Hd.names) (d := HandSHeadRun.topDef (OpenLaw.row PySem.Challenge.rw_tornsheets_k19_whole_a_ring_is_opened).prog 63) (kwd := []) Hd.ob_eq
    (by kernel_rfl) (fun s => by kernel_rfl) Hd.run (by kernel_rfl) (by kernel_rfl) (by kernel_rfl) (by rfl) (by first | assumption | decide +kernel) (by decide +kernel) ⟨rfl, rfl, rfl, rfl, rfl, by decide +kernel⟩ ?hw ?hc
  case hw => w_witness2
  case hc =>
    refine DL.walk_ofW (l := PySem.Challenge.rw_tornsheets_k19_whole_a_ring_is_opened) (n := 63) (k := 48) (x := "script") (CX := fun w => L2.CX (PySem.Challenge.rw_tornsheets_k19_whole_a_ring_is_opened).prog w) rfl (by decide) (by kernel_rfl) ⟨rfl, by decide, by decide⟩ ?F (fun _ _ _ _ _ z => DL.cx_no z)
    intro w mg fa h Y G hmg0
    obtain ⟨K, KX, c⟩ := Y
    have hmg : mg ("law" : PySem.Str) = some (.ref fa) := by
      have e : (HandSHeadRun.topDef (OpenLaw.row PySem.Challenge.rw_tornsheets_k19_whole_a_ring_is_opened).prog 63).name = ("law" : PySem.Str) := by kernel_rfl
      rw [← e]
      exact hmg0
    obtain ⟨fd, F⟩ := c.1.def_ 49 (d := Hd.d_law) rfl
    have e := hmg.symm.trans (He.glo_ok KX G (c.1.fact 49 (f := .glo "law") rfl))
    cases e
    have b := L2.FunD.bindsA (ps := ["script"]) F fun _ _ _ _ _ _ us hl => match us, hl with | [_], _ => rfl
    exact ⟨K, fd, DL.liftSp (PySem.Challenge.rw_tornsheets_k19_whole_a_ring_is_opened).prog w K DL.sp_law, KX, fun s v => b s [v] rfl, fun H a ns _ hO hS => DL.law_sp (DL.noL_of c.2) hO hS, fun base _ _ => DL.all_of KX G c.1 c.2 (DL.fun_of F)⟩

