import PyProof.Rows.All
import Wide.All
import OpenK.AllK
import Wide.FinOn
import HandS.ForMost
import HandS.ForExc
import HandS.Wide
import HandS.IsInst
import HandS.CallSlots
import HandS.ExcInit
import HandS.TryOnly
import HandS.TupAny
import HandS.Style
import HandS.SortInts
import HandS.Comp
import HandS.Small
import HandS.WordsExc
import HandS.EndBits
import HandS.TryMany
import HandS.Text
import HandS.More
import HandS.Conv
import KE.KDictPairs
import HandS.DictComp
import KE.GoesMore
import PyProof.DictCopy
import HandS.Deep
import KE.DataCmp
import PySem.Challenge.RW_elderalike_k04_books_kept_and_compared
set_option Elab.async false
set_option linter.all false
set_option maxRecDepth 100000
set_option maxHeartbeats 4000000
namespace Mi
open PySem PySem.Spec PyProof.Rows L2

/- data; the flag at a list, a dict, an instance: nothing else holds it -/
inductive D where
  | non | bl (b : Bool) | int (i : Int) | str (s : Str) | ty (n : String) | fn (x : Str) | scr (l : List Int)
  | tup (l : List D)
  | lst (o : Bool) (l : List D)
  | dic (o : Bool) (ks ws : List D)
  | ins (o : Bool) (c : Str) (ns : List Str) (ws : List D)
  deriving Inhabited

mutual
def fz : D → Bool
  | .tup l => fzL l
  | .lst o l => !o && fzL l
  | .dic o ks ws => !o && (fzL ks && fzL ws)
  | .ins o _ _ ws => !o && fzL ws
  | _ => true
def fzL : List D → Bool
  | [] => true
  | d :: r => fz d && fzL r
end
mutual
def frz : D → D
  | .tup l => .tup (frzL l)
  | .lst _ l => .lst false (frzL l)
  | .dic _ ks ws => .dic false ks (frzL ws)
  | .ins _ c ns ws => .ins false c ns (frzL ws)
  | .non => .non | .bl b => .bl b | .int i => .int i | .str s => .str s | .ty n => .ty n | .fn x => .fn x | .scr l => .scr l
def frzL : List D → List D
  | [] => []
  | d :: r => frz d :: frzL r
end
abbrev Tag := Nat × List Nat
structure Wd where
  F : Hp
  H : Hp
  t : Addr → Option Tag
structure KM where
  P : Program
  w : World
  K : PySem.W.Frag
  mg : Str → Option Value

/- a dict's object: its keys and values -/
inductive DCell : HO → List V → List V → Prop where
  | dk (kvs : List (Key × V)) : DCell (.dK kvs) (kvs.map fun p => kV p.1) (kvs.map (·.2))

/- a tuple's object, exactly one (no dict of its own) -/
def XT (K : PySem.W.Frag) (F : Hp) (x : Addr) (vs : List V) : Prop := (∃ ob : Obj, F x = some (.frz ob (.tup vs)) ∧ ob.dict = none ∧ ob.cls = .type "tuple") ∨
  ∃ (o : Obj) (its : Array Value) (n : Nat), K.lookup x = some o ∧ o.cls = .type "tuple" ∧ o.dict = none ∧ o.data = .seq its n ∧ its.size ≤ sizeLine ∧ Vals vs its.toList
theorem XT.sq {K : PySem.W.Frag} {F : Hp} {x : Addr} {vs : List V} (h : XT K F x vs) : SqT K F x vs := by
  rcases h with ⟨ob, h, _⟩ | ⟨o, its, n, h1, h2, _, h3, h4, h5⟩
  · exact .inl (.inr ⟨ob, h⟩)
  · exact .inr ⟨o, its, n, h1, h2, h3, h4, h5⟩
theorem xt_mono {K : PySem.W.Frag} {F G : Hp} (h : ∀ x o, F x = some o → G x = some o) {x : Addr} {vs : List V} (q : XT K F x vs) : XT K G x vs := by
  rcases q with ⟨ob, q, z⟩ | q
  · exact .inl ⟨ob, h _ _ q, z⟩
  · exact .inr q
mutual
def Rep (C : KM) (a : Wd) (r : Nat) (p : List Nat) (v : V) : D → Prop
  | .non => v = .non
  | .bl b => v = .bl b
  | .int i => v = .int i
  | .str s => v = .str s
  | .ty n => v = .ty n
  | .fn x => ∃ u, C.mg x = some (.ref u) ∧ v = .ref u
  | .scr l => ∃ x, v = .ref x ∧ SqL C.K a.F x (l.map V.int)
  | .tup l => ∃ x vs, v = .ref x ∧ XT C.K a.F x vs ∧ RepL C a r p 0 vs l
  | .lst o l => ∃ x vs, v = .ref x ∧ (if o = true then a.t x = some (r, p) ∧ a.H x = some (.lst vs) else a.F x = some (.lst vs) ∧ fzL l = true) ∧ RepL C a r p 0 vs l
  | .dic o ks ws => ∃ x h kv vs, v = .ref x ∧ (if o = true then a.t x = some (r, p) ∧ a.H x = some h else a.F x = some h ∧ fzL ws = true) ∧ DCell h kv vs ∧ fzL ks = true ∧ RepL C a r p 0 kv ks ∧ RepL C a r p 0 vs ws
  | .ins o c ns ws => ∃ x u dx vs, v = .ref x ∧ C.mg c = some (.ref u) ∧ vs.length = ns.length ∧
      (if o = true then a.t x = some (r, p) ∧ a.H x = some (.ins u dx (ns.zip vs)) else a.F x = some (.ins u dx (ns.zip vs)) ∧ fzL ws = true) ∧ RepL C a r p 0 vs ws
def RepL (C : KM) (a : Wd) (r : Nat) (p : List Nat) (n : Nat) (vs : List V) : List D → Prop
  | [] => vs = []
  | d :: ds => ∃ v us, vs = v :: us ∧ Rep C a r (n :: p) v d ∧ RepL C a r p (n + 1) us ds
end

structure Ok (a : Wd) : Prop where
  sub : ∀ x o, a.F x = some o → a.H x = some o
  own : ∀ x t, a.t x = some t → a.F x = none ∧ ∃ o, a.H x = some o
/- nothing is changed, things may be new -/
structure Grow (a b : Wd) : Prop where
  h : ∀ x o, a.H x = some o → b.H x = some o ∧ b.t x = a.t x ∧ b.F x = a.F x
/- what is not owned stays -/
def Step (a b : Wd) : Prop := ∀ x o, a.H x = some o → a.t x = none → b.H x = some o ∧ b.t x = none ∧ b.F x = a.F x
theorem Grow.refl (a : Wd) : Grow a a := ⟨fun _ _ h => ⟨h, rfl, rfl⟩⟩
theorem Grow.trans {a b c : Wd} (x : Grow a b) (y : Grow b c) : Grow a c := ⟨fun z o h => by
  obtain ⟨h1, h2, h3⟩ := x.h z o h
  obtain ⟨g1, g2, g3⟩ := y.h z o h1
  exact ⟨g1, g2.trans h2, g3.trans h3⟩⟩
theorem Step.refl (a : Wd) : Step a a := fun _ _ h t => ⟨h, t, rfl⟩
theorem Step.trans {a b c : Wd} (x : Step a b) (y : Step b c) : Step a c := fun z o h t => by
  obtain ⟨h1, h2, h3⟩ := x z o h t
  obtain ⟨g1, g2, g3⟩ := y z o h1 h2
  exact ⟨g1, g2, g3.trans h3⟩
theorem Grow.step {a b : Wd} (x : Grow a b) : Step a b := fun z o h t => by
  obtain ⟨h1, h2, h3⟩ := x.h z o h
  exact ⟨h1, h2.trans t, h3⟩
theorem Ok.tn {a : Wd} (k : Ok a) {x : Addr} {o : HO} (h : a.F x = some o) : a.t x = none := by
  cases e : a.t x with
  | none => rfl
  | some t => have := (k.own x t e).1; rw [h] at this; cases this
theorem Step.f {a b : Wd} (s : Step a b) (k : Ok a) {x : Addr} {o : HO} (h : a.F x = some o) : b.F x = some o := by
  rw [(s x o (k.sub x o h) (k.tn h)).2.2]; exact h
theorem Grow.f {a b : Wd} (s : Grow a b) (k : Ok a) {x : Addr} {o : HO} (h : a.F x = some o) : b.F x = some o := by
  rw [(s.h x o (k.sub x o h)).2.2]; exact h

theorem sql_mono {K : PySem.W.Frag} {F G : Hp} (h : ∀ x o, F x = some o → G x = some o) {x : Addr} {vs : List V} (q : SqL K F x vs) : SqL K G x vs := by
  rcases q with (q | ⟨o, q⟩) | q
  · exact .inl (.inl (h _ _ q))
  · exact .inl (.inr ⟨o, h _ _ q⟩)
  · exact .inr q
theorem sqt_mono {K : PySem.W.Frag} {F G : Hp} (h : ∀ x o, F x = some o → G x = some o) {x : Addr} {vs : List V} (q : SqT K F x vs) : SqT K G x vs := by
  rcases q with (q | ⟨o, q⟩) | q
  · exact .inl (.inl (h _ _ q))
  · exact .inl (.inr ⟨o, h _ _ q⟩)
  · exact .inr q

/-! the general transport: F grows, owned nodes of the tree keep their cell and get the new tag -/
mutual
theorem Rep.to {C : KM} {a b : Wd} {r s : Nat} {p q : List Nat} (hf : ∀ x o, a.F x = some o → b.F x = some o)
    (ho : ∀ x z o, a.t x = some (r, z ++ p) → a.H x = some o → b.t x = some (s, z ++ q) ∧ b.H x = some o) :
    ∀ (d : D) (z : List Nat) (v : V), Rep C a r (z ++ p) v d → Rep C b s (z ++ q) v d
  | .non, z, v, h => h
  | .bl _, z, v, h => h
  | .int _, z, v, h => h
  | .str _, z, v, h => h
  | .ty _, z, v, h => h
  | .fn _, z, v, h => h
  | .scr _, z, v, ⟨x, e, h⟩ => ⟨x, e, sql_mono hf h⟩
  | .tup l, z, v, ⟨x, vs, e, h, k⟩ => ⟨x, vs, e, xt_mono hf h, RepL.to hf ho l z 0 vs k⟩
  | .lst true l, z, v, ⟨x, vs, e, h, k⟩ => ⟨x, vs, e, by rw [if_pos rfl] at h ⊢; exact ho x z _ h.1 h.2, RepL.to hf ho l z 0 vs k⟩
  | .lst false l, z, v, ⟨x, vs, e, h, k⟩ => ⟨x, vs, e, by rw [if_neg Bool.false_ne_true] at h ⊢; exact ⟨hf _ _ h.1, h.2⟩, RepL.to hf ho l z 0 vs k⟩
  | .dic true ks ws, z, v, ⟨x, u, kv, vs, e, h, c, f, k1, k2⟩ => ⟨x, u, kv, vs, e, by rw [if_pos rfl] at h ⊢; exact ho x z _ h.1 h.2, c, f, RepL.to hf ho ks z 0 kv k1, RepL.to hf ho ws z 0 vs k2⟩
  | .dic false ks ws, z, v, ⟨x, u, kv, vs, e, h, c, f, k1, k2⟩ => ⟨x, u, kv, vs, e, by rw [if_neg Bool.false_ne_true] at h ⊢; exact ⟨hf _ _ h.1, h.2⟩, c, f, RepL.to hf ho ks z 0 kv k1, RepL.to hf ho ws z 0 vs k2⟩
  | .ins true c ns ws, z, v, ⟨x, u, dx, vs, e, m, l, h, k⟩ => ⟨x, u, dx, vs, e, m, l, by rw [if_pos rfl] at h ⊢; exact ho x z _ h.1 h.2, RepL.to hf ho ws z 0 vs k⟩
  | .ins false c ns ws, z, v, ⟨x, u, dx, vs, e, m, l, h, k⟩ => ⟨x, u, dx, vs, e, m, l, by rw [if_neg Bool.false_ne_true] at h ⊢; exact ⟨hf _ _ h.1, h.2⟩, RepL.to hf ho ws z 0 vs k⟩
theorem RepL.to {C : KM} {a b : Wd} {r s : Nat} {p q : List Nat} (hf : ∀ x o, a.F x = some o → b.F x = some o)
    (ho : ∀ x z o, a.t x = some (r, z ++ p) → a.H x = some o → b.t x = some (s, z ++ q) ∧ b.H x = some o) :
    ∀ (l : List D) (z : List Nat) (n : Nat) (vs : List V), RepL C a r (z ++ p) n vs l → RepL C b s (z ++ q) n vs l
  | [], z, n, vs, h => h
  | d :: l, z, n, vs, ⟨v, us, e, h1, h2⟩ => ⟨v, us, e, Rep.to hf ho d (n :: z) v h1, RepL.to hf ho l z (n + 1) us h2⟩
end
/-! frozen data stands at any tag -/
mutual
theorem Rep.fz {C : KM} {a b : Wd} {r s : Nat} (hf : ∀ x o, a.F x = some o → b.F x = some o) :
    ∀ (d : D) (p q : List Nat) (v : V), fz d = true → Rep C a r p v d → Rep C b s q v d
  | .non, p, q, v, _, h => h
  | .bl _, p, q, v, _, h => h
  | .int _, p, q, v, _, h => h
  | .str _, p, q, v, _, h => h
  | .ty _, p, q, v, _, h => h
  | .fn _, p, q, v, _, h => h
  | .scr _, p, q, v, _, ⟨x, e, h⟩ => ⟨x, e, sql_mono hf h⟩
  | .tup l, p, q, v, z, ⟨x, vs, e, h, k⟩ => ⟨x, vs, e, xt_mono hf h, RepL.fz hf l p q 0 vs z k⟩
  | .lst true l, p, q, v, z, _ => by simp [Mi.fz] at z
  | .lst false l, p, q, v, z, ⟨x, vs, e, h, k⟩ => by
    have z : fzL l = true := by simpa [Mi.fz] using z
    exact ⟨x, vs, e, by rw [if_neg Bool.false_ne_true] at h ⊢; exact ⟨hf _ _ h.1, h.2⟩, RepL.fz hf l p q 0 vs z k⟩
  | .dic true ks ws, p, q, v, z, _ => by simp [Mi.fz] at z
  | .dic false ks ws, p, q, v, z, ⟨x, u, kv, vs, e, h, c, f, k1, k2⟩ => by
    have z : fzL ks = true ∧ fzL ws = true := by simpa [Mi.fz] using z
    exact ⟨x, u, kv, vs, e, by rw [if_neg Bool.false_ne_true] at h ⊢; exact ⟨hf _ _ h.1, h.2⟩, c, f, RepL.fz hf ks p q 0 kv z.1 k1, RepL.fz hf ws p q 0 vs z.2 k2⟩
  | .ins true c ns ws, p, q, v, z, _ => by simp [Mi.fz] at z
  | .ins false c ns ws, p, q, v, z, ⟨x, u, dx, vs, e, m, l, h, k⟩ => by
    have z : fzL ws = true := by simpa [Mi.fz] using z
    exact ⟨x, u, dx, vs, e, m, l, by rw [if_neg Bool.false_ne_true] at h ⊢; exact ⟨hf _ _ h.1, h.2⟩, RepL.fz hf ws p q 0 vs z k⟩
theorem RepL.fz {C : KM} {a b : Wd} {r s : Nat} (hf : ∀ x o, a.F x = some o → b.F x = some o) :
    ∀ (l : List D) (p q : List Nat) (n : Nat) {m : Nat} (vs : List V), fzL l = true → RepL C a r p n vs l → RepL C b s q m vs l
  | [], p, q, n, m, vs, _, h => h
  | d :: l, p, q, n, m, vs, z, ⟨v, us, e, h1, h2⟩ => by
    have z : Mi.fz d = true ∧ fzL l = true := by simpa [Mi.fzL] using z
    exact ⟨v, us, e, Rep.fz hf d (n :: p) (m :: q) v z.1 h1, RepL.fz hf l p q (n + 1) us z.2 h2⟩
end
/-! a tree is frozen: its nodes go into F -/
mutual
theorem Rep.frz {C : KM} {a b : Wd} {r s : Nat} (hf : ∀ x o, a.F x = some o → b.F x = some o) (ho : ∀ x z o, a.t x = some (r, z) → a.H x = some o → b.F x = some o) :
    ∀ (d : D) (p q : List Nat) (v : V), Rep C a r p v d → Mi.fz (Mi.frz d) = true ∧ Rep C b s q v (Mi.frz d)
  | .non, p, q, v, h => ⟨rfl, h⟩
  | .bl _, p, q, v, h => ⟨rfl, h⟩
  | .int _, p, q, v, h => ⟨rfl, h⟩
  | .str _, p, q, v, h => ⟨rfl, h⟩
  | .ty _, p, q, v, h => ⟨rfl, h⟩
  | .fn _, p, q, v, h => ⟨rfl, h⟩
  | .scr _, p, q, v, ⟨x, e, h⟩ => ⟨rfl, x, e, sql_mono hf h⟩
  | .tup l, p, q, v, ⟨x, vs, e, h, k⟩ => by
    obtain ⟨z, k'⟩ := RepL.frz (s := s) hf ho l p q 0 vs k
    exact ⟨by simpa [Mi.fz, Mi.frz] using z, x, vs, e, xt_mono hf h, k'⟩
  | .lst o l, p, q, v, ⟨x, vs, e, h, k⟩ => by
    obtain ⟨z, k'⟩ := RepL.frz (s := s) hf ho l p q 0 vs k
    refine ⟨by simpa [Mi.fz, Mi.frz] using z, x, vs, e, ?_, k'⟩
    rw [if_neg Bool.false_ne_true]
    cases o with
    | true => rw [if_pos rfl] at h; exact ⟨ho x _ _ h.1 h.2, z⟩
    | false => rw [if_neg Bool.false_ne_true] at h; exact ⟨hf _ _ h.1, z⟩
  | .dic o ks ws, p, q, v, ⟨x, u, kv, vs, e, h, c, f, k1, k2⟩ => by
    obtain ⟨z, k'⟩ := RepL.frz (s := s) hf ho ws p q 0 vs k2
    refine ⟨by simp [Mi.fz, Mi.frz, z, f], x, u, kv, vs, e, ?_, c, f, RepL.fz hf ks p q 0 kv f k1, k'⟩
    rw [if_neg Bool.false_ne_true]
    cases o with
    | true => rw [if_pos rfl] at h; exact ⟨ho x _ _ h.1 h.2, z⟩
    | false => rw [if_neg Bool.false_ne_true] at h; exact ⟨hf _ _ h.1, z⟩
  | .ins o c ns ws, p, q, v, ⟨x, u, dx, vs, e, m, l, h, k⟩ => by
    obtain ⟨z, k'⟩ := RepL.frz (s := s) hf ho ws p q 0 vs k
    refine ⟨by simpa [Mi.fz, Mi.frz] using z, x, u, dx, vs, e, m, l, ?_, k'⟩
    rw [if_neg Bool.false_ne_true]
    cases o with
    | true => rw [if_pos rfl] at h; exact ⟨ho x _ _ h.1 h.2, z⟩
    | false => rw [if_neg Bool.false_ne_true] at h; exact ⟨hf _ _ h.1, z⟩
theorem RepL.frz {C : KM} {a b : Wd} {r s : Nat} (hf : ∀ x o, a.F x = some o → b.F x = some o) (ho : ∀ x z o, a.t x = some (r, z) → a.H x = some o → b.F x = some o) :
    ∀ (l : List D) (p q : List Nat) (n : Nat) {m : Nat} (vs : List V), RepL C a r p n vs l → fzL (frzL l) = true ∧ RepL C b s q m vs (frzL l)
  | [], p, q, n, m, vs, h => ⟨rfl, h⟩
  | d :: l, p, q, n, m, vs, ⟨v, us, e, h1, h2⟩ => by
    obtain ⟨z1, k1⟩ := Rep.frz (s := s) hf ho d (n :: p) (m :: q) v h1
    obtain ⟨z2, k2⟩ := RepL.frz (s := s) hf ho l p q (n + 1) (m := m + 1) us h2
    exact ⟨by simp [Mi.frzL, Mi.fzL, z1, z2], v, us, e, k1, k2⟩
end
end Mi
namespace Mi
open PySem PySem.Spec PyProof.Rows L2

mutual
theorem frz_fz : ∀ d : D, fz d = true → frz d = d
  | .non, _ => rfl
  | .bl _, _ => rfl
  | .int _, _ => rfl
  | .str _, _ => rfl
  | .ty _, _ => rfl
  | .fn _, _ => rfl
  | .scr _, _ => rfl
  | .tup l, h => by simp only [frz, frzL_fz l (by simpa [fz] using h)]
  | .lst o l, h => by
    have h : o = false ∧ fzL l = true := by simpa [fz] using h
    simp only [frz, frzL_fz l h.2, h.1]
  | .dic o ks ws, h => by
    have h : o = false ∧ fzL ks = true ∧ fzL ws = true := by simpa [fz] using h
    simp only [frz, frzL_fz ws h.2.2, h.1]
  | .ins o c ns ws, h => by
    have h : o = false ∧ fzL ws = true := by simpa [fz] using h
    simp only [frz, frzL_fz ws h.2, h.1]
theorem frzL_fz : ∀ l : List D, fzL l = true → frzL l = l
  | [], _ => rfl
  | d :: l, h => by
    have h : fz d = true ∧ fzL l = true := by simpa [fzL] using h
    simp only [frzL, frz_fz d h.1, frzL_fz l h.2]
end

/-! ### the worlds behind a freezing, a move -/
def frzW (a : Wd) (r : Nat) : Wd where
  F := fun x => match a.t x with | some (s, _) => if s = r then a.H x else a.F x | none => a.F x
  H := a.H
  t := fun x => match a.t x with | some (s, q) => if s = r then none else some (s, q) | none => none
def mvW (a : Wd) (r k : Nat) : Wd where
  F := a.F
  H := a.H
  t := fun x => match a.t x with | some (s, q) => if s = r then some (k, q) else some (s, q) | none => none
section
variable {a b : Wd} {C : KM} {r k s : Nat} {d : D} {v : V} {p q : List Nat}
theorem frzW_f (k : Ok a) : ∀ x o, a.F x = some o → (frzW a r).F x = some o := fun x o h => by
  show (match a.t x with | some (s, _) => if s = r then a.H x else a.F x | none => a.F x) = _
  rw [k.tn h]; exact h
theorem frzW_o (r : Nat) : ∀ x z o, a.t x = some (r, z) → a.H x = some o → (frzW a r).F x = some o := fun x z o h e => by
  show (match a.t x with | some (s, _) => if s = r then a.H x else a.F x | none => a.F x) = _
  rw [h]; simpa using e
theorem frzW_ok (k : Ok a) : Ok (frzW a r) := by
  refine ⟨fun x o h => ?_, fun x t h => ?_⟩
  · have h : (match a.t x with | some (s, _) => if s = r then a.H x else a.F x | none => a.F x) = some o := h
    show a.H x = some o
    split at h
    · split at h
      · exact h
      · exact k.sub x o h
    · exact k.sub x o h
  · have h : (match a.t x with | some (s, q) => if s = r then none else some (s, q) | none => none) = some t := h
    split at h
    · rename_i s q e
      split at h
      · cases h
      · rename_i ne
        obtain ⟨h1, h2⟩ := k.own x _ e
        refine ⟨?_, h2⟩
        show (match a.t x with | some (s, _) => if s = r then a.H x else a.F x | none => a.F x) = none
        rw [e]; simp [ne, h1]
    · cases h
theorem frzW_step : Step a (frzW a r) := fun x o h t => by
  refine ⟨h, ?_, ?_⟩
  · show (match a.t x with | some (s, q) => if s = r then none else some (s, q) | none => none) = none
    rw [t]
  · show (match a.t x with | some (s, _) => if s = r then a.H x else a.F x | none => a.F x) = a.F x
    rw [t]
theorem frzW_rep (k : Ok a) (h : Rep C a r p v d) : fz (frz d) = true ∧ Rep C (frzW a r) s q v (frz d) := Rep.frz (frzW_f k) (frzW_o r) d p q v h
theorem frzW_else (k : Ok a) (ne : s ≠ r) (h : Rep C a s p v d) : Rep C (frzW a r) s p v d := by
  have := Rep.to (C := C) (a := a) (b := frzW a r) (r := s) (s := s) (p := p) (q := p) (frzW_f k) (fun x z o h e => ⟨by
    show (match a.t x with | some (s, q) => if s = r then none else some (s, q) | none => none) = _
    rw [h]; simp [ne], e⟩) d [] v
  exact this h
theorem mvW_ok (k : Ok a) {r m : Nat} : Ok (mvW a r m) := by
  refine ⟨k.sub, fun x t h => ?_⟩
  have h : (match a.t x with | some (s, q) => if s = r then some (m, q) else some (s, q) | none => none) = some t := h
  split at h
  · rename_i s q e; exact k.own x _ e
  · cases h
theorem mvW_step {r m : Nat} : Step a (mvW a r m) := fun x o h t => by
  refine ⟨h, ?_, rfl⟩
  show (match a.t x with | some (s, q) => if s = r then some (m, q) else some (s, q) | none => none) = none
  rw [t]
theorem mvW_rep {m : Nat} (h : Rep C a r p v d) : Rep C (mvW a r m) m p v d := by
  have := Rep.to (C := C) (a := a) (b := mvW a r m) (r := r) (s := m) (p := p) (q := p) (fun _ _ h => h) (fun x z o h e => ⟨by
    show (match a.t x with | some (s, q) => if s = r then some (m, q) else some (s, q) | none => none) = _
    rw [h]; simp, e⟩) d [] v
  exact this h
theorem mvW_else {m : Nat} (ne : s ≠ r) (h : Rep C a s p v d) : Rep C (mvW a r m) s p v d := by
  have := Rep.to (C := C) (a := a) (b := mvW a r m) (r := s) (s := s) (p := p) (q := p) (fun _ _ h => h) (fun x z o h e => ⟨by
    show (match a.t x with | some (s, q) => if s = r then some (m, q) else some (s, q) | none => none) = _
    rw [h]; simp [ne], e⟩) d [] v
  exact this h
theorem Rep.grow (k : Ok a) (g : Grow a b) (h : Rep C a r p v d) : Rep C b r p v d := by
  have := Rep.to (C := C) (a := a) (b := b) (r := r) (s := r) (p := p) (q := p) (fun x o h => g.f k h) (fun x z o h e => ⟨((g.h x o e).2.1).trans h, (g.h x o e).1⟩) d [] v
  exact this h
theorem Rep.step (k : Ok a) (st : Step a b) (z : Mi.fz d = true) (h : Rep C a r p v d) : Rep C b s q v d := Rep.fz (fun x o h => st.f k h) d p q v z h
theorem Rep.stepL {l : List D} {vs : List V} {n m : Nat} (k : Ok a) (st : Step a b) (z : fzL l = true) (h : RepL C a r p n vs l) : RepL C b s q m vs l := RepL.fz (fun x o h => st.f k h) l p q n vs z h
/- a new thing, frozen, owned -/
theorem grow_f {o : HO} {x : Addr} (k : Ok a) (hx : a.H x = none) : Grow a ⟨upd a.F x o, upd a.H x o, a.t⟩ ∧ Ok ⟨upd a.F x o, upd a.H x o, a.t⟩ := by
  have tx : a.t x = none := by
    cases e : a.t x with
    | none => rfl
    | some t => obtain ⟨_, o, h⟩ := k.own x t e; rw [hx] at h; cases h
  refine ⟨⟨fun y u h => ?_⟩, ⟨fun y u h => ?_, fun y t h => ?_⟩⟩
  · have ne : y ≠ x := by rintro rfl; rw [hx] at h; cases h
    exact ⟨by show upd a.H x o y = _; rw [upd_ne ne]; exact h, rfl, by show upd a.F x o y = _; rw [upd_ne ne]⟩
  · by_cases e : y = x
    · subst e
      have h : upd a.F y o y = some u := h
      rw [upd_same] at h
      show upd a.H y o y = some u
      rw [upd_same]; exact h
    · have h : upd a.F x o y = some u := h
      rw [upd_ne e] at h
      show upd a.H x o y = some u
      rw [upd_ne e]; exact k.sub y u h
  · have ne : y ≠ x := by rintro rfl; have h : a.t y = some t := h; rw [tx] at h; cases h
    obtain ⟨h1, u, h2⟩ := k.own y t h
    exact ⟨by show upd a.F x o y = _; rw [upd_ne ne]; exact h1, u, by show upd a.H x o y = _; rw [upd_ne ne]; exact h2⟩
theorem grow_o {o : HO} {x : Addr} (T : Tag) (k : Ok a) (hx : a.H x = none) : Grow a ⟨a.F, upd a.H x o, fun y => if y = x then some T else a.t y⟩ ∧ Ok ⟨a.F, upd a.H x o, fun y => if y = x then some T else a.t y⟩ := by
  have fx : a.F x = none := by
    cases e : a.F x with
    | none => rfl
    | some u => have := k.sub x u e; rw [hx] at this; cases this
  refine ⟨⟨fun y u h => ?_⟩, ⟨fun y u h => ?_, fun y t h => ?_⟩⟩
  · have ne : y ≠ x := by rintro rfl; rw [hx] at h; cases h
    exact ⟨by show upd a.H x o y = _; rw [upd_ne ne]; exact h, if_neg ne, rfl⟩
  · have ne : y ≠ x := by rintro rfl; have h : a.F y = some u := h; rw [fx] at h; cases h
    show upd a.H x o y = _
    rw [upd_ne ne]; exact k.sub y u h
  · have h : (if y = x then some T else a.t y) = some t := h
    by_cases e : y = x
    · subst e
      exact ⟨fx, o, upd_same⟩
    · rw [if_neg e] at h
      obtain ⟨h1, u, h2⟩ := k.own y t h
      exact ⟨h1, u, by show upd a.H x o y = _; rw [upd_ne e]; exact h2⟩
end

/-! ### results, frames -/
abbrev EnvD := List (Option D)
structure Exc where
  cls : Str
  ns : List Str
  ws : List D
inductive Res (α : Type) where
  | ok (a : α) | exc (x : Exc) (e : EnvD) | bad
def Res.bind {α β : Type} (m : Res α) (k : α → Res β) : Res β := match m with
  | .ok a => k a
  | .exc x e => .exc x e
  | .bad => .bad
instance : Monad Res where
  pure := .ok
  bind := Res.bind
structure Gm where
  C : KM
  vs0 : List V
  io : List Nat
structure RelE (G : Gm) (a : Wd) (σ : L2.St) (env : EnvD) : Prop where
  ok : Ok a
  len : env.length = σ.length
  slot : ∀ i d, env[i]? = some (some d) → ∃ v, σ[i]? = some (some v) ∧ Rep G.C a (i + 1) [] v d
  prm : ∀ i ∈ G.io, ∀ v, G.vs0[i]? = some v → σ[i]? = some (some v)
def ExcRep (C : KM) (a : Wd) (x : Exc) (cls : Value) (dd : Option Addr) : Prop :=
  C.mg x.cls = some cls ∧ ((x.ns = [] ∧ x.ws = [] ∧ dd = none) ∨ ∃ u vs, dd = some u ∧ a.F u = some (.xd (x.ns.zip vs)) ∧ vs.length = x.ns.length ∧ fzL x.ws = true ∧ RepL C a 0 [] 0 vs x.ws)

section
variable {G : Gm} {W : WX} {σ : L2.St} {a b : Wd} {env : EnvD} {α β : Type}
theorem RelE.grow (r : RelE G a σ env) (g : Grow a b) (k : Ok b) : RelE G b σ env :=
  ⟨k, r.len, fun i d h => let ⟨v, e, q⟩ := r.slot i d h; ⟨v, e, q.grow r.ok g⟩, r.prm⟩
/- behind an expression -/
def PostR (G : Gm) (W : WX) (σ : L2.St) (a : Wd) (r : Res (α × EnvD)) (K : α → EnvD → Wd → Prop) : Prop :=
  match r with
  | .ok (x, e) => ∀ b, Step a b → RelE G b σ e → K x e b
  | .exc x e => ∀ b cls dd, Step a b → RelE G b σ e → ExcRep G.C b x cls dd → W cls dd σ b.H
  | .bad => False
theorem PostR.step {r : Res (α × EnvD)} {K : α → EnvD → Wd → Prop} (st : Step a b) (h : PostR G W σ a r K) : PostR G W σ b r K := by
  cases r with
  | ok x => exact fun c s k => h c (st.trans s) k
  | exc x e => exact fun c cls dd s k => h c cls dd (st.trans s) k
  | bad => exact h
theorem PostR.imp {r : Res (α × EnvD)} {K K' : α → EnvD → Wd → Prop} (h : PostR G W σ a r K) (f : ∀ x e b, Step a b → RelE G b σ e → K x e b → K' x e b) : PostR G W σ a r K' := by
  cases r with
  | ok x => exact fun c s k => f _ _ _ s k (h c s k)
  | exc x e => exact h
  | bad => exact h
theorem PostR.bind {m : Res (α × EnvD)} {k : α × EnvD → Res (β × EnvD)} {K : β → EnvD → Wd → Prop} (h : PostR G W σ a (m.bind k) K) :
    PostR G W σ a m (fun x e b => PostR G W σ b (k (x, e)) K) := by
  cases m with
  | ok x => exact fun c s _ => PostR.step s h
  | exc x e => exact h
  | bad => exact h
end

abbrev EM (α : Type) := EnvD → Res (α × EnvD)
/- an operand: a name's slot, or frozen data -/
inductive Arg where
  | var (i : Nat) | val (d : D)
def Arg.get (e : EnvD) : Arg → Option D
  | .val d => some d
  | .var i => match e[i]? with | some (some d) => some d | _ => none
def ArgRep (C : KM) (a : Wd) (σ : L2.St) (x : Arg) (v : V) : Prop := match x with
  | .val d => fz d = true ∧ Rep C a 0 [] v d
  | .var i => σ[i]? = some (some v)
theorem ArgRep.step {C : KM} {a b : Wd} {σ : L2.St} {x : Arg} {v : V} (k : Ok a) (s : Step a b) (h : ArgRep C a σ x v) : ArgRep C b σ x v := by
  cases x with
  | val d => exact ⟨h.1, h.2.step k s h.1⟩
  | var i => exact h
theorem ArgRep.rep {G : Gm} {a : Wd} {σ : L2.St} {env : EnvD} {x : Arg} {v : V} {d : D} (rel : RelE G a σ env) (h : ArgRep G.C a σ x v) (e : x.get env = some d) : ∃ r, Rep G.C a r [] v d := by
  cases x with
  | val d' => cases e; exact ⟨0, h.2⟩
  | var i =>
    have e : (match env[i]? with | some (some d) => some d | _ => none) = some d := e
    split at e
    · rename_i d' q
      cases e
      obtain ⟨v', h1, h2⟩ := rel.slot i d q
      have h : σ[i]? = some (some v) := h
      rw [h] at h1; cases h1
      exact ⟨_, h2⟩
    · cases e

/-! ### readings -/
section
variable (G : Gm) (W : WX)
def tE (m : EM D) : TE := fun σ H Q => ∃ a env, a.H = H ∧ RelE G a σ env ∧ PostR G W σ a (m env) fun d _ b => ∀ v, Rep G.C b 0 [] v d → Q v b.H
def tArg (m : EM Arg) : TE := fun σ H Q => ∃ a env, a.H = H ∧ RelE G a σ env ∧ PostR G W σ a (m env) fun x _ b => ∀ v, ArgRep G.C b σ x v → Q v b.H
def tArgs (m : EM (List Arg)) : TA := fun σ H Q => ∃ a env, a.H = H ∧ RelE G a σ env ∧ PostR G W σ a (m env) fun xs _ b => ∀ vs, Paired (ArgRep G.C b σ) xs vs → Q vs b.H
def tT (m : EM Bool) : TT := fun σ H Q => ∃ a env, a.H = H ∧ RelE G a σ env ∧ PostR G W σ a (m env) fun x _ b => Q x b.H
end
theorem PE.weak {X : Cx} {e : Expr} {t u : TE} (h : PE X e t) (w : ∀ σ H Q, u σ H Q → t σ H Q) : PE X e u := ⟨fun pins s σ H Q I q => h.run pins s σ H Q I (w σ H Q q)⟩
theorem PT.weak {X : Cx} {e : Expr} {t u : TT} (h : PT X e t) (w : ∀ σ H Q, u σ H Q → t σ H Q) : PT X e u := ⟨fun pins s σ H Q I q => h.run pins s σ H Q I (w σ H Q q)⟩
theorem PW.weak {X : Cx} {e : Expr} {t u : TT} (h : PW X e t) (w : ∀ σ H Q, u σ H Q → t σ H Q) : PW X e u := ⟨fun wh pins s σ H Q I q => h.run wh pins s σ H Q I (w σ H Q q)⟩
theorem PA.weak {X : Cx} {e : List Expr} {t u : TA} (h : PA X e t) (w : ∀ σ H Q, u σ H Q → t σ H Q) : PA X e u := ⟨fun p pins s σ H Q I q => h.run p pins s σ H Q I (w σ H Q q)⟩
theorem PS.weak {X : Cx} {e : Stmt} {t u : TS} (h : PS X e t) (w : ∀ D σ H, u D σ H → t D σ H) : PS X e u := ⟨fun pins s σ H D I q => h.run pins s σ H D I (w D σ H q)⟩
theorem PSs.weak {X : Cx} {e : List Stmt} {t u : TS} (h : PSs X e t) (w : ∀ D σ H, u D σ H → t D σ H) : PSs X e u := ⟨fun pins s σ H D I q => h.run pins s σ H D I (w D σ H q)⟩

section
variable {G : Gm} {W : WX} {σ : L2.St} {a : Wd} {env : EnvD} {β : Type} {K : β → EnvD → Wd → Prop}
theorem tArg_of {m : EM Arg} {k : Arg × EnvD → Res (β × EnvD)} {R : VK} (rel : RelE G a σ env) (h : PostR G W σ a ((m env).bind k) K)
    (hq : ∀ x e b v, Step a b → RelE G b σ e → ArgRep G.C b σ x v → PostR G W σ b (k (x, e)) K → R v b.H) : tArg G W m σ a.H R :=
  ⟨a, env, rfl, rel, h.bind.imp fun x e b s r p v q => hq x e b v s r q p⟩
theorem tE_of {m : EM D} {k : D × EnvD → Res (β × EnvD)} {R : VK} (rel : RelE G a σ env) (h : PostR G W σ a ((m env).bind k) K)
    (hq : ∀ x e b v, Step a b → RelE G b σ e → Rep G.C b 0 [] v x → PostR G W σ b (k (x, e)) K → R v b.H) : tE G W m σ a.H R :=
  ⟨a, env, rfl, rel, h.bind.imp fun x e b s r p v q => hq x e b v s r q p⟩
theorem tArgs_of {m : EM (List Arg)} {k : List Arg × EnvD → Res (β × EnvD)} {R : List V → Hp → Prop} (rel : RelE G a σ env) (h : PostR G W σ a ((m env).bind k) K)
    (hq : ∀ x e b v, Step a b → RelE G b σ e → Paired (ArgRep G.C b σ) x v → PostR G W σ b (k (x, e)) K → R v b.H) : tArgs G W m σ a.H R :=
  ⟨a, env, rfl, rel, h.bind.imp fun x e b s r p v q => hq x e b v s r q p⟩
theorem tT_of {m : EM Bool} {k : Bool × EnvD → Res (β × EnvD)} {R : Bool → Hp → Prop} (rel : RelE G a σ env) (h : PostR G W σ a ((m env).bind k) K)
    (hq : ∀ x e b, Step a b → RelE G b σ e → PostR G W σ b (k (x, e)) K → R x b.H) : tT G W m σ a.H R :=
  ⟨a, env, rfl, rel, h.bind.imp fun x e b s r p => hq x e b s r p⟩
/- what is handed on -/
theorem PostR.get {x : β} {e : EnvD} (h : PostR G W σ a (.ok (x, e)) K) (rel : RelE G a σ e) : K x e a := h a (Step.refl a) rel
end

/-! ### operations on values -/
/- a two-place operation that changes nothing, by data -/
def rD (C : KM) (g : D → D → Option D) : R2 := fun x y H Q => ∃ a d1 d2 r1 r2 d, a.H = H ∧ Ok a ∧ Rep C a r1 [] x d1 ∧ Rep C a r2 [] y d2 ∧ g d1 d2 = some d ∧ ∀ z b, Grow a b → Ok b → Rep C b 0 [] z d → Q z b.H
def uD (C : KM) (g : D → Option D) : V → Hp → VK → Prop := fun x H Q => ∃ a d1 r1 d, a.H = H ∧ Ok a ∧ Rep C a r1 [] x d1 ∧ g d1 = some d ∧ ∀ z b, Grow a b → Ok b → Rep C b 0 [] z d → Q z b.H
/- a call of a builtin on values -/
def cD (C : KM) (g : List D → Option D) : List V → Hp → VK → Prop := fun xs H Q => ∃ a ds d, a.H = H ∧ Ok a ∧ Paired (fun d v => ∃ r, Rep C a r [] v d) ds xs ∧ g ds = some d ∧ ∀ z b, Grow a b → Ok b → Rep C b 0 [] z d → Q z b.H

def mLift (o : Option D) (e : EnvD) : Res (D × EnvD) := match o with
  | some d => .ok (d, e)
  | none => .bad
def mBin (g : D → D → Option D) (ma mb : EM Arg) : EM D := fun env => (ma env).bind fun (x, e1) => (mb e1).bind fun (y, e2) =>
  match x.get e2, y.get e2 with
  | some d1, some d2 => mLift (g d1 d2) e2
  | _, _ => .bad
def mUn (g : D → Option D) (ma : EM Arg) : EM D := fun env => (ma env).bind fun (x, e1) =>
  match x.get e1 with
  | some d1 => mLift (g d1) e1
  | _ => .bad
def Arg.gets (e : EnvD) : List Arg → Option (List D)
  | [] => some []
  | x :: r => match x.get e, Arg.gets e r with
    | some d, some ds => some (d :: ds)
    | _, _ => none
def mCB (g : List D → Option D) (ma : EM (List Arg)) : EM D := fun env => (ma env).bind fun (xs, e1) =>
  match Arg.gets e1 xs with
  | some ds => mLift (g ds) e1
  | _ => .bad
section
variable {G : Gm} {W : WX} {σ : L2.St} {H : Hp} {Q : VK} {ma mb : EM Arg} {g : D → D → Option D}
theorem PostR.lift {a : Wd} {o : Option D} {e : EnvD} {K : D → EnvD → Wd → Prop} (h : PostR G W σ a (mLift o e) K) (rel : RelE G a σ e) : ∃ d, o = some d ∧ ∀ b, Grow a b → Ok b → K d e b := by
  cases o with
  | none => exact (show False from h).elim
  | some d => exact ⟨d, rfl, fun b g k => h b g.step (rel.grow g k)⟩
theorem bin_w (h : tE G W (mBin g ma mb) σ H Q) : tOp (rD G.C g) (tArg G W ma) (tArg G W mb) σ H Q := by
  obtain ⟨a, env, rfl, rel, post⟩ := h
  refine tArg_of rel post fun x e1 b v s1 rel1 ar1 post1 => ?_
  refine tArg_of rel1 post1 fun y e2 c u s2 rel2 ar2 post2 => ?_
  have ar1 := ar1.step rel1.ok s2
  cases hx : x.get e2 with
  | none => simp only [hx] at post2; exact (show False from post2).elim
  | some d1 =>
    cases hy : y.get e2 with
    | none => simp only [hx, hy] at post2; exact (show False from post2).elim
    | some d2 =>
      simp only [hx, hy] at post2
      obtain ⟨d, hd, k⟩ := post2.lift rel2
      obtain ⟨r1, p1⟩ := ar1.rep rel2 hx
      obtain ⟨r2, p2⟩ := ar2.rep rel2 hy
      exact ⟨c, d1, d2, r1, r2, d, rfl, rel2.ok, p1, p2, hd, fun z b' gr ok rp => k b' gr ok z rp⟩
theorem un_w {g : D → Option D} (h : tE G W (mUn g ma) σ H Q) : tUn (uD G.C g) (tArg G W ma) σ H Q := by
  obtain ⟨a, env, rfl, rel, post⟩ := h
  refine tArg_of rel post fun x e1 b v s1 rel1 ar1 post1 => ?_
  cases hx : x.get e1 with
  | none => simp only [hx] at post1; exact (show False from post1).elim
  | some d1 =>
    simp only [hx] at post1
    obtain ⟨d, hd, k⟩ := post1.lift rel1
    obtain ⟨r1, p1⟩ := ar1.rep rel1 hx
    exact ⟨b, d1, r1, d, rfl, rel1.ok, p1, hd, fun z b' gr ok rp => k b' gr ok z rp⟩
theorem gets_rep {a : Wd} {env : EnvD} (rel : RelE G a σ env) : ∀ {xs : List Arg} {vs : List V} {ds : List D}, Paired (ArgRep G.C a σ) xs vs → Arg.gets env xs = some ds → Paired (fun d v => ∃ r, Rep G.C a r [] v d) ds vs
  | _, _, _, .nil, e => by cases e; exact .nil
  | x :: xs, v :: vs, ds, .cons h t, e => by
    simp only [Arg.gets] at e
    cases hx : x.get env with
    | none => simp [hx] at e
    | some d =>
      cases hr : Arg.gets env xs with
      | none => simp [hx, hr] at e
      | some dr =>
        simp [hx, hr] at e
        subst e
        exact .cons (h.rep rel hx) (gets_rep rel t hr)
theorem cb_w {g : List D → Option D} {ma : EM (List Arg)} (h : tE G W (mCB g ma) σ H Q) : tCB (cD G.C g) (tArgs G W ma) σ H Q := by
  obtain ⟨a, env, rfl, rel, post⟩ := h
  refine tArgs_of rel post fun x e1 b v s1 rel1 ar1 post1 => ?_
  cases hx : Arg.gets e1 x with
  | none => simp only [hx] at post1; exact (show False from post1).elim
  | some ds =>
    simp only [hx] at post1
    obtain ⟨d, hd, k⟩ := post1.lift rel1
    exact ⟨b, ds, d, rfl, rel1.ok, gets_rep rel1 ar1 hx, hd, fun z b' gr ok rp => k b' gr ok z rp⟩
end

/-! ### lists of operands -/
def mArgs : List (EM Arg) → EM (List Arg)
  | [] => fun env => .ok ([], env)
  | m :: ms => fun env => (m env).bind fun (x, e1) => (mArgs ms e1).bind fun (xs, e2) => .ok (x :: xs, e2)
section
variable {G : Gm} {W : WX} {σ : L2.St} {H : Hp}
theorem args_nil_w {Q : List V → Hp → Prop} (h : tArgs G W (mArgs []) σ H Q) : tNil σ H Q := by
  obtain ⟨a, env, rfl, rel, post⟩ := h
  exact post a (Step.refl a) rel [] .nil
theorem args_cons_w {Q : List V → Hp → Prop} {m : EM Arg} {ms : List (EM Arg)} (h : tArgs G W (mArgs (m :: ms)) σ H Q) : tCons (tArg G W m) (tArgs G W (mArgs ms)) σ H Q := by
  obtain ⟨a, env, rfl, rel, post⟩ := h
  refine tArg_of rel post fun x e1 b v s1 rel1 ar1 post1 => ?_
  refine tArgs_of rel1 post1 fun xs e2 c vs s2 rel2 ar2 post2 => ?_
  exact post2 c (Step.refl c) rel2 (v :: vs) (.cons (ar1.step rel1.ok s2) ar2)
end
end Mi
namespace Mi
open PySem PySem.Spec PyProof.Rows L2

/-! ### names -/
def mVarA (i : Nat) : EM Arg := fun env => match env[i]? with
  | some (some _) => .ok (.var i, env)
  | _ => .bad
def frzQ (d : D) : D := if fz d = true then d else frz d
def mVarE (i : Nat) : EM D := fun env => match env[i]? with
  | some (some d) => if fz d = true then .ok (d, env) else .ok (frz d, env.set i (some (frz d)))
  | _ => .bad
/- a name handed out for good (not a parameter's) -/
def mVarM (np i : Nat) : EM D := fun env => match env[i]? with
  | some (some d) => if fz d = true then .ok (d, env) else if i < np then .ok (frz d, env.set i (some (frz d))) else .ok (d, env.set i none)
  | _ => .bad
def mFrz (m : EM D) : EM Arg := fun env => (m env).bind fun (d, e) => .ok (.val (frzQ d), e)
theorem frzQ_rep {C : KM} {a : Wd} {r s : Nat} {p q : List Nat} {d : D} {v : V} (k : Ok a) (h : Rep C a r p v d) : fz (frzQ d) = true ∧ Rep C (frzW a r) s q v (frzQ d) := by
  unfold frzQ
  by_cases z : fz d = true
  · rw [if_pos z]; exact ⟨z, h.step k frzW_step z⟩
  · rw [if_neg z]; exact frzW_rep k h
section
variable {G : Gm} {W : WX} {σ : L2.St} {H : Hp} {Q : VK} {a : Wd} {env : EnvD}
theorem RelE.frz0 (r : RelE G a σ env) : RelE G (frzW a 0) σ env :=
  ⟨frzW_ok r.ok, r.len, fun i d h => let ⟨v, e, q⟩ := r.slot i d h; ⟨v, e, frzW_else r.ok (Nat.succ_ne_zero i) q⟩, r.prm⟩
theorem RelE.frzS (r : RelE G a σ env) {i : Nat} {d : D} (h : env[i]? = some (some d)) : RelE G (frzW a (i + 1)) σ (env.set i (some (frz d))) := by
  refine ⟨frzW_ok r.ok, by rw [List.length_set]; exact r.len, fun j e hj => ?_, r.prm⟩
  by_cases ij : i = j
  · subst ij
    have hi : i < env.length := (List.getElem?_eq_some_iff.mp h).1
    rw [List.getElem?_set_self hi] at hj
    cases hj
    obtain ⟨v, e, q⟩ := r.slot i d h
    exact ⟨v, e, (frzW_rep r.ok q).2⟩
  · rw [List.getElem?_set_ne ij] at hj
    obtain ⟨v, e', q⟩ := r.slot j e hj
    exact ⟨v, e', frzW_else r.ok (fun z => ij (Nat.succ.inj z).symm) q⟩
theorem RelE.kill (r : RelE G a σ env) (i : Nat) : RelE G a σ (env.set i none) := by
  refine ⟨r.ok, by rw [List.length_set]; exact r.len, fun j e hj => ?_, r.prm⟩
  by_cases ij : i = j
  · subst ij
    by_cases hi : i < env.length
    · rw [List.getElem?_set_self hi] at hj; cases hj
    · rw [List.getElem?_eq_none (by rw [List.length_set]; omega)] at hj; cases hj
  · rw [List.getElem?_set_ne ij] at hj
    exact r.slot j e hj
theorem varA_w {i : Nat} (h : tArg G W (mVarA i) σ H Q) : tVar i σ H Q := by
  obtain ⟨a, env, rfl, rel, post⟩ := h
  unfold mVarA at post
  split at post
  · rename_i d e
    obtain ⟨v, hv, _⟩ := rel.slot i d e
    exact ⟨v, hv, post a (Step.refl a) rel v hv⟩
  · exact (show False from post).elim
theorem varE_w {i : Nat} (h : tE G W (mVarE i) σ H Q) : tVar i σ H Q := by
  obtain ⟨a, env, rfl, rel, post⟩ := h
  unfold mVarE at post
  split at post
  · rename_i d e
    obtain ⟨v, hv, rp⟩ := rel.slot i d e
    by_cases z : fz d = true
    · rw [if_pos z] at post
      exact ⟨v, hv, post a (Step.refl a) rel v (rp.step rel.ok (Step.refl a) z)⟩
    · rw [if_neg z] at post
      exact ⟨v, hv, post (frzW a (i + 1)) frzW_step (rel.frzS e) v (frzW_rep rel.ok rp).2⟩
  · exact (show False from post).elim
theorem varM_w {np i : Nat} (h : tE G W (mVarM np i) σ H Q) : tVar i σ H Q := by
  obtain ⟨a, env, rfl, rel, post⟩ := h
  unfold mVarM at post
  split at post
  · rename_i d e
    obtain ⟨v, hv, rp⟩ := rel.slot i d e
    by_cases z : fz d = true
    · rw [if_pos z] at post
      exact ⟨v, hv, post a (Step.refl a) rel v (rp.step rel.ok (Step.refl a) z)⟩
    · rw [if_neg z] at post
      by_cases y : i < np
      · rw [if_pos y] at post
        exact ⟨v, hv, post (frzW a (i + 1)) frzW_step (rel.frzS e) v (frzW_rep rel.ok rp).2⟩
      · rw [if_neg y] at post
        have k0 := rel.kill i
        have R : RelE G (mvW a (i + 1) 0) σ (env.set i none) := by
          refine ⟨mvW_ok rel.ok, k0.len, fun j e' hj => ?_, k0.prm⟩
          obtain ⟨v', e2, q⟩ := k0.slot j e' hj
          refine ⟨v', e2, mvW_else (fun ij => ?_) q⟩
          have ij : j = i := Nat.succ.inj ij
          subst ij
          have hi : j < env.length := (List.getElem?_eq_some_iff.mp e).1
          rw [List.getElem?_set_self hi] at hj
          cases hj
        exact ⟨v, hv, post (mvW a (i + 1) 0) mvW_step R v (mvW_rep rp)⟩
  · exact (show False from post).elim
theorem frz_w {m : EM D} (h : tArg G W (mFrz m) σ H Q) : tE G W m σ H Q := by
  obtain ⟨a, env, rfl, rel, post⟩ := h
  refine tE_of rel post fun d e b v s r rp p => ?_
  have k := p (frzW b 0) frzW_step r.frz0 v (frzQ_rep r.ok rp)
  exact k

/-! ### constants -/
def mC (d : D) : EM D := fun env => .ok (d, env)
def atomV : D → Option V
  | .non => some .non
  | .bl b => some (.bl b)
  | .int i => some (.int i)
  | .str s => some (.str s)
  | .ty n => some (.ty n)
  | _ => none
theorem atom_rep {C : KM} {a : Wd} {r : Nat} {p : List Nat} {d : D} {v : V} (h : atomV d = some v) : Rep C a r p v d := by
  cases d <;> simp [atomV] at h <;> subst h <;> simp [Rep]
theorem c_w {d : D} {v : V} (hv : ∀ a, Ok a → Rep G.C a 0 [] v d) (h : tE G W (mC d) σ H Q) : tC v σ H Q := by
  obtain ⟨a, env, rfl, rel, post⟩ := h
  exact post a (Step.refl a) rel v (hv a rel.ok)

/-! ### tests -/
def D.bool : D → Option Bool
  | .bl b => some b
  | _ => none
def mLiftT (o : Option Bool) (e : EnvD) : Res (Bool × EnvD) := match o with
  | some d => .ok (d, e)
  | none => .bad
/- a value that is a flag -/
def mTB (m : EM D) : EM Bool := fun env => (m env).bind fun (d, e) => mLiftT d.bool e
theorem rep_bl {C : KM} {a : Wd} {r : Nat} {p : List Nat} {v : V} {b : Bool} (h : Rep C a r p v (.bl b)) : v = .bl b := h
theorem rep_int {C : KM} {a : Wd} {r : Nat} {p : List Nat} {v : V} {b : Int} (h : Rep C a r p v (.int b)) : v = .int b := h
theorem rep_str {C : KM} {a : Wd} {r : Nat} {p : List Nat} {v : V} {b : Str} (h : Rep C a r p v (.str b)) : v = .str b := h
theorem rep_non {C : KM} {a : Wd} {r : Nat} {p : List Nat} {v : V} (h : Rep C a r p v .non) : v = .non := h
theorem D.bool_eq {d : D} {b : Bool} (h : d.bool = some b) : d = .bl b := by
  cases d <;> simp [D.bool] at h
  rw [h]
theorem tb_w {m : EM D} {R : Bool → Hp → Prop} (h : tT G W (mTB m) σ H R) : tTest (tE G W m) σ H R := by
  obtain ⟨a, env, rfl, rel, post⟩ := h
  refine tE_of rel post fun d e b v s r rp p => ?_
  cases hb : d.bool with
  | none => simp only [hb] at p; exact (show False from p).elim
  | some c =>
    simp only [hb] at p
    have e1 := D.bool_eq hb
    subst e1
    exact ⟨c, rep_bl rp, p b (Step.refl b) r⟩
def mAndT (m n : EM Bool) : EM Bool := fun env => (m env).bind fun (c, e) => if c = true then n e else .ok (false, e)
def mOrT (m n : EM Bool) : EM Bool := fun env => (m env).bind fun (c, e) => if c = true then .ok (true, e) else n e
def mNotT (m : EM Bool) : EM Bool := fun env => (m env).bind fun (c, e) => .ok (!c, e)
section
variable {m n : EM Bool} {R : Bool → Hp → Prop}
theorem and_w (h : tT G W (mAndT m n) σ H R) : tAnd (tT G W m) (tT G W n) σ H R := by
  obtain ⟨a, env, rfl, rel, post⟩ := h
  refine tT_of rel post fun c e b s r p => ?_
  cases c with
  | true => simp only [if_true] at p ⊢; exact ⟨b, e, rfl, r, p⟩
  | false => simp only [if_false, Bool.false_eq_true] at p ⊢; exact p b (Step.refl b) r
theorem or_w (h : tT G W (mOrT m n) σ H R) : tOr (tT G W m) (tT G W n) σ H R := by
  obtain ⟨a, env, rfl, rel, post⟩ := h
  refine tT_of rel post fun c e b s r p => ?_
  cases c with
  | true => simp only [if_true] at p ⊢; exact p b (Step.refl b) r
  | false => simp only [if_false, Bool.false_eq_true] at p ⊢; exact ⟨b, e, rfl, r, p⟩
theorem not_w (h : tT G W (mNotT m) σ H R) : tNot (tT G W m) σ H R := by
  obtain ⟨a, env, rfl, rel, post⟩ := h
  exact tT_of rel post fun c e b s r p => p b (Step.refl b) r
end
/- and, or, not as values: flags -/
def mAndV (m n : EM D) : EM D := fun env => (m env).bind fun (c, e) => match c.bool with
  | some true => n e
  | some false => .ok (.bl false, e)
  | none => .bad
def mOrV (m n : EM D) : EM D := fun env => (m env).bind fun (c, e) => match c.bool with
  | some true => .ok (.bl true, e)
  | some false => n e
  | none => .bad
def mNotV (m : EM D) : EM D := fun env => (m env).bind fun (c, e) => match c.bool with
  | some b => .ok (.bl (!b), e)
  | none => .bad
theorem rep_ofbl {C : KM} {a : Wd} {r : Nat} {p : List Nat} {b : Bool} : Rep C a r p (.bl b) (.bl b) := by simp [Rep]
theorem andV_w {m n : EM D} (h : tE G W (mAndV m n) σ H Q) : tAndV (tE G W m) (tE G W n) σ H Q := by
  obtain ⟨a, env, rfl, rel, post⟩ := h
  refine tE_of rel post fun d e b v s r rp p => ?_
  cases hb : d.bool with
  | none => simp only [hb] at p; exact (show False from p).elim
  | some c =>
    simp only [hb] at p
    have e1 := D.bool_eq hb
    subst e1
    refine ⟨c, rep_bl rp, ?_⟩
    cases c with
    | true => simp only [if_true] at p ⊢; exact ⟨b, e, rfl, r, p⟩
    | false => simp only [if_false, Bool.false_eq_true] at p ⊢; exact p b (Step.refl b) r _ rep_ofbl
theorem orV_w {m n : EM D} (h : tE G W (mOrV m n) σ H Q) : tOrV (tE G W m) (tE G W n) σ H Q := by
  obtain ⟨a, env, rfl, rel, post⟩ := h
  refine tE_of rel post fun d e b v s r rp p => ?_
  cases hb : d.bool with
  | none => simp only [hb] at p; exact (show False from p).elim
  | some c =>
    simp only [hb] at p
    have e1 := D.bool_eq hb
    subst e1
    refine ⟨c, rep_bl rp, ?_⟩
    cases c with
    | true => simp only [if_true] at p ⊢; exact p b (Step.refl b) r _ rep_ofbl
    | false => simp only [if_false, Bool.false_eq_true] at p ⊢; exact ⟨b, e, rfl, r, p⟩
theorem notV_w {m : EM D} (h : tE G W (mNotV m) σ H Q) : tNotV (tE G W m) σ H Q := by
  obtain ⟨a, env, rfl, rel, post⟩ := h
  refine tE_of rel post fun d e b v s r rp p => ?_
  cases hb : d.bool with
  | none => simp only [hb] at p; exact (show False from p).elim
  | some c =>
    simp only [hb] at p
    have e1 := D.bool_eq hb
    subst e1
    exact ⟨c, rep_bl rp, p b (Step.refl b) r _ rep_ofbl⟩
def mIfE (t : EM Bool) (m n : EM D) : EM D := fun env => (t env).bind fun (c, e) => if c = true then m e else n e
theorem ifE_w {t : EM Bool} {m n : EM D} (h : tE G W (mIfE t m n) σ H Q) : tIf (tT G W t) (tE G W m) (tE G W n) σ H Q := by
  obtain ⟨a, env, rfl, rel, post⟩ := h
  refine tT_of rel post fun c e b s r p => ?_
  cases c with
  | true => simp only [if_true] at p ⊢; exact ⟨b, e, rfl, r, p⟩
  | false => simp only [if_false, Bool.false_eq_true] at p ⊢; exact ⟨b, e, rfl, r, p⟩
end

/-! ### truth -/
def truD : D → Option Bool
  | .non => some false
  | .bl b => some b
  | .int i => some (i != 0)
  | .str s => if s.length ≤ sizeLine then some ((s.length : Int) != 0) else none
  | .tup l => some (!l.isEmpty)
  | .lst _ l => some (!l.isEmpty)
  | .dic _ ks _ => some (!ks.isEmpty)
  | _ => none
def mTru (m : EM Arg) : EM Bool := fun env => (m env).bind fun (x, e) => match x.get e with
  | some d => mLiftT (truD d) e
  | none => .bad
theorem RepL.empty {C : KM} {a : Wd} {r : Nat} {p : List Nat} {n : Nat} {vs : List V} {l : List D} (h : RepL C a r p n vs l) : vs.isEmpty = l.isEmpty := by
  cases l with
  | nil => simp only [RepL] at h; rw [h]; rfl
  | cons d l => simp only [RepL] at h; obtain ⟨v, us, e, _⟩ := h; rw [e]; rfl
theorem RepL.len {C : KM} {a : Wd} {r : Nat} {p : List Nat} : ∀ {l : List D} {n : Nat} {vs : List V}, RepL C a r p n vs l → vs.length = l.length
  | [], n, vs, h => by simp only [RepL] at h; rw [h]; rfl
  | d :: l, n, vs, h => by
    simp only [RepL] at h
    obtain ⟨v, us, e, _, h2⟩ := h
    rw [e, List.length_cons, List.length_cons, RepL.len h2]
theorem RepL.get {C : KM} {a : Wd} {r : Nat} {p : List Nat} : ∀ {l : List D} {n : Nat} {vs : List V} {i : Nat} {d : D}, RepL C a r p n vs l → l[i]? = some d → ∃ v, vs[i]? = some v ∧ Rep C a r ((n + i) :: p) v d
  | [], n, vs, i, d, h, e => by simp at e
  | d' :: l, n, vs, 0, d, h, e => by
    simp only [RepL] at h
    obtain ⟨v, us, e1, h1, h2⟩ := h
    simp at e; subst e
    exact ⟨v, by rw [e1]; rfl, h1⟩
  | d' :: l, n, vs, i + 1, d, h, e => by
    simp only [RepL] at h
    obtain ⟨v, us, e1, h1, h2⟩ := h
    simp at e
    obtain ⟨u, g1, g2⟩ := RepL.get h2 e
    refine ⟨u, by rw [e1]; simpa using g1, ?_⟩
    rw [show n + (i + 1) = n + 1 + i by omega]
    exact g2
/- the object of an owned or a frozen list, read -/
theorem rep_lst {C : KM} {a : Wd} {r : Nat} {p : List Nat} {v : V} {o : Bool} {l : List D} (k : Ok a) (h : Rep C a r p v (.lst o l)) : ∃ x vs, v = .ref x ∧ a.H x = some (.lst vs) ∧ RepL C a r p 0 vs l := by
  simp only [Rep] at h
  obtain ⟨x, vs, e, c, h⟩ := h
  refine ⟨x, vs, e, ?_, h⟩
  cases o with
  | true => rw [if_pos rfl] at c; exact c.2
  | false => rw [if_neg Bool.false_ne_true] at c; exact k.sub _ _ c.1
theorem rep_scr {C : KM} {a : Wd} {r : Nat} {p : List Nat} {v : V} {l : List Int} (k : Ok a) (h : Rep C a r p v (.scr l)) : ∃ x, v = .ref x ∧ SqL C.K a.H x (l.map V.int) := by
  simp only [Rep] at h
  obtain ⟨x, e, h⟩ := h
  exact ⟨x, e, sql_mono k.sub h⟩
theorem rep_tup {C : KM} {a : Wd} {r : Nat} {p : List Nat} {v : V} {l : List D} (k : Ok a) (h : Rep C a r p v (.tup l)) : ∃ x vs, v = .ref x ∧ SqT C.K a.H x vs ∧ RepL C a r p 0 vs l := by
  simp only [Rep] at h
  obtain ⟨x, vs, e, c, h⟩ := h
  exact ⟨x, vs, e, sqt_mono k.sub c.sq, h⟩
theorem rep_dic {C : KM} {a : Wd} {r : Nat} {p : List Nat} {v : V} {o : Bool} {ks ws : List D} (k : Ok a) (h : Rep C a r p v (.dic o ks ws)) :
    ∃ x u kv vs, v = .ref x ∧ a.H x = some u ∧ DCell u kv vs ∧ fzL ks = true ∧ RepL C a r p 0 kv ks ∧ RepL C a r p 0 vs ws := by
  simp only [Rep] at h
  obtain ⟨x, u, kv, vs, e, c, dc, f, k1, k2⟩ := h
  refine ⟨x, u, kv, vs, e, ?_, dc, f, k1, k2⟩
  cases o with
  | true => rw [if_pos rfl] at c; exact c.2
  | false => rw [if_neg Bool.false_ne_true] at c; exact k.sub _ _ c.1
theorem tru_rep {C : KM} {a : Wd} {r : Nat} {p : List Nat} {v : V} {d : D} {b : Bool} (k : Ok a) (h : Rep C a r p v d) (e : truD d = some b) : TruV C.K v a.H b := by
  cases d with
  | non => cases rep_non h; cases e; rfl
  | bl x => cases rep_bl h; cases e; rfl
  | int i => cases rep_int h; simp [truD] at e; subst e; rfl
  | str s =>
    cases rep_str h
    simp only [truD] at e
    split at e
    · rename_i z; cases e; exact ⟨z, rfl⟩
    · cases e
  | tup l =>
    obtain ⟨x, vs, rfl, q, hl⟩ := rep_tup k h
    simp only [truD, Option.some.injEq] at e; subst e
    exact .inr (.inl ⟨vs, q, by rw [hl.empty]⟩)
  | lst o l =>
    obtain ⟨x, vs, rfl, q, hl⟩ := rep_lst k h
    simp only [truD, Option.some.injEq] at e; subst e
    exact .inl ⟨vs, SqL.of q, by rw [hl.empty]⟩
  | dic o ks ws =>
    obtain ⟨x, u, kv, vs, rfl, q, dc, f, hk, hw⟩ := rep_dic k h
    simp only [truD, Option.some.injEq] at e; subst e
    cases dc with
    | dk kvs =>
      refine .inr (.inr ⟨kvs, q, ?_⟩)
      rw [← hk.empty]; cases kvs <;> rfl
  | _ => simp [truD] at e
theorem tru_w {G : Gm} {W : WX} {σ : L2.St} {H : Hp} {m : EM Arg} {R : Bool → Hp → Prop} (h : tT G W (mTru m) σ H R) : (tArg G W m) σ H fun x H' => ∃ k, TruV G.C.K x H' k ∧ R k H' := by
  obtain ⟨a, env, rfl, rel, post⟩ := h
  refine tArg_of rel post fun x e b v s r ar p => ?_
  cases hx : x.get e with
  | none => simp only [hx] at p; exact (show False from p).elim
  | some d =>
    simp only [hx] at p
    cases ht : truD d with
    | none => simp only [ht] at p; exact (show False from p).elim
    | some c =>
      simp only [ht] at p
      obtain ⟨r', rp⟩ := ar.rep r hx
      exact ⟨c, tru_rep r.ok rp ht, p b (Step.refl b) r⟩
end Mi
namespace Mi
open PySem PySem.Spec PyProof.Rows L2

/-! ### new things -/
section
variable {C : KM} {a : Wd} {Q : VK}
theorem new_lst {r : Nat} {p : List Nat} {n : Nat} {vs : List V} {l : List D} (k : Ok a) (z : fzL l = true) (h : RepL C a r p n vs l) (q : ∀ z b, Grow a b → Ok b → Rep C b 0 [] z (.lst true l) → Q z b.H) :
    ∀ x, a.H x = none → Q (.ref x) (upd a.H x (.lst vs)) := fun x hx => by
  obtain ⟨g, o⟩ := grow_o (o := .lst vs) (0, []) k hx
  refine q (.ref x) _ g o ⟨x, vs, rfl, ?_, RepL.fz (fun y u e => g.f k e) l p [] n vs z h⟩
  rw [if_pos rfl]
  exact ⟨if_pos rfl, upd_same⟩
theorem new_tup {r : Nat} {p : List Nat} {n : Nat} {vs : List V} {l : List D} (k : Ok a) (z : fzL l = true) (h : RepL C a r p n vs l) (q : ∀ z b, Grow a b → Ok b → Rep C b 0 [] z (.tup l) → Q z b.H) :
    ∀ (x : Addr) (ob : Obj), a.H x = none → ob.dict = none → ob.cls = .type "tuple" → Q (.ref x) (upd a.H x (.frz ob (.tup vs))) := fun x ob hx h1 h2 => by
  obtain ⟨g, o⟩ := grow_f (o := .frz ob (.tup vs)) k hx
  exact q (.ref x) _ g o ⟨x, vs, rfl, .inl ⟨ob, upd_same, h1, h2⟩, RepL.fz (fun y u e => g.f k e) l p [] n vs z h⟩
theorem new_dic {r : Nat} {p : List Nat} {kvs : List (Key × V)} {ks ws : List D} (k : Ok a) (zk : fzL ks = true) (zw : fzL ws = true) (hk : RepL C a r p 0 (kvs.map fun p => kV p.1) ks) (hw : RepL C a r p 0 (kvs.map (·.2)) ws)
    (q : ∀ z b, Grow a b → Ok b → Rep C b 0 [] z (.dic true ks ws) → Q z b.H) : ∀ x, a.H x = none → Q (.ref x) (upd a.H x (.dK kvs)) := fun x hx => by
  obtain ⟨g, o⟩ := grow_o (o := .dK kvs) (0, []) k hx
  refine q (.ref x) _ g o ⟨x, .dK kvs, _, _, rfl, ?_, .dk kvs, zk, RepL.fz (fun y u e => g.f k e) ks p [] 0 _ zk hk, RepL.fz (fun y u e => g.f k e) ws p [] 0 _ zw hw⟩
  rw [if_pos rfl]
  exact ⟨if_pos rfl, upd_same⟩
end
theorem RepL.app {C : KM} {a : Wd} {r : Nat} {p : List Nat} : ∀ {l m : List D} {n : Nat} {vs us : List V}, RepL C a r p n vs l → RepL C a r p (n + l.length) us m → RepL C a r p n (vs ++ us) (l ++ m)
  | [], m, n, vs, us, h, g => by simp only [RepL] at h; subst h; exact g
  | d :: l, m, n, vs, us, h, g => by
    simp only [RepL] at h
    obtain ⟨v, vr, rfl, h1, h2⟩ := h
    exact ⟨v, vr ++ us, rfl, h1, RepL.app h2 (by rw [show n + 1 + l.length = n + (d :: l).length by simp only [List.length_cons]; omega]; exact g)⟩
theorem fzL_append {l m : List D} : fzL (l ++ m) = (fzL l && fzL m) := by
  induction l with
  | nil => rfl
  | cons d l ih => simp only [List.cons_append, fzL, ih, Bool.and_assoc]
theorem fzL_mem {l : List D} (h : fzL l = true) : ∀ d ∈ l, fz d = true := by
  induction l with
  | nil => intro d hd; cases hd
  | cons x l ih =>
    simp only [fzL, Bool.and_eq_true] at h
    intro d hd
    rcases List.mem_cons.mp hd with rfl | hd
    · exact h.1
    · exact ih h.2 d hd
theorem fzL_all {l : List D} (h : ∀ d ∈ l, fz d = true) : fzL l = true := by
  induction l with
  | nil => rfl
  | cons x l ih =>
    simp only [fzL, Bool.and_eq_true]
    exact ⟨h x List.mem_cons_self, ih fun d hd => h d (List.mem_cons_of_mem _ hd)⟩
/- frozen lists, by any tags -/
theorem RepL.appz {C : KM} {a : Wd} {r s : Nat} {p q : List Nat} {l m : List D} {n k : Nat} {vs us : List V} (zl : fzL l = true) (zm : fzL m = true) (h : RepL C a r p n vs l) (g : RepL C a s q k us m) : RepL C a 0 [] 0 (vs ++ us) (l ++ m) :=
  RepL.app (RepL.fz (s := 0) (fun _ _ e => e) l p [] n vs zl h) (RepL.fz (s := 0) (fun _ _ e => e) m q [] k us zm g)

/-! ### tuples laid -/
abbrev TupNew (Q : VK) (H : Hp) (xs : List V) : Prop := ∀ (p : Addr) (ob : Obj), H p = none → ob.dict = none → ob.cls = .type "tuple" → Q (.ref p) (upd H p (.frz ob (.tup xs)))
section
variable {X : Cx} {pins : List (Addr × Obj)} {σ : L2.St} {H : Hp} {s : Shared} {Q : VK} {xs : List V} {its : List Value}
theorem lay_tup (I : Inv X pins σ H s) (r : Vals xs its) (hz : xs.length ≤ sizeLine) (q : TupNew Q H xs) :
    EP X pins σ Q (.ref s.heap.objs.size) { s with heap := s.heap.push { cls := .type "tuple", data := .seq its.toArray } } :=
  ⟨.ref s.heap.objs.size, _, I.laid (t' := s.toks) (o := .frz { cls := .type "tuple", data := .seq its.toArray } (.tup xs)) (fun b ob q => Heap.get?_push_of_some _ q) (Nat.le_refl _)
    ⟨Heap.get?_push_size _ rfl, hz, its, r, IsTup.new _ _⟩, rfl, q _ _ (I.hok.fresh (Nat.le_refl _)) rfl rfl⟩
end
def tTupX (t : TA) : TE := fun σ H Q => t σ H fun xs H1 => xs.length ≤ sizeLine ∧ TupNew Q H1 xs
theorem pe_tupX {X : Cx} {es : List Expr} {t : TA} {k : Nat} {pos : Pos} (h : PA X es t) : PE X (.Tuple es k pos) (tTupX t) := by
  refine ⟨fun pins s σ H Q I hq => wpAny_Tuple_spliced (thn (h.run pos pins s σ H _ I hq) fun us s1 ⟨xs, H1, I1, r, z, q⟩ => ⟨by rw [← r.length]; exact z, ?_⟩)⟩
  exact lay_tup I1 r z q
def rCatX (K : PySem.W.Frag) : R2 := fun x y H Q => ∃ a b xs ys, x = .ref a ∧ y = .ref b ∧ SqT K H a xs ∧ SqT K H b ys ∧ xs.length + ys.length ≤ sizeLine ∧
  (xs = [] → Q (.ref b) H) ∧ (xs ≠ [] → ys = [] → Q (.ref a) H) ∧ (xs ≠ [] → ys ≠ [] → TupNew Q H (xs ++ ys))
theorem op_catX {X : Cx} : OpR X (binaryOp .Add) (rCatX X.K) := by
  intro pins s σ H x y v u Q I rx ry h
  obtain ⟨a, b, xs, ys, rfl, rfl, ha, hb, hz, q0, q1, q2⟩ := h
  by_cases hx : xs = []
  · exact op_catA pins s σ H _ _ v u Q I rx ry ⟨a, b, xs, ys, rfl, rfl, ha, hb, hz, q0, fun z => absurd hx z, fun z => absurd hx z⟩
  by_cases hy : ys = []
  · exact op_catA pins s σ H _ _ v u Q I rx ry ⟨a, b, xs, ys, rfl, rfl, ha, hb, hz, q0, q1, fun _ z => absurd hy z⟩
  cases rx; cases ry
  obtain ⟨its, r1, p1, _⟩ := I.tuple ha
  obtain ⟨its2, r2, p2, _⟩ := I.tuple hb
  refine HT.cat_tup p1 p2 (fun z => hx (r1.nil_iff.mp z)) (fun z => absurd (r2.nil_iff.mp z) hy) (fun z => ?_) (by rw [← r1.length, ← r2.length]; exact hz)
  exact lay_tup I (r1.append r2) (by rw [List.length_append]; exact hz) (q2 hx hy)

/-! ### arithmetic -/
def addD : D → D → Option D
  | .int i, .int j => some (.int (i + j))
  | .str s, .str t => if s.length + t.length ≤ sizeLine then some (.str (s ++ t)) else none
  | .lst _ l, .lst _ m => if fzL l && fzL m && decide (l.length + m.length ≤ sizeLine) then some (.lst true (l ++ m)) else none
  | .tup l, .tup m => if fzL l && fzL m && decide (l.length + m.length ≤ sizeLine) then some (.tup (l ++ m)) else none
  | _, _ => none
def subD : D → D → Option D
  | .int i, .int j => some (.int (i - j))
  | _, _ => none
def mulD : D → D → Option D
  | .int i, .int j => if i.natAbs.log2 + j.natAbs.log2 < 1000000 then some (.int (i * j)) else if j.natAbs < 18446744073709551616 then some (.int (i * j)) else if i.natAbs < 18446744073709551616 then some (.int (i * j)) else none
  | _, _ => none
def fdivD : D → D → Option D
  | .int i, .int j => if 0 < j ∧ j.natAbs.log2 < 9000 then some (.int (i / j)) else none
  | _, _ => none
def modD : D → D → Option D
  | .int i, .int j => if 0 < j then some (.int (i % j)) else if j ≠ 0 then some (.int (i.fmod j)) else none
  | _, _ => none
def powD : D → D → Option D
  | .int i, .int j => if 0 ≤ j ∧ j ≤ 1000000 ∧ i.natAbs < 2 ^ 64 then some (.int (i ^ j.toNat)) else none
  | _, _ => none
def negD : D → Option D
  | .int i => some (.int (-i))
  | _ => none
theorem nab {x : Int} (h : x.natAbs < 18446744073709551616) : -(2 ^ 64) < x ∧ x < 2 ^ 64 := by
  have e : (2 : Int) ^ 64 = 18446744073709551616 := by decide
  rw [e]; omega
section
variable {X : Cx} {C : KM} (hC : C.K = X.K)
include hC
theorem op_addD : OpR X (binaryOp .Add) (rD C addD) := by
  intro pins s σ H x y v u Q I rx ry h
  obtain ⟨a, d1, d2, r1, r2, d, rfl, k, p1, p2, hd, q⟩ := h
  cases d1 <;> cases d2 <;> simp only [addD] at hd <;> try (cases hd; done)
  case int.int i j =>
    cases hd; cases rep_int p1; cases rep_int p2
    exact op_add pins s σ a.H _ _ v u Q I rx ry ⟨i, j, rfl, rfl, q _ a (Grow.refl a) k (by simp [Rep])⟩
  case str.str i j =>
    split at hd
    · rename_i z; cases hd; cases rep_str p1; cases rep_str p2
      exact op_add_str pins s σ a.H _ _ v u Q I rx ry ⟨i, j, rfl, rfl, z, q _ a (Grow.refl a) k (by simp [Rep])⟩
    · cases hd
  case tup.tup l m =>
    split at hd
    · rename_i z; cases hd
      simp only [Bool.and_eq_true, decide_eq_true_eq] at z
      obtain ⟨x1, vs, rfl, q1, h1⟩ := rep_tup k p1
      obtain ⟨x2, us, rfl, q2, h2⟩ := rep_tup k p2
      rw [hC] at q1 q2
      have n1 := h1.len
      have n2 := h2.len
      refine op_catX pins s σ a.H _ _ v u Q I rx ry ⟨x1, x2, vs, us, rfl, rfl, q1, q2, by omega, fun e => ?_, fun e1 e2 => ?_, fun _ _ => new_tup k (by rw [fzL_append, z.1.1, z.1.2]; rfl) (RepL.appz z.1.1 z.1.2 h1 h2) q⟩
      · have el : l = [] := by cases l with | nil => rfl | cons _ _ => rw [e] at n1; simp at n1
        subst el
        exact q _ a (Grow.refl a) k (p2.step k (Step.refl a) (by simpa [fz] using z.1.2))
      · have el : m = [] := by cases m with | nil => rfl | cons _ _ => rw [e2] at n2; simp at n2
        subst el
        rw [List.append_nil] at q
        exact q _ a (Grow.refl a) k (p1.step k (Step.refl a) (by simpa [fz] using z.1.1))
    · cases hd
  case lst.lst o l o' m =>
    split at hd
    · rename_i z; cases hd
      simp only [Bool.and_eq_true, decide_eq_true_eq] at z
      obtain ⟨x1, vs, rfl, q1, h1⟩ := rep_lst k p1
      obtain ⟨x2, us, rfl, q2, h2⟩ := rep_lst k p2
      have n1 := h1.len
      have n2 := h2.len
      exact op_cat pins s σ a.H _ _ v u Q I rx ry ⟨x1, x2, vs, us, rfl, rfl, q1, q2, by omega, new_lst k (by rw [fzL_append, z.1.1, z.1.2]; rfl) (RepL.appz z.1.1 z.1.2 h1 h2) q⟩
    · cases hd
omit hC in
theorem op_subD : OpR X (binaryOp .Sub) (rD C subD) := by
  intro pins s σ H x y v u Q I rx ry h
  obtain ⟨a, d1, d2, r1, r2, d, rfl, k, p1, p2, hd, q⟩ := h
  cases d1 <;> cases d2 <;> simp only [subD] at hd <;> try (cases hd; done)
  case int.int i j =>
    cases hd; cases rep_int p1; cases rep_int p2
    exact op_sub pins s σ a.H _ _ v u Q I rx ry ⟨i, j, rfl, rfl, q _ a (Grow.refl a) k (by simp [Rep])⟩
omit hC in
theorem op_mulD : OpR X (binaryOp .Mult) (rD C mulD) := by
  intro pins s σ H x y v u Q I rx ry h
  obtain ⟨a, d1, d2, r1, r2, d, rfl, k, p1, p2, hd, q⟩ := h
  cases d1 <;> cases d2 <;> simp only [mulD] at hd <;> try (cases hd; done)
  case int.int i j =>
    cases rep_int p1; cases rep_int p2
    split at hd
    · rename_i z
      cases hd
      exact op_mulW pins s σ a.H _ _ v u Q I rx ry ⟨i, j, rfl, rfl, z, q _ a (Grow.refl a) k (by simp [Rep])⟩
    · split at hd
      · rename_i z; cases hd
        exact op_mul pins s σ a.H _ _ v u Q I rx ry ⟨i, j, rfl, rfl, .inr (nab z), q _ a (Grow.refl a) k (by simp [Rep])⟩
      · split at hd
        · rename_i z; cases hd
          exact op_mul pins s σ a.H _ _ v u Q I rx ry ⟨i, j, rfl, rfl, .inl (nab z), q _ a (Grow.refl a) k (by simp [Rep])⟩
        · cases hd
omit hC in
theorem op_fdivD : OpR X (binaryOp .FloorDiv) (rD C fdivD) := by
  intro pins s σ H x y v u Q I rx ry h
  obtain ⟨a, d1, d2, r1, r2, d, rfl, k, p1, p2, hd, q⟩ := h
  cases d1 <;> cases d2 <;> simp only [fdivD] at hd <;> try (cases hd; done)
  case int.int i j =>
    split at hd
    · rename_i z; cases hd; cases rep_int p1; cases rep_int p2
      exact op_fdivW pins s σ a.H _ _ v u Q I rx ry ⟨i, j, rfl, rfl, z, q _ a (Grow.refl a) k (by simp [Rep])⟩
    · cases hd
omit hC in
theorem op_modD : OpR X (binaryOp .Mod) (rD C modD) := by
  intro pins s σ H x y v u Q I rx ry h
  obtain ⟨a, d1, d2, r1, r2, d, rfl, k, p1, p2, hd, q⟩ := h
  cases d1 <;> cases d2 <;> simp only [modD] at hd <;> try (cases hd; done)
  case int.int i j =>
    cases rep_int p1; cases rep_int p2
    split at hd
    · rename_i z; cases hd
      exact op_mod pins s σ a.H _ _ v u Q I rx ry ⟨i, j, rfl, rfl, z, q _ a (Grow.refl a) k (by simp [Rep])⟩
    · split at hd
      · rename_i z; cases hd
        exact op_modN pins s σ a.H _ _ v u Q I rx ry ⟨i, j, rfl, rfl, z, q _ a (Grow.refl a) k (by simp [Rep])⟩
      · cases hd
omit hC in
theorem op_powD : OpR X (binaryOp .Pow) (rD C powD) := by
  intro pins s σ H x y v u Q I rx ry h
  obtain ⟨a, d1, d2, r1, r2, d, rfl, k, p1, p2, hd, q⟩ := h
  cases d1 <;> cases d2 <;> simp only [powD] at hd <;> try (cases hd; done)
  case int.int i j =>
    split at hd
    · rename_i z; cases hd; cases rep_int p1; cases rep_int p2
      exact op_pow pins s σ a.H _ _ v u Q I rx ry ⟨i, j, rfl, rfl, z, q _ a (Grow.refl a) k (by simp [Rep])⟩
    · cases hd
omit hC in
theorem un_negD : UnR X (unaryOp .USub) (uD C negD) := by
  intro pins s σ H x v Q I rx h
  obtain ⟨a, d1, r1, d, rfl, k, p1, hd, q⟩ := h
  cases d1 <;> simp only [negD] at hd <;> try (cases hd; done)
  case int i =>
    cases hd; cases rep_int p1
    exact un_neg pins s σ a.H _ v Q I rx ⟨i, rfl, q _ a (Grow.refl a) k (by simp [Rep])⟩
end
def binD : Operator → Option (D → D → Option D)
  | .Add => some addD
  | .Sub => some subD
  | .Mult => some mulD
  | .FloorDiv => some fdivD
  | .Mod => some modD
  | .Pow => some powD
  | _ => none
theorem op_binD {X : Cx} {C : KM} (hC : C.K = X.K) {op : Operator} {g : D → D → Option D} (h : binD op = some g) : OpR X (binaryOp op) (rD C g) := by
  cases op <;> simp only [binD] at h <;> cases h
  · exact op_addD hC
  · exact op_subD
  · exact op_mulD
  · exact op_modD
  · exact op_powD
  · exact op_fdivD

/-! ### == -/
mutual
def okP : Nat → D → Bool
  | _, .non | _, .bl _ | _, .int _ => true
  | _, .str s => PyData.strOk s
  | 0, .tup _ | 0, .lst _ _ => false
  | n + 1, .tup l => okPL n l
  | n + 1, .lst _ l => okPL n l
  | _, _ => false
def okPL : Nat → List D → Bool
  | _, [] => true
  | n, d :: l => okP n d && okPL n l
end
mutual
def toP : D → PyData
  | .bl b => .bool b
  | .int i => .int i
  | .str s => .str s
  | .tup l => .tuple (toPL l)
  | .lst _ l => .list (toPL l)
  | _ => .none
def toPL : List D → List PyData
  | [] => []
  | d :: l => toP d :: toPL l
end
mutual
theorem okP_shape : ∀ (d : D) (n : Nat), okP n d = true → (toP d).canLay0 = true ∧ (toP d).depth ≤ n
  | .non, n, h => by simp [toP, PyData.canLay0, PyData.depth]
  | .bl _, n, h => by simp [toP, PyData.canLay0, PyData.depth]
  | .int _, n, h => by simp [toP, PyData.canLay0, PyData.depth]
  | .str s, n, h => by
    have h : PyData.strOk s = true := by cases n <;> simpa [okP] using h
    simp [toP, PyData.canLay0, PyData.depth, h]
  | .tup l, 0, h => by simp [okP] at h
  | .lst _ l, 0, h => by simp [okP] at h
  | .tup l, n + 1, h => by
    obtain ⟨h1, h2⟩ := okPL_shape l n (by simpa [okP] using h)
    exact ⟨by simpa [toP, PyData.canLay0] using h1, by simp only [toP, PyData.depth]; omega⟩
  | .lst _ l, n + 1, h => by
    obtain ⟨h1, h2⟩ := okPL_shape l n (by simpa [okP] using h)
    exact ⟨by simpa [toP, PyData.canLay0] using h1, by simp only [toP, PyData.depth]; omega⟩
  | .ty _, n, h => by simp [okP] at h
  | .fn _, n, h => by simp [okP] at h
  | .scr _, n, h => by simp [okP] at h
  | .dic _ _ _, n, h => by simp [okP] at h
  | .ins _ _ _ _, n, h => by simp [okP] at h
theorem okPL_shape : ∀ (l : List D) (n : Nat), okPL n l = true → PyData.canLayAll0 (toPL l) = true ∧ PyData.depthAll (toPL l) ≤ n
  | [], n, h => by simp [toPL, PyData.canLayAll0, PyData.depthAll]
  | d :: l, n, h => by
    simp only [okPL, Bool.and_eq_true] at h
    obtain ⟨h1, h2⟩ := okP_shape d n h.1
    obtain ⟨h3, h4⟩ := okPL_shape l n h.2
    exact ⟨by simp [toPL, PyData.canLayAll0, h1, h3], by simp only [toPL, PyData.depthAll]; omega⟩
end
mutual
theorem okP_dp {C : KM} {a : Wd} (k : Ok a) : ∀ (d : D) (n : Nat) (r : Nat) (p : List Nat) (v : V), okP n d = true → Rep C a r p v d → Dp C.K a.H v (toP d)
  | .non, n, r, p, v, h, q => by cases rep_non q; simp only [toP]; exact .non
  | .bl b, n, r, p, v, h, q => by cases rep_bl q; simp only [toP]; exact .bl b
  | .int i, n, r, p, v, h, q => by cases rep_int q; simp only [toP]; exact .int i
  | .str s, n, r, p, v, h, q => by cases rep_str q; simp only [toP]; exact .str s
  | .tup l, 0, r, p, v, h, q => by simp [okP] at h
  | .lst _ l, 0, r, p, v, h, q => by simp [okP] at h
  | .tup l, n + 1, r, p, v, h, q => by
    obtain ⟨x, vs, rfl, h1, h2⟩ := rep_tup k q
    simp only [toP]
    exact .tup h1 (okPL_dp k l n r p 0 vs (by simpa [okP] using h) h2)
  | .lst _ l, n + 1, r, p, v, h, q => by
    obtain ⟨x, vs, rfl, h1, h2⟩ := rep_lst k q
    simp only [toP]
    exact .lst (SqL.of h1) (okPL_dp k l n r p 0 vs (by simpa [okP] using h) h2)
  | .ty _, n, r, p, v, h, q => by simp [okP] at h
  | .fn _, n, r, p, v, h, q => by simp [okP] at h
  | .scr _, n, r, p, v, h, q => by simp [okP] at h
  | .dic _ _ _, n, r, p, v, h, q => by simp [okP] at h
  | .ins _ _ _ _, n, r, p, v, h, q => by simp [okP] at h
theorem okPL_dp {C : KM} {a : Wd} (k : Ok a) : ∀ (l : List D) (n : Nat) (r : Nat) (p : List Nat) (m : Nat) (vs : List V), okPL n l = true → RepL C a r p m vs l → DpAll C.K a.H vs (toPL l)
  | [], n, r, p, m, vs, h, q => by simp only [RepL] at q; subst q; simp only [toPL]; exact .nil
  | d :: l, n, r, p, m, vs, h, q => by
    simp only [okPL, Bool.and_eq_true] at h
    simp only [RepL] at q
    obtain ⟨v, us, rfl, h1, h2⟩ := q
    simp only [toPL]
    exact .cons (okP_dp k d n r (m :: p) v h.1 h1) (okPL_dp k l n r p (m + 1) us h.2 h2)
end
def eqB (d e : D) : Bool := PyData.eqv (toP d) (toP e)
/- scalars -/
def scalD : D → D → Option Bool
  | .non, .non => some true
  | .int i, .int j => some (i == j)
  | .str s, .str t => some (s == t)
  | .bl a, .bl b => some (a == b)
  | .non, .int _ | .int _, .non | .non, .bl _ | .bl _, .non | .non, .str _ | .str _, .non => some false
  | .int _, .str _ | .str _, .int _ | .bl _, .str _ | .str _, .bl _ => some false
  | _, _ => none
def eqQ (d e : D) : Option Bool := match scalD d e with
  | some b => some b
  | none => if okP 64 d && okP 64 e then some (eqB d e) else none
def eqD (d e : D) : Option D := (eqQ d e).map .bl
def neD (d e : D) : Option D := (eqQ d e).map fun b => .bl (!b)
theorem scalD_eq {C : KM} {a : Wd} {r s : Nat} {x y : V} {d e : D} {b : Bool} (h : scalD d e = some b) (p : Rep C a r [] x d) (q : Rep C a s [] y e) : scal x y = true ∧ decide (x = y) = b := by
  cases d <;> cases e <;> simp only [scalD] at h <;> (try (cases h; done)) <;> (simp only [Option.some.injEq] at h; subst h) <;> (simp only [Rep] at p q; subst p q) <;> simp [scal] <;> (rw [Bool.eq_iff_iff]; simp)
section
variable {X : Cx} {C : KM} (hC : C.K = X.K)
include hC
theorem op_eqDD (hu : X.A.units + 64 < cLine) : OpR X (compareOp .Eq) (rD C eqD) := by
  intro pins s σ H x y v u Q I rx ry h
  obtain ⟨a, d1, d2, r1, r2, d, rfl, k, p1, p2, hd, q⟩ := h
  unfold eqD eqQ at hd
  cases hs : scalD d1 d2 with
  | some b =>
    rw [hs] at hd
    cases hd
    obtain ⟨h1, h2⟩ := scalD_eq hs p1 p2
    exact op_eq pins s σ a.H _ _ v u Q I rx ry ⟨h1, by rw [h2]; exact q _ a (Grow.refl a) k rep_ofbl⟩
  | none =>
    rw [hs] at hd
    dsimp only at hd
    split at hd
    · rename_i z
      cases hd
      simp only [Bool.and_eq_true] at z
      obtain ⟨s1, s2⟩ := okP_shape d1 64 z.1
      obtain ⟨s3, s4⟩ := okP_shape d2 64 z.2
      refine op_eqD hu pins s σ a.H _ _ v u Q I rx ry ⟨toP d1, toP d2, ?_, ?_, by simp [SeqAt.shaped, s1, s2], by simp [SeqAt.shaped, s3, s4], q _ a (Grow.refl a) k rep_ofbl⟩
      · rw [← hC]; exact okP_dp k d1 64 _ _ _ z.1 p1
      · rw [← hC]; exact okP_dp k d2 64 _ _ _ z.2 p2
    · cases hd
theorem op_neDD (hu : X.A.units + 64 < cLine) : OpR X (compareOp .NotEq) (rD C neD) := by
  intro pins s σ H x y v u Q I rx ry h
  obtain ⟨a, d1, d2, r1, r2, d, rfl, k, p1, p2, hd, q⟩ := h
  unfold neD eqQ at hd
  cases hs : scalD d1 d2 with
  | some b =>
    rw [hs] at hd
    cases hd
    obtain ⟨h1, h2⟩ := scalD_eq hs p1 p2
    exact op_ne pins s σ a.H _ _ v u Q I rx ry ⟨h1, by rw [h2]; exact q _ a (Grow.refl a) k rep_ofbl⟩
  | none =>
    rw [hs] at hd
    dsimp only at hd
    split at hd
    · rename_i z
      cases hd
      simp only [Bool.and_eq_true] at z
      obtain ⟨s1, s2⟩ := okP_shape d1 64 z.1
      obtain ⟨s3, s4⟩ := okP_shape d2 64 z.2
      refine op_neD hu pins s σ a.H _ _ v u Q I rx ry ⟨toP d1, toP d2, ?_, ?_, by simp [SeqAt.shaped, s1, s2], by simp [SeqAt.shaped, s3, s4], q _ a (Grow.refl a) k rep_ofbl⟩
      · rw [← hC]; exact okP_dp k d1 64 _ _ _ z.1 p1
      · rw [← hC]; exact okP_dp k d2 64 _ _ _ z.2 p2
    · cases hd
end

/-! ### order, in, is -/
def ltD : D → D → Option D
  | .int i, .int j => some (.bl (decide (i < j)))
  | .str s, .str t => some (.bl (decide (s.cps.toList < t.cps.toList)))
  | _, _ => none
def leD : D → D → Option D
  | .int i, .int j => some (.bl (decide (i ≤ j)))
  | .str s, .str t => some (.bl (!decide (t.cps.toList < s.cps.toList)))
  | _, _ => none
def gtD : D → D → Option D
  | .int i, .int j => some (.bl (decide (j < i)))
  | .str s, .str t => some (.bl (decide (t.cps.toList < s.cps.toList)))
  | _, _ => none
def geD : D → D → Option D
  | .int i, .int j => some (.bl (decide (j ≤ i)))
  | .str s, .str t => some (.bl (!decide (s.cps.toList < t.cps.toList)))
  | _, _ => none
/- atoms as values -/
def flatD : D → Bool
  | .non | .bl _ | .int _ | .str _ => true
  | _ => false
def eqF : D → D → Bool
  | .non, .non => true
  | .bl a, .bl b => a == b
  | .bl a, .int b => (if a then 1 else 0) == b
  | .int a, .bl b => a == (if b then 1 else 0)
  | .int a, .int b => a == b
  | .str a, .str b => a == b
  | _, _ => false
def keyD : D → Option Key
  | .int i => some (.inl i)
  | .str s => some (.inr s)
  | _ => none
def unkD : Key → D
  | .inl i => .int i
  | .inr s => .str s
/- the value at a key -/
def getK : List D → List D → Key → Option D
  | k :: ks, w :: ws, x => if keyD k = some x then some w else getK ks ws x
  | _, _, _ => none
def inQ : D → D → Option Bool
  | .str s, .str t => match s.cps.toList with
    | [c] => some (decide (c ∈ t.cps.toList))
    | _ => some (!(Builtin.Str.occurrences t s 0 t.length 1).isEmpty)
  | x, .dic _ ks ws => match keyD x with
    | some k => some (getK ks ws k).isSome
    | none => none
  | x, .lst _ l => if flatD x && l.all flatD then some (l.any fun y => eqF y x) else none
  | x, .tup l => if flatD x && l.all flatD then some (l.any fun y => eqF y x) else none
  | _, _ => none
def inD (d e : D) : Option D := (inQ d e).map .bl
def ninD (d e : D) : Option D := (inQ d e).map fun b => .bl (!b)
def isQ : D → D → Option Bool
  | .non, .non => some true
  | .int _, .non | .str _, .non | .bl _, .non | .tup _, .non | .lst _ _, .non | .dic _ _ _, .non | .ins _ _ _ _, .non => some false
  | .bl a, .bl b => some (a == b)
  | .non, .bl _ | .int _, .bl _ | .str _, .bl _ | .tup _, .bl _ | .lst _ _, .bl _ | .dic _ _ _, .bl _ | .ins _ _ _ _, .bl _ => some false
  | _, _ => none
def isD (d e : D) : Option D := (isQ d e).map .bl
def nisD (d e : D) : Option D := (isQ d e).map fun b => .bl (!b)
end Mi
namespace Mi
open PySem PySem.Spec PyProof.Rows L2

/-! ### keys -/
theorem rep_key {C : KM} {a : Wd} {r : Nat} {p : List Nat} {d : D} {k : Key} (h : Rep C a r p (kV k) d) : d = unkD k := by
  cases k with
  | inl i => cases d <;> simp only [Rep, kV] at h <;> first | (cases h; done) | (cases h; rfl) | (obtain ⟨_, h⟩ := h; first | (cases h; done) | (obtain ⟨h, _⟩ := h; cases h; done) | (obtain ⟨_, h⟩ := h; first | (cases h; done) | (obtain ⟨h, _⟩ := h; cases h; done) | (obtain ⟨_, _, h, _⟩ := h; cases h; done)))
  | inr i => cases d <;> simp only [Rep, kV] at h <;> first | (cases h; done) | (cases h; rfl) | (obtain ⟨_, h⟩ := h; first | (cases h; done) | (obtain ⟨h, _⟩ := h; cases h; done) | (obtain ⟨_, h⟩ := h; first | (cases h; done) | (obtain ⟨h, _⟩ := h; cases h; done) | (obtain ⟨_, _, h, _⟩ := h; cases h; done)))
theorem keyD_unk (k : Key) : keyD (unkD k) = some k := by cases k <;> rfl
theorem keyD_rep {C : KM} {a : Wd} {r : Nat} {p : List Nat} {d : D} {v : V} {k : Key} (h : keyD d = some k) (q : Rep C a r p v d) : v = kV k := by
  cases d <;> simp only [keyD] at h <;> (try (cases h; done)) <;> cases h
  · exact rep_int q
  · exact rep_str q
theorem getK_rep {C : KM} {a : Wd} {r : Nat} {p : List Nat} (x : Key) : ∀ {kvs : List (Key × V)} {ks ws : List D} {n m : Nat}, RepL C a r p n (kvs.map fun q => kV q.1) ks → RepL C a r p m (kvs.map (·.2)) ws →
    match getK ks ws x with
    | some w => ∃ v j, valV kvs x = some v ∧ Rep C a r (j :: p) v w
    | none => valV kvs x = none
  | [], ks, ws, n, m, h, g => by
    have e : ks = [] := by cases ks with | nil => rfl | cons _ _ => simp only [RepL, List.map_nil] at h; obtain ⟨_, _, e, _⟩ := h; cases e
    subst e
    simp [getK, valV]
  | (k, v) :: kvs, ks, ws, n, m, h, g => by
    cases ks with
    | nil => simp only [RepL, List.map_cons] at h; cases h
    | cons d ks =>
      cases ws with
      | nil => simp only [RepL, List.map_cons] at g; cases g
      | cons w ws =>
        simp only [RepL, List.map_cons] at h g
        obtain ⟨v1, us, e1, h1, h2⟩ := h
        obtain ⟨v2, us', e2, g1, g2⟩ := g
        cases e1; cases e2
        have ed := rep_key h1
        subst ed
        simp only [getK, keyD_unk]
        by_cases e : k = x
        · subst e
          simp only [if_true]
          exact ⟨v, m, valV_pos rfl, g1⟩
        · have ne : ¬ (some k : Option Key) = some x := fun z => e (Option.some.inj z)
          simp only [if_neg ne]
          have ih := getK_rep (C := C) (a := a) (r := r) (p := p) x (kvs := kvs) (ks := ks) (ws := ws) h2 g2
          rw [valV_neg (p := (k, v)) e]
          exact ih

/-! ### order -/
section
variable {X : Cx} {C : KM}
theorem op_ltD : OpR X (compareOp .Lt) (rD C ltD) := by
  intro pins s σ H x y v u Q I rx ry h
  obtain ⟨a, d1, d2, r1, r2, d, rfl, k, p1, p2, hd, q⟩ := h
  cases d1 <;> cases d2 <;> simp only [ltD] at hd <;> try (cases hd; done)
  case int.int i j => cases hd; cases rep_int p1; cases rep_int p2; exact op_lt pins s σ a.H _ _ v u Q I rx ry ⟨i, j, rfl, rfl, q _ a (Grow.refl a) k rep_ofbl⟩
  case str.str i j => cases hd; cases rep_str p1; cases rep_str p2; exact op_lt_str pins s σ a.H _ _ v u Q I rx ry ⟨i, j, rfl, rfl, q _ a (Grow.refl a) k rep_ofbl⟩
theorem op_leD : OpR X (compareOp .LtE) (rD C leD) := by
  intro pins s σ H x y v u Q I rx ry h
  obtain ⟨a, d1, d2, r1, r2, d, rfl, k, p1, p2, hd, q⟩ := h
  cases d1 <;> cases d2 <;> simp only [leD] at hd <;> try (cases hd; done)
  case int.int i j => cases hd; cases rep_int p1; cases rep_int p2; exact op_le pins s σ a.H _ _ v u Q I rx ry ⟨i, j, rfl, rfl, q _ a (Grow.refl a) k rep_ofbl⟩
  case str.str i j => cases hd; cases rep_str p1; cases rep_str p2; exact op_le_str pins s σ a.H _ _ v u Q I rx ry ⟨i, j, rfl, rfl, q _ a (Grow.refl a) k rep_ofbl⟩
theorem op_gtD : OpR X (compareOp .Gt) (rD C gtD) := by
  intro pins s σ H x y v u Q I rx ry h
  obtain ⟨a, d1, d2, r1, r2, d, rfl, k, p1, p2, hd, q⟩ := h
  cases d1 <;> cases d2 <;> simp only [gtD] at hd <;> try (cases hd; done)
  case int.int i j => cases hd; cases rep_int p1; cases rep_int p2; exact op_gt pins s σ a.H _ _ v u Q I rx ry ⟨i, j, rfl, rfl, q _ a (Grow.refl a) k rep_ofbl⟩
  case str.str i j => cases hd; cases rep_str p1; cases rep_str p2; exact op_gt_str pins s σ a.H _ _ v u Q I rx ry ⟨i, j, rfl, rfl, q _ a (Grow.refl a) k rep_ofbl⟩
theorem op_geD : OpR X (compareOp .GtE) (rD C geD) := by
  intro pins s σ H x y v u Q I rx ry h
  obtain ⟨a, d1, d2, r1, r2, d, rfl, k, p1, p2, hd, q⟩ := h
  cases d1 <;> cases d2 <;> simp only [geD] at hd <;> try (cases hd; done)
  case int.int i j => cases hd; cases rep_int p1; cases rep_int p2; exact op_ge pins s σ a.H _ _ v u Q I rx ry ⟨i, j, rfl, rfl, q _ a (Grow.refl a) k rep_ofbl⟩
  case str.str i j => cases hd; cases rep_str p1; cases rep_str p2; exact op_ge_str pins s σ a.H _ _ v u Q I rx ry ⟨i, j, rfl, rfl, q _ a (Grow.refl a) k rep_ofbl⟩
end

/-! ### in -/
theorem flat_rep {C : KM} {a : Wd} {r : Nat} {p : List Nat} {d : D} {v : V} (h : flatD d = true) (q : Rep C a r p v d) : flatV v = true := by
  cases d <;> simp only [flatD] at h <;> (try (cases h; done)) <;> (simp only [Rep] at q; subst q; rfl)
theorem eqF_rep {C : KM} {a : Wd} {r s : Nat} {p p' : List Nat} {d e : D} {v u : V} (h : flatD d = true) (h' : flatD e = true) (q : Rep C a r p v d) (q' : Rep C a s p' u e) : eqV v u = eqF d e := by
  cases d <;> simp only [flatD] at h <;> (try (cases h; done)) <;> cases e <;> simp only [flatD] at h' <;> (try (cases h'; done)) <;> (simp only [Rep] at q q'; subst q q'; rfl)
theorem flats_rep {C : KM} {a : Wd} {r : Nat} {p : List Nat} : ∀ {l : List D} {n : Nat} {vs : List V}, l.all flatD = true → RepL C a r p n vs l → vs.all flatV = true
  | [], n, vs, h, q => by simp only [RepL] at q; subst q; rfl
  | d :: l, n, vs, h, q => by
    simp only [List.all_cons, Bool.and_eq_true] at h
    simp only [RepL] at q
    obtain ⟨v, us, rfl, q1, q2⟩ := q
    rw [List.all_cons, flat_rep h.1 q1, flats_rep h.2 q2]; rfl
theorem anyF_rep {C : KM} {a : Wd} {r s : Nat} {p p' : List Nat} {x : D} {v : V} (hx : flatD x = true) (qx : Rep C a s p' v x) : ∀ {l : List D} {n : Nat} {vs : List V}, l.all flatD = true → RepL C a r p n vs l → inV v vs = l.any fun y => eqF y x
  | [], n, vs, h, q => by simp only [RepL] at q; subst q; rfl
  | d :: l, n, vs, h, q => by
    simp only [List.all_cons, Bool.and_eq_true] at h
    simp only [RepL] at q
    obtain ⟨u, us, rfl, q1, q2⟩ := q
    have ih := anyF_rep hx qx h.2 q2
    unfold inV at ih ⊢
    rw [List.any_cons, List.any_cons, eqF_rep h.1 hx q1 qx, ih]
section
variable {X : Cx} {C : KM} (hC : C.K = X.K)
theorem sign_of {s : Str} {c : Nat} (h : s.cps.toList = [c]) : s = ⟨#[c]⟩ := by
  obtain ⟨a⟩ := s
  have e : a = #[c] := by
    apply Array.ext'
    simpa using h
  rw [e]
include hC
/- in, by its truth b; f the comparison, g what it tells of b -/
theorem op_inG {op : CmpOp} {g : Bool → Bool} (hop : (op = .In ∧ g = id) ∨ (op = .NotIn ∧ g = (!·))) (hu : X.A.units + 1 < cLine) : OpR X (compareOp op) (rD C fun d e => (inQ d e).map fun b => .bl (g b)) := by
  intro pins s σ H x y v u Q I rx ry h
  obtain ⟨a, d1, d2, r1, r2, d, rfl, k, p1, p2, hd, q⟩ := h
  cases hb : inQ d1 d2 with
  | none => simp only [hb] at hd; cases hd
  | some b =>
    simp only [hb] at hd
    cases hd
    have fin : ∀ s', Inv X pins σ a.H s' → EP X pins σ Q (.bool (g b)) s' := fun s' I' => ⟨.bl (g b), a.H, I', rfl, q _ a (Grow.refl a) k rep_ofbl⟩
    have qv : Q (.bl (g b)) a.H := q _ a (Grow.refl a) k rep_ofbl
    have seq : ∀ {x2 : Addr} {us : List V} {l : List D}, y = .ref x2 → (SqL X.K a.H x2 us ∨ SqT X.K a.H x2 us) → RepL C a r2 [] 0 us l → (if flatD d1 && l.all flatD then some (l.any fun y => eqF y d1) else none) = some b →
        wpAny (model X.prog X.w) X.A (compareOp op v u) (EP X pins σ Q) X.xe s := fun {x2 us l} e1 hs hl e2 => by
      split at e2
      · rename_i z
        simp only [Bool.and_eq_true] at z
        cases e2
        subst e1
        have ei := anyF_rep z.1 p1 z.2 hl
        rcases hop with ⟨rfl, rfl⟩ | ⟨rfl, rfl⟩
        · exact op_in_seq pins s σ a.H _ _ v u Q I rx ry ⟨x2, us, rfl, hs, flat_rep z.1 p1, flats_rep z.2 hl, by rw [ei]; exact qv⟩
        · exact op_notIn_seq pins s σ a.H _ _ v u Q I rx ry ⟨x2, us, rfl, hs, flat_rep z.1 p1, flats_rep z.2 hl, by rw [ei]; exact qv⟩
      · cases e2
    have dic : ∀ {o : Bool} {ks ws : List D}, Rep C a r2 [] y (.dic o ks ws) → (match keyD d1 with | some k => some (getK ks ws k).isSome | none => none) = some b → wpAny (model X.prog X.w) X.A (compareOp op v u) (EP X pins σ Q) X.xe s := fun {o ks ws} rp e => by
      cases hk : keyD d1 with
      | none => rw [hk] at e; cases e
      | some key =>
        rw [hk] at e
        cases e
        obtain ⟨x2, ho, kv, vs, rfl, h1, dc, f, hk1, hk2⟩ := rep_dic k rp
        cases dc with
        | dk kvs =>
          have ex := keyD_rep hk p1
          subst ex
          obtain rfl : u = Value.ref x2 := ry
          have gk := getK_rep key hk1 hk2
          have ei : (valV kvs key).isSome = (getK ks ws key).isSome := by
            cases e : getK ks ws key with
            | none => rw [e] at gk; rw [gk]; rfl
            | some w => rw [e] at gk; obtain ⟨v', j, e', _⟩ := gk; rw [e']; rfl
          rcases hop with ⟨rfl, rfl⟩ | ⟨rfl, rfl⟩
          · exact d_in hu I (DGet.k h1) rx fun s3 I3 => by rw [ei]; exact fin s3 I3
          · exact d_notIn hu I (DGet.k h1) rx fun s3 I3 => by rw [ei]; exact fin s3 I3
    cases d2
    case str t =>
      cases d1 <;> simp only [inQ] at hb <;> try (cases hb; done)
      case str z =>
        cases rep_str p1; cases rep_str p2
        split at hb
        · rename_i c e
          cases hb
          have ez := sign_of e
          subst ez
          rcases hop with ⟨rfl, rfl⟩ | ⟨rfl, rfl⟩
          · exact op_in_sign pins s σ a.H _ _ v u Q I rx ry ⟨c, t, rfl, rfl, qv⟩
          · exact op_notIn_sign pins s σ a.H _ _ v u Q I rx ry ⟨c, t, rfl, rfl, qv⟩
        · cases hb
          rcases hop with ⟨rfl, rfl⟩ | ⟨rfl, rfl⟩
          · exact op_in_str pins s σ a.H _ _ v u Q I rx ry ⟨z, t, rfl, rfl, qv⟩
          · exact L2.op_notIn_str pins s σ a.H _ _ v u Q I rx ry ⟨z, t, rfl, rfl, qv⟩
    case dic o ks ws => cases d1 <;> simp only [inQ] at hb <;> exact dic p2 hb
    case lst o l =>
      obtain ⟨x2, us, e, h1, h2⟩ := rep_lst k p2
      cases d1 <;> simp only [inQ] at hb <;> exact seq e (.inl (SqL.of h1)) h2 hb
    case tup l =>
      obtain ⟨x2, us, e, h1, h2⟩ := rep_tup k p2
      rw [hC] at h1
      cases d1 <;> simp only [inQ] at hb <;> exact seq e (.inr h1) h2 hb
    all_goals (cases d1 <;> simp only [inQ] at hb <;> cases hb)
theorem op_inD (hu : X.A.units + 1 < cLine) : OpR X (compareOp .In) (rD C inD) := op_inG hC (g := id) (.inl ⟨rfl, rfl⟩) hu
theorem op_ninD (hu : X.A.units + 1 < cLine) : OpR X (compareOp .NotIn) (rD C ninD) := op_inG hC (g := (!·)) (.inr ⟨rfl, rfl⟩) hu
omit hC in
theorem op_isG {op : CmpOp} {g : Bool → Bool} (hop : (op = .Is ∧ g = id) ∨ (op = .IsNot ∧ g = (!·))) : OpR X (compareOp op) (rD C fun d e => (isQ d e).map fun b => .bl (g b)) := by
  intro pins s σ H x y v u Q I rx ry h
  obtain ⟨a, d1, d2, r1, r2, d, rfl, k, p1, p2, hd, q⟩ := h
  cases hb : isQ d1 d2 with
  | none => simp only [hb] at hd; cases hd
  | some b =>
    simp only [hb] at hd
    cases hd
    have qv : Q (.bl (g b)) a.H := q _ a (Grow.refl a) k rep_ofbl
    cases d2 <;> (try (cases d1 <;> simp only [isQ] at hb <;> cases hb; done))
    case non =>
      cases rep_non p2
      have ex : decide (x = .non) = b := by
        cases d1 <;> simp only [isQ] at hb <;> (try (cases hb; done)) <;> cases hb <;> simp only [Rep] at p1
        · subst p1; rfl
        · subst p1; rfl
        · subst p1; rfl
        · subst p1; rfl
        · obtain ⟨_, _, rfl, _⟩ := p1; rfl
        · obtain ⟨_, _, rfl, _⟩ := p1; rfl
        · obtain ⟨_, _, _, _, rfl, _⟩ := p1; rfl
        · obtain ⟨_, _, _, _, rfl, _⟩ := p1; rfl
      rcases hop with ⟨rfl, rfl⟩ | ⟨rfl, rfl⟩
      · exact op_isN pins s σ a.H _ _ v u Q I rx ry ⟨rfl, by rw [ex]; exact qv⟩
      · exact op_notN pins s σ a.H _ _ v u Q I rx ry ⟨rfl, by rw [ex]; exact qv⟩
    case bl c =>
      cases rep_bl p2
      cases d1 <;> simp only [isQ] at hb <;> (try (cases hb; done))
      case bl c' =>
        cases hb; cases rep_bl p1
        have e : decide (c' = c) = (c' == c) := by rw [Bool.eq_iff_iff]; simp
        rcases hop with ⟨rfl, rfl⟩ | ⟨rfl, rfl⟩
        · exact op_isBl pins s σ a.H _ _ v u Q I rx ry ⟨c', c, rfl, rfl, by rw [e]; exact qv⟩
        · exact op_notBl pins s σ a.H _ _ v u Q I rx ry ⟨c', c, rfl, rfl, by rw [e]; exact qv⟩
      all_goals
        cases hb
        have hv : plainIs v (.bool c) = true ∧ (v == .bool c) = false := by
          simp only [Rep] at p1
          first
            | (subst p1; cases rx; exact ⟨rfl, rfl⟩)
            | (subst p1; obtain ⟨t, rfl⟩ := rx; exact ⟨rfl, rfl⟩)
            | (obtain ⟨_, _, rfl, _⟩ := p1; cases rx; exact ⟨rfl, rfl⟩)
            | (obtain ⟨_, _, _, _, rfl, _⟩ := p1; cases rx; exact ⟨rfl, rfl⟩)
        obtain rfl : u = Value.bool c := ry
        rcases hop with ⟨rfl, rfl⟩ | ⟨rfl, rfl⟩
        · exact wpAny_is_plain hv.1 (by rw [hv.2]; exact ⟨.bl false, a.H, I, rfl, qv⟩)
        · exact wpAny_isNot_plain hv.1 (by rw [hv.2]; exact ⟨.bl true, a.H, I, rfl, qv⟩)
theorem op_isD : OpR X (compareOp .Is) (rD C isD) := op_isG (g := id) (.inl ⟨rfl, rfl⟩)
theorem op_nisD : OpR X (compareOp .IsNot) (rD C nisD) := op_isG (g := (!·)) (.inr ⟨rfl, rfl⟩)
end
end Mi
namespace Mi
open PySem PySem.Spec PyProof.Rows L2

/-! ### subscripts -/
def pick (o : Option D) : Option D := match o with
  | some d => if fz d = true then some d else none
  | none => none
theorem pick_eq {o : Option D} {d : D} (h : pick o = some d) : o = some d ∧ fz d = true := by
  unfold pick at h
  split at h
  · split at h
    · rename_i z; cases h; exact ⟨rfl, z⟩
    · cases h
  · cases h
def ixD : D → D → Option D
  | .lst _ l, .int i => pick (atI l i)
  | .tup l, .int i => pick (atI l i)
  | .scr l, .int i => (atI l i).map .int
  | .str s, .int i => if s.length ≤ sizeLine then (atI s.cps.toList i).map fun c => .str ⟨#[c]⟩ else none
  | .dic _ ks ws, x => match keyD x with
    | some k => pick (getK ks ws k)
    | none => none
  | _, _ => none
theorem atI_rep {C : KM} {a : Wd} {r : Nat} {p : List Nat} {l : List D} {n : Nat} {vs : List V} {i : Int} {d : D} (h : RepL C a r p n vs l) (e : atI l i = some d) : ∃ v j, atI vs i = some v ∧ Rep C a r (j :: p) v d := by
  unfold atI at e ⊢
  rw [h.len]
  cases hx : ixN l.length i with
  | none => rw [hx] at e; cases e
  | some j =>
    rw [hx] at e
    obtain ⟨v, h1, h2⟩ := h.get (show l[j]? = some d from e)
    exact ⟨v, n + j, h1, h2⟩
section
variable {X : Cx} {C : KM} (hC : C.K = X.K)
include hC
theorem ix_D (hu : X.A.units + 1 < cLine) : IxR X (rD C ixD) := by
  intro value slice pins s σ H x y v u Q I rx ry h hs
  obtain ⟨a, d1, d2, r1, r2, d, rfl, k, p1, p2, hd, q⟩ := h
  have fz_ok : ∀ {z : V} {r : Nat} {p : List Nat}, Rep C a r p z d → fz d = true → Q z a.H := fun {z r p} h e => q z a (Grow.refl a) k (h.step k (Step.refl a) e)
  have dic : ∀ {o : Bool} {ks ws : List D}, Rep C a r1 [] x (.dic o ks ws) → (match keyD d2 with | some k => pick (getK ks ws k) | none => none) = some d → wpAny (model X.prog X.w) X.A (subscriptTail value slice v u) (EP X pins σ Q) X.xe s := fun {o ks ws} rp e => by
    cases hk : keyD d2 with
    | none => rw [hk] at e; cases e
    | some key =>
      rw [hk] at e
      obtain ⟨e1, z⟩ := pick_eq e
      obtain ⟨x2, ho, kv, vs, rfl, h1, dc, f, hk1, hk2⟩ := rep_dic k rp
      cases dc with
      | dk kvs =>
        have ex := keyD_rep hk p2
        subst ex
        obtain rfl : v = Value.ref x2 := rx
        have gk := getK_rep key hk1 hk2
        rw [e1] at gk
        obtain ⟨w, j, ew, rw'⟩ := gk
        have g : DGet a.H x2 (kV key) (some w) := by rw [← ew]; exact DGet.k h1
        exact tail_any (dict_typeIs I g) PySem.F.slot_dict_getitem.lookup (d_getItem hu I g ry fun w' s3 I3 r3 => ⟨w, a.H, I3, r3, fz_ok rw' z⟩) hs
  cases d1
  case lst o l =>
    cases d2 <;> simp only [ixD] at hd <;> (try (cases hd; done))
    case int i =>
      obtain ⟨e1, z⟩ := pick_eq hd
      obtain ⟨x1, vs, rfl, h1, h2⟩ := rep_lst k p1
      cases rep_int p2
      obtain ⟨w, j, ew, rw'⟩ := atI_rep h2 e1
      exact ix_list value slice pins s σ a.H _ _ v u Q I rx ry ⟨x1, vs, i, w, rfl, rfl, SqL.of h1, ew, fz_ok rw' z⟩ hs
  case tup l =>
    cases d2 <;> simp only [ixD] at hd <;> (try (cases hd; done))
    case int i =>
      obtain ⟨e1, z⟩ := pick_eq hd
      obtain ⟨x1, vs, rfl, h1, h2⟩ := rep_tup k p1
      cases rep_int p2
      rw [hC] at h1
      obtain ⟨w, j, ew, rw'⟩ := atI_rep h2 e1
      exact ix_tup value slice pins s σ a.H _ _ v u Q I rx ry ⟨x1, vs, i, w, rfl, rfl, h1, ew, fz_ok rw' z⟩ hs
  case scr l =>
    cases d2 <;> simp only [ixD] at hd <;> (try (cases hd; done))
    case int i =>
      obtain ⟨x1, rfl, h1⟩ := rep_scr k p1
      cases rep_int p2
      rw [hC] at h1
      cases e1 : atI l i with
      | none => rw [e1] at hd; cases hd
      | some n =>
        rw [e1] at hd
        cases hd
        have ew : atI (l.map V.int) i = some (.int n) := by
          unfold atI at e1 ⊢
          rw [List.length_map]
          cases hx : ixN l.length i with
          | none => rw [hx] at e1; cases e1
          | some j =>
            rw [hx] at e1
            have e1 : l[j]? = some n := e1
            show (l.map V.int)[j]? = some (.int n)
            rw [List.getElem?_map, e1]; rfl
        exact ix_list value slice pins s σ a.H _ _ v u Q I rx ry ⟨x1, _, i, .int n, rfl, rfl, h1, ew, fz_ok (r := 0) (p := []) (by simp [Rep]) rfl⟩ hs
  case str z =>
    cases d2 <;> simp only [ixD] at hd <;> (try (cases hd; done))
    case int i =>
      split at hd
      · rename_i hz
        cases rep_int p2
        cases rep_str p1
        cases e1 : atI z.cps.toList i with
        | none => rw [e1] at hd; cases hd
        | some n =>
          rw [e1] at hd
          cases hd
          exact ix_str value slice pins s σ a.H _ _ v u Q I rx ry ⟨z, i, n, rfl, rfl, hz, e1, fz_ok (r := 0) (p := []) (by simp [Rep]) rfl⟩ hs
      · cases hd
  case dic o ks ws => cases d2 <;> simp only [ixD] at hd <;> exact dic p1 hd
  all_goals (cases d2 <;> simp only [ixD] at hd <;> cases hd)
end

/-! ### slices -/
def cutD {α : Type} (xs : List α) (lo hi : Option Int) : List α := (xs.drop (HT.sIx xs.length 0 lo)).take (HT.sIx xs.length xs.length hi - HT.sIx xs.length 0 lo)
def slD (d : D) (lo hi : Option Int) : Option D := match d with
  | .lst _ l => if fzL l then some (.lst true (cutD l lo hi)) else none
  | .tup l => if fzL l then some (.tup (cutD l lo hi)) else none
  | .scr l => some (.lst true ((cutD l lo hi).map .int))
  | .str s => if s.length ≤ sizeLine then some (.str (cutS s lo hi)) else none
  | _ => none
theorem RepL.cut {C : KM} {a : Wd} {r s : Nat} {p q : List Nat} : ∀ {l : List D} {n m : Nat} {vs : List V} (i k : Nat), fzL l = true → RepL C a r p n vs l → RepL C a s q m ((vs.drop i).take k) ((l.drop i).take k)
  | [], n, m, vs, i, k, _, h => by simp only [RepL] at h; subst h; simp [RepL]
  | d :: l, n, m, vs, i, 0, _, h => by simp [RepL]
  | d :: l, n, m, vs, 0, k + 1, z, h => by
    simp only [RepL] at h
    obtain ⟨v, us, rfl, h1, h2⟩ := h
    simp only [fzL, Bool.and_eq_true] at z
    simp only [List.drop_zero, List.take_succ_cons]
    have ih := RepL.cut (s := s) (q := q) (m := m + 1) 0 k z.2 h2
    exact ⟨v, _, rfl, Rep.fz (fun _ _ e => e) d _ _ v z.1 h1, ih⟩
  | d :: l, n, m, vs, i + 1, k + 1, z, h => by
    simp only [RepL] at h
    obtain ⟨v, us, rfl, h1, h2⟩ := h
    simp only [fzL, Bool.and_eq_true] at z
    simp only [List.drop_succ_cons]
    exact RepL.cut i (k + 1) z.2 h2
theorem fzL_take {l : List D} (h : fzL l = true) (k : Nat) : fzL (l.take k) = true := fzL_all fun d hd => fzL_mem h d (List.mem_of_mem_take hd)
theorem fzL_drop {l : List D} (h : fzL l = true) (k : Nat) : fzL (l.drop k) = true := fzL_all fun d hd => fzL_mem h d (List.mem_of_mem_drop hd)
theorem repL_ints {C : KM} {a : Wd} {r : Nat} {p : List Nat} : ∀ (l : List Int) (n : Nat), RepL C a r p n (l.map V.int) (l.map D.int)
  | [], n => by simp [RepL]
  | i :: l, n => ⟨.int i, l.map V.int, rfl, by simp [Rep], repL_ints l (n + 1)⟩
theorem fzL_ints : ∀ l : List Int, fzL (l.map D.int) = true
  | [] => rfl
  | i :: l => by simp only [List.map_cons, fzL, fz, fzL_ints l]; rfl
theorem map_cut {α β : Type} (f : α → β) (l : List α) (lo hi : Option Int) : cutD (l.map f) lo hi = (cutD l lo hi).map f := by
  unfold cutD
  rw [List.length_map, List.map_take, List.map_drop]
def rSD (C : KM) : V → Option Int → Option Int → Hp → VK → Prop := fun x lo hi H Q => ∃ a d1 r1 d, a.H = H ∧ Ok a ∧ Rep C a r1 [] x d1 ∧ slD d1 lo hi = some d ∧ ∀ z b, Grow a b → Ok b → Rep C b 0 [] z d → Q z b.H
def rSlX (K : PySem.W.Frag) : V → Option Int → Option Int → Hp → VK → Prop := fun x lo hi H Q => ∃ a xs, x = .ref a ∧ SqT K H a xs ∧
  (HT.sIx xs.length 0 lo = 0 ∧ HT.sIx xs.length xs.length hi = xs.length → Q (.ref a) H) ∧ (¬ (HT.sIx xs.length 0 lo = 0 ∧ HT.sIx xs.length xs.length hi = xs.length) → TupNew Q H (cutV xs lo hi))
theorem sl_tupX {X : Cx} : SlR X (rSlX X.K) := by
  intro pins s σ H x v vl vu lo hi sl Q I rx hs pl pu h
  obtain ⟨a, xs, rfl, hx, q1, q2⟩ := h
  by_cases hw : HT.sIx xs.length 0 lo = 0 ∧ HT.sIx xs.length xs.length hi = xs.length
  · exact sl_tupA pins s σ H _ v vl vu lo hi sl Q I rx hs pl pu ⟨a, xs, rfl, hx, q1, fun z => absurd hw z⟩
  cases rx
  obtain ⟨its, r, ht, hz⟩ := I.tuple hx
  have hlen : its.toArray.size = xs.length := by rw [List.size_toArray]; exact r.length.symm
  refine ⟨"tuple", _, PyProof.Rows.slot_tuple_getitem.lookup, ht.typeIs, HT.getItem_tuple_cut ht hs pl pu (by rw [hlen]; exact hw) ?_ (by rw [hlen]; exact hz)⟩
  rw [hlen]
  exact lay_tup I ((r.drop (HT.sIx xs.length 0 lo)).take (HT.sIx xs.length xs.length hi - HT.sIx xs.length 0 lo)) (Nat.le_trans (cutV_length xs lo hi) hz) (q2 hw)
theorem call_tupleX {X : Cx} : CallR X (.type "tuple") (fun xs H Q => ∃ p ys, xs = [.ref p] ∧ SqL X.K H p ys ∧ TupNew Q H ys) := by
  intro pins s σ H xs us Q I r h
  obtain ⟨p, ys, rfl, hq, q⟩ := h
  obtain ⟨u, rfl, rx⟩ := vals1 r
  cases rx
  obtain ⟨its, r', pl, hz⟩ := I.list hq
  have hlen := r'.length
  refine call_tuple_list pl.isList (fun h' kp => ?_) (by simp only [List.size_toArray] <;> omega)
  have I1 : Inv X pins σ H { s with heap := h' } := I.kept (t' := s.toks) kp
  exact lay_tup I1 r' hz q
section
variable {X : Cx} {C : KM} (hC : C.K = X.K)
include hC
theorem sl_D : SlR X (rSD C) := by
  intro pins s σ H x v vl vu lo hi sl Q I rx hs pl pu h
  obtain ⟨a, d1, r1, d, rfl, k, p1, hd, q⟩ := h
  cases d1 <;> simp only [slD] at hd <;> (try (cases hd; done))
  case str z =>
    split at hd
    · rename_i hz; cases hd; cases rep_str p1
      exact sl_str pins s σ a.H _ v vl vu lo hi sl Q I rx hs pl pu ⟨z, rfl, hz, q _ a (Grow.refl a) k (by simp [Rep])⟩
    · cases hd
  case scr l =>
    cases hd
    obtain ⟨x1, rfl, h1⟩ := rep_scr k p1
    rw [hC] at h1
    refine sl_list pins s σ a.H _ v vl vu lo hi sl Q I rx hs pl pu ⟨x1, _, rfl, h1, ?_⟩
    rw [show cutV (l.map V.int) lo hi = (cutD l lo hi).map V.int from map_cut V.int l lo hi]
    exact new_lst k (fzL_ints _) (repL_ints (r := 0) (p := []) _ 0) q
  case lst o l =>
    split at hd
    · rename_i hz; cases hd
      obtain ⟨x1, vs, rfl, h1, h2⟩ := rep_lst k p1
      refine sl_list pins s σ a.H _ v vl vu lo hi sl Q I rx hs pl pu ⟨x1, vs, rfl, SqL.of h1, ?_⟩
      unfold cutV
      rw [h2.len]
      exact new_lst k (fzL_take (fzL_drop hz _) _) (RepL.cut (s := 0) (q := []) (m := 0) _ _ hz h2) q
    · cases hd
  case tup l =>
    split at hd
    · rename_i hz; cases hd
      obtain ⟨x1, vs, rfl, h1, h2⟩ := rep_tup k p1
      rw [hC] at h1
      refine sl_tupX pins s σ a.H _ v vl vu lo hi sl Q I rx hs pl pu ⟨x1, vs, rfl, h1, fun e => ?_, fun _ => ?_⟩
      · rw [h2.len] at e
        have e2 : cutD l lo hi = l := by unfold cutD; rw [e.1, e.2]; simp
        rw [e2] at q
        exact q _ a (Grow.refl a) k (p1.step k (Step.refl a) (by simpa [fz] using hz))
      · unfold cutV
        rw [h2.len]
        exact new_tup k (fzL_take (fzL_drop hz _) _) (RepL.cut (s := 0) (q := []) (m := 0) _ _ hz h2) q
    · cases hd
end

/-! ### calls of builtins -/
def lenD : List D → Option D
  | [.str s] => if s.length ≤ sizeLine then some (.int s.length) else none
  | [.lst _ l] => some (.int l.length)
  | [.tup l] => some (.int l.length)
  | [.scr l] => some (.int l.length)
  | [.dic _ ks _] => some (.int ks.length)
  | _ => none
def absD : List D → Option D
  | [.int i] => some (.int (if i < 0 then -i else i))
  | _ => none
def intD : List D → Option D
  | [.int i] => some (.int i)
  | [.bl b] => some (.int (if b then 1 else 0))
  | _ => none
def minD : List D → Option D
  | [.int i, .int j] => some (.int (if j < i then j else i))
  | _ => none
def maxD : List D → Option D
  | [.int i, .int j] => some (.int (if j > i then j else i))
  | _ => none
def strD : List D → Option D
  | [.int i] => if i.natAbs.log2 < 1920 then some (.str (toString i)) else none
  | _ => none
def listD : List D → Option D
  | [.lst _ l] => if fzL l then some (.lst true l) else none
  | [.tup l] => if fzL l then some (.lst true l) else none
  | [.scr l] => some (.lst true (l.map .int))
  | _ => none
def tupleD : List D → Option D
  | [.lst _ l] => if fzL l then some (.tup l) else none
  | [.tup l] => if fzL l then some (.tup l) else none
  | _ => none
def blsOf : List D → Option (List Bool)
  | [] => some []
  | .bl b :: l => (blsOf l).map (b :: ·)
  | _ => none
def allD : List D → Option D
  | [.lst _ l] => (blsOf l).map fun bs => .bl (bs.all id)
  | _ => none
def anyD : List D → Option D
  | [.lst _ l] => (blsOf l).map fun bs => .bl (bs.any id)
  | _ => none
def intsOf : List D → Option (List Int)
  | [] => some []
  | .int b :: l => (intsOf l).map (b :: ·)
  | _ => none
def sumD : List D → Option D
  | [.lst _ l] => (intsOf l).map fun bs => .int bs.sum
  | _ => none
theorem one_rep {P : D → V → Prop} {d : D} {xs : List V} (h : Paired P [d] xs) : ∃ v, xs = [v] ∧ P d v := by
  cases h with
  | cons h t => cases t; exact ⟨_, rfl, h⟩
theorem two_rep {P : D → V → Prop} {d e : D} {xs : List V} (h : Paired P [d, e] xs) : ∃ v u, xs = [v, u] ∧ P d v ∧ P e u := by
  cases h with
  | cons h t => cases t with
    | cons h2 t => cases t; exact ⟨_, _, rfl, h, h2⟩
theorem bls_rep {C : KM} {a : Wd} {r : Nat} {p : List Nat} : ∀ {l : List D} {n : Nat} {vs : List V} {bs : List Bool}, blsOf l = some bs → RepL C a r p n vs l → vs = bs.map V.bl
  | [], n, vs, bs, h, q => by simp only [RepL] at q; subst q; cases h; rfl
  | d :: l, n, vs, bs, h, q => by
    simp only [RepL] at q
    obtain ⟨v, us, rfl, q1, q2⟩ := q
    cases d <;> simp only [blsOf] at h <;> (try (cases h; done))
    case bl b =>
      cases hl : blsOf l with
      | none => rw [hl] at h; cases h
      | some cs =>
        rw [hl] at h
        cases h
        rw [rep_bl q1, bls_rep hl q2]; rfl
theorem ints_rep {C : KM} {a : Wd} {r : Nat} {p : List Nat} : ∀ {l : List D} {n : Nat} {vs : List V} {bs : List Int}, intsOf l = some bs → RepL C a r p n vs l → vs = bs.map V.int
  | [], n, vs, bs, h, q => by simp only [RepL] at q; subst q; cases h; rfl
  | d :: l, n, vs, bs, h, q => by
    simp only [RepL] at q
    obtain ⟨v, us, rfl, q1, q2⟩ := q
    cases d <;> simp only [intsOf] at h <;> (try (cases h; done))
    case int b =>
      cases hl : intsOf l with
      | none => rw [hl] at h; cases h
      | some cs =>
        rw [hl] at h
        cases h
        rw [rep_int q1, ints_rep hl q2]; rfl
section
variable {X : Cx} {C : KM} (hC : C.K = X.K)
include hC
theorem call_lenDD : CallR X (.builtin "len") (cD C lenD) := by
  intro pins s σ H xs us Q I r h
  obtain ⟨a, ds, d, rfl, k, ps, hd, q⟩ := h
  match ds, hd with
  | [d1], hd =>
    obtain ⟨v, rfl, r1, p1⟩ := one_rep ps
    cases d1 <;> simp only [lenD] at hd <;> (try (cases hd; done))
    case str z =>
      split at hd
      · rename_i hz; cases hd; cases rep_str p1
        exact call_len pins s σ a.H _ us Q I r ⟨_, _, rfl, ⟨hz, rfl⟩, q _ a (Grow.refl a) k (by simp [Rep])⟩
      · cases hd
    case lst o l =>
      cases hd
      obtain ⟨x1, vs, rfl, h1, h2⟩ := rep_lst k p1
      exact call_len pins s σ a.H _ us Q I r ⟨_, _, rfl, .inl ⟨vs, SqL.of h1, rfl⟩, q _ a (Grow.refl a) k (by simp [Rep, h2.len])⟩
    case tup l =>
      cases hd
      obtain ⟨x1, vs, rfl, h1, h2⟩ := rep_tup k p1
      rw [hC] at h1
      exact call_len pins s σ a.H _ us Q I r ⟨_, _, rfl, .inr ⟨vs, h1, rfl⟩, q _ a (Grow.refl a) k (by simp [Rep, h2.len])⟩
    case scr l =>
      cases hd
      obtain ⟨x1, rfl, h1⟩ := rep_scr k p1
      rw [hC] at h1
      exact call_len pins s σ a.H _ us Q I r ⟨_, _, rfl, .inl ⟨_, h1, rfl⟩, q _ a (Grow.refl a) k (by simp [Rep])⟩
    case dic o ks ws =>
      cases hd
      obtain ⟨x1, ho, kv, vs, rfl, h1, dc, f, hk1, hk2⟩ := rep_dic k p1
      cases dc with
      | dk kvs =>
        have hl : kvs.length = ks.length := by have := hk1.len; simpa using this
        exact call_lenD pins s σ a.H _ us Q I r ⟨x1, kvs, rfl, h1, q _ a (Grow.refl a) k (by simp [Rep, hl])⟩
  | [], hd => simp [lenD] at hd
  | _ :: _ :: _, hd => simp [lenD] at hd
omit hC in
theorem call_absD : CallR X (.builtin "abs") (cD C absD) := by
  intro pins s σ H xs us Q I r h
  obtain ⟨a, ds, d, rfl, k, ps, hd, q⟩ := h
  match ds, hd with
  | [.int i], hd =>
    obtain ⟨v, rfl, r1, p1⟩ := one_rep ps
    simp only [absD] at hd
    cases hd; cases rep_int p1
    exact call_abs pins s σ a.H _ us Q I r ⟨i, rfl, q _ a (Grow.refl a) k (by simp [Rep])⟩
omit hC in
theorem call_intD : CallR X (.type "int") (cD C intD) := by
  intro pins s σ H xs us Q I r h
  obtain ⟨a, ds, d, rfl, k, ps, hd, q⟩ := h
  match ds, hd with
  | [.int i], hd =>
    obtain ⟨v, rfl, r1, p1⟩ := one_rep ps
    simp only [intD] at hd
    cases hd; cases rep_int p1
    exact call_int1 pins s σ a.H _ us Q I r (.inl ⟨i, rfl, q _ a (Grow.refl a) k (by simp [Rep])⟩)
  | [.bl i], hd =>
    obtain ⟨v, rfl, r1, p1⟩ := one_rep ps
    simp only [intD] at hd
    cases hd; cases rep_bl p1
    exact call_int1 pins s σ a.H _ us Q I r (.inr ⟨i, rfl, q _ a (Grow.refl a) k (by simp [Rep])⟩)
omit hC in
theorem call_minD (hc : X.calm = true) : CallR X (.builtin "min") (cD C minD) := by
  intro pins s σ H xs us Q I r h
  obtain ⟨a, ds, d, rfl, k, ps, hd, q⟩ := h
  match ds, hd with
  | [.int i, .int j], hd =>
    obtain ⟨v, w, rfl, ⟨_, p1⟩, ⟨_, p2⟩⟩ := two_rep ps
    simp only [minD] at hd
    cases hd; cases rep_int p1; cases rep_int p2
    exact call_min2 hc pins s σ a.H _ us Q I r ⟨i, j, rfl, q _ a (Grow.refl a) k (by simp [Rep])⟩
omit hC in
theorem call_maxD (hc : X.calm = true) : CallR X (.builtin "max") (cD C maxD) := by
  intro pins s σ H xs us Q I r h
  obtain ⟨a, ds, d, rfl, k, ps, hd, q⟩ := h
  match ds, hd with
  | [.int i, .int j], hd =>
    obtain ⟨v, w, rfl, ⟨_, p1⟩, ⟨_, p2⟩⟩ := two_rep ps
    simp only [maxD] at hd
    cases hd; cases rep_int p1; cases rep_int p2
    exact call_max2 hc pins s σ a.H _ us Q I r ⟨i, j, rfl, q _ a (Grow.refl a) k (by simp [Rep])⟩
omit hC in
theorem call_strD : CallR X (.type "str") (cD C strD) := by
  intro pins s σ H xs us Q I r h
  obtain ⟨a, ds, d, rfl, k, ps, hd, q⟩ := h
  match ds, hd with
  | [.int i], hd =>
    obtain ⟨v, rfl, r1, p1⟩ := one_rep ps
    simp only [strD] at hd
    split at hd
    · rename_i hz; cases hd; cases rep_int p1
      exact call_str_int pins s σ a.H _ us Q I r ⟨i, rfl, hz, q _ a (Grow.refl a) k (by simp [Rep])⟩
    · cases hd
theorem call_listD : CallR X (.type "list") (cD C listD) := by
  intro pins s σ H xs us Q I r h
  obtain ⟨a, ds, d, rfl, k, ps, hd, q⟩ := h
  match ds, hd with
  | [.lst o l], hd =>
    obtain ⟨v, rfl, r1, p1⟩ := one_rep ps
    simp only [listD] at hd
    split at hd
    · rename_i hz; cases hd
      obtain ⟨x1, vs, rfl, h1, h2⟩ := rep_lst k p1
      exact call_list_of pins s σ a.H _ us Q I r ⟨x1, vs, rfl, .inl (SqL.of h1), new_lst k hz h2 q⟩
    · cases hd
  | [.tup l], hd =>
    obtain ⟨v, rfl, r1, p1⟩ := one_rep ps
    simp only [listD] at hd
    split at hd
    · rename_i hz; cases hd
      obtain ⟨x1, vs, rfl, h1, h2⟩ := rep_tup k p1
      rw [hC] at h1
      exact call_list_of pins s σ a.H _ us Q I r ⟨x1, vs, rfl, .inr h1, new_lst k hz h2 q⟩
    · cases hd
  | [.scr l], hd =>
    obtain ⟨v, rfl, r1, p1⟩ := one_rep ps
    simp only [listD] at hd
    cases hd
    obtain ⟨x1, rfl, h1⟩ := rep_scr k p1
    rw [hC] at h1
    exact call_list_of pins s σ a.H _ us Q I r ⟨x1, _, rfl, .inl h1, new_lst k (fzL_ints _) (repL_ints (r := 0) (p := []) _ 0) q⟩
theorem call_tupleD : CallR X (.type "tuple") (cD C tupleD) := by
  intro pins s σ H xs us Q I r h
  obtain ⟨a, ds, d, rfl, k, ps, hd, q⟩ := h
  match ds, hd with
  | [.lst o l], hd =>
    obtain ⟨v, rfl, r1, p1⟩ := one_rep ps
    simp only [tupleD] at hd
    split at hd
    · rename_i hz; cases hd
      obtain ⟨x1, vs, rfl, h1, h2⟩ := rep_lst k p1
      exact call_tupleX pins s σ a.H _ us Q I r ⟨x1, vs, rfl, SqL.of h1, new_tup k hz h2 q⟩
    · cases hd
  | [.tup l], hd =>
    obtain ⟨v, rfl, r1, p1⟩ := one_rep ps
    simp only [tupleD] at hd
    split at hd
    · rename_i hz; cases hd
      have p0 := p1.step (s := 0) (q := []) k (Step.refl a) (show fz (.tup l) = true by simpa [fz] using hz)
      obtain ⟨x1, vs, rfl, h1, h2⟩ := rep_tup k p1
      rw [hC] at h1
      exact call_tuple_of pins s σ a.H _ us Q I r ⟨x1, vs, rfl, .inr ⟨h1, q _ a (Grow.refl a) k p0⟩⟩
    · cases hd
omit hC in
theorem call_allD (hc : X.calm = true) : CallR X (.builtin "all") (cD C allD) := by
  intro pins s σ H xs us Q I r h
  obtain ⟨a, ds, d, rfl, k, ps, hd, q⟩ := h
  match ds, hd with
  | [.lst o l], hd =>
    obtain ⟨v, rfl, r1, p1⟩ := one_rep ps
    simp only [allD] at hd
    cases hb : blsOf l with
    | none => rw [hb] at hd; cases hd
    | some bs =>
      rw [hb] at hd; cases hd
      obtain ⟨x1, vs, rfl, h1, h2⟩ := rep_lst k p1
      have e := bls_rep hb h2
      subst e
      exact cr_all hc pins s σ a.H _ us Q I r ⟨x1, bs, rfl, SqL.of h1, q _ a (Grow.refl a) k (by simp [Rep])⟩
omit hC in
theorem call_anyD (hc : X.calm = true) : CallR X (.builtin "any") (cD C anyD) := by
  intro pins s σ H xs us Q I r h
  obtain ⟨a, ds, d, rfl, k, ps, hd, q⟩ := h
  match ds, hd with
  | [.lst o l], hd =>
    obtain ⟨v, rfl, r1, p1⟩ := one_rep ps
    simp only [anyD] at hd
    cases hb : blsOf l with
    | none => rw [hb] at hd; cases hd
    | some bs =>
      rw [hb] at hd; cases hd
      obtain ⟨x1, vs, rfl, h1, h2⟩ := rep_lst k p1
      have e := bls_rep hb h2
      subst e
      exact cr_any hc pins s σ a.H _ us Q I r ⟨x1, bs, rfl, SqL.of h1, q _ a (Grow.refl a) k (by simp [Rep])⟩
omit hC in
theorem call_sumD (hc : X.calm = true) : CallR X (.builtin "sum") (cD C sumD) := by
  intro pins s σ H xs us Q I r h
  obtain ⟨a, ds, d, rfl, k, ps, hd, q⟩ := h
  match ds, hd with
  | [.lst o l], hd =>
    obtain ⟨v, rfl, r1, p1⟩ := one_rep ps
    simp only [sumD] at hd
    cases hb : intsOf l with
    | none => rw [hb] at hd; cases hd
    | some bs =>
      rw [hb] at hd; cases hd
      obtain ⟨x1, vs, rfl, h1, h2⟩ := rep_lst k p1
      have e := ints_rep hb h2
      subst e
      exact cr_sum hc pins s σ a.H _ us Q I r ⟨x1, bs, rfl, SqL.of h1, q _ a (Grow.refl a) k (by simp [Rep])⟩
end
end Mi
namespace Mi
open PySem PySem.Spec PyProof.Rows L2

/-! ### statements' ends -/
inductive FlowD where
  | next | ret (d : D) | brk | cont
section
variable (G : Gm) (W : WX)
def PostS (D : Ends) (a : Wd) (r : Res (FlowD × EnvD)) : Prop :=
  match r with
  | .ok (.next, e) => ∀ b σ, Step a b → RelE G b σ e → D.nx σ b.H
  | .ok (.brk, e) => ∀ b σ, Step a b → RelE G b σ e → D.bk σ b.H
  | .ok (.cont, e) => ∀ b σ, Step a b → RelE G b σ e → D.ct σ b.H
  | .ok (.ret d, e) => ∀ b σ v, Step a b → RelE G b σ e → Rep G.C b 0 [] v d → D.rt v b.H
  | .exc x e => ∀ b σ cls dd, Step a b → RelE G b σ e → ExcRep G.C b x cls dd → W cls dd σ b.H
  | .bad => False
def tS (m : EM FlowD) : TS := fun D σ H => ∃ a env, a.H = H ∧ RelE G a σ env ∧ PostS G W D a (m env)
end
section
variable {G : Gm} {W : WX} {D : Ends} {a b : Wd} {σ : L2.St} {env : EnvD}
theorem PostS.step {r : Res (FlowD × EnvD)} (st : Step a b) (h : PostS G W D a r) : PostS G W D b r := by
  match r, h with
  | .ok (.next, e), h => exact fun c σ s => h c σ (st.trans s)
  | .ok (.brk, e), h => exact fun c σ s => h c σ (st.trans s)
  | .ok (.cont, e), h => exact fun c σ s => h c σ (st.trans s)
  | .ok (.ret d, e), h => exact fun c σ v s => h c σ v (st.trans s)
  | .exc x e, h => exact fun c σ cls dd s => h c σ cls dd (st.trans s)
  | .bad, h => exact h
/- an expression ahead of the rest of a statement -/
theorem PostS.ahead {α : Type} {m : Res (α × EnvD)} {k : α × EnvD → Res (FlowD × EnvD)} (h : PostS G W D a (m.bind k)) : PostR G W σ a m fun x e b => PostS G W D b (k (x, e)) := by
  cases m with
  | ok x => exact fun c s _ => PostS.step s h
  | exc x e => exact fun c cls dd s r q => h c σ cls dd s r q
  | bad => exact h
theorem tE_ofS {m : EM Mi.D} {k : Mi.D × EnvD → Res (FlowD × EnvD)} {R : VK} (rel : RelE G a σ env) (h : PostS G W D a ((m env).bind k))
    (hq : ∀ x e b v, Step a b → RelE G b σ e → Rep G.C b 0 [] v x → PostS G W D b (k (x, e)) → R v b.H) : tE G W m σ a.H R :=
  ⟨a, env, rfl, rel, h.ahead.imp fun x e b s r p v q => hq x e b v s r q p⟩
theorem tArg_ofS {m : EM Arg} {k : Arg × EnvD → Res (FlowD × EnvD)} {R : VK} (rel : RelE G a σ env) (h : PostS G W D a ((m env).bind k))
    (hq : ∀ x e b v, Step a b → RelE G b σ e → ArgRep G.C b σ x v → PostS G W D b (k (x, e)) → R v b.H) : tArg G W m σ a.H R :=
  ⟨a, env, rfl, rel, h.ahead.imp fun x e b s r p v q => hq x e b v s r q p⟩
theorem tArgs_ofS {m : EM (List Arg)} {k : List Arg × EnvD → Res (FlowD × EnvD)} {R : List V → Hp → Prop} (rel : RelE G a σ env) (h : PostS G W D a ((m env).bind k))
    (hq : ∀ x e b v, Step a b → RelE G b σ e → Paired (ArgRep G.C b σ) x v → PostS G W D b (k (x, e)) → R v b.H) : tArgs G W m σ a.H R :=
  ⟨a, env, rfl, rel, h.ahead.imp fun x e b s r p v q => hq x e b v s r q p⟩
theorem tT_ofS {m : EM Bool} {k : Bool × EnvD → Res (FlowD × EnvD)} {R : Bool → Hp → Prop} (rel : RelE G a σ env) (h : PostS G W D a ((m env).bind k))
    (hq : ∀ x e b, Step a b → RelE G b σ e → PostS G W D b (k (x, e)) → R x b.H) : tT G W m σ a.H R :=
  ⟨a, env, rfl, rel, h.ahead.imp fun x e b s r p => hq x e b s r p⟩
end
/- frozen data put into a slot -/
theorem RelE.setz {G : Gm} {a : Wd} {σ : L2.St} {env : EnvD} (r : RelE G a σ env) {i : Nat} {d : D} {v : V} {s : Nat} {p : List Nat} (hi : i ∉ G.io) (z : fz d = true) (h : Rep G.C a s p v d) : RelE G a (σ.set i (some v)) (env.set i (some d)) := by
  refine ⟨r.ok, by rw [List.length_set, List.length_set]; exact r.len, fun j e hj => ?_, fun j hj w hw => ?_⟩
  · by_cases ij : i = j
    · subst ij
      have hi : i < env.length := by
        by_cases q : i < env.length
        · exact q
        · rw [List.getElem?_eq_none (by rw [List.length_set]; omega)] at hj; cases hj
      rw [List.getElem?_set_self hi] at hj
      cases hj
      exact ⟨v, List.getElem?_set_self (by rw [← r.len]; exact hi), h.step r.ok (Step.refl a) z⟩
    · rw [List.getElem?_set_ne ij] at hj
      obtain ⟨v', e', q⟩ := r.slot j e hj
      exact ⟨v', by rw [List.getElem?_set_ne ij]; exact e', q⟩
  · have ne : i ≠ j := by rintro rfl; exact hi hj
    rw [List.getElem?_set_ne ne]
    exact r.prm j hj w hw
/- a temp put into a slot -/
theorem RelE.sett {G : Gm} {a : Wd} {σ : L2.St} {env : EnvD} (r : RelE G a σ env) {i : Nat} {d : D} {v : V} (hi : i ∉ G.io) (h : Rep G.C a 0 [] v d) : RelE G (mvW a 0 (i + 1)) (σ.set i (some v)) (env.set i (some d)) := by
  refine ⟨mvW_ok r.ok, by rw [List.length_set, List.length_set]; exact r.len, fun j e hj => ?_, fun j hj w hw => ?_⟩
  · by_cases ij : i = j
    · subst ij
      have hi : i < env.length := by
        by_cases q : i < env.length
        · exact q
        · rw [List.getElem?_eq_none (by rw [List.length_set]; omega)] at hj; cases hj
      rw [List.getElem?_set_self hi] at hj
      cases hj
      exact ⟨v, List.getElem?_set_self (by rw [← r.len]; exact hi), mvW_rep h⟩
    · rw [List.getElem?_set_ne ij] at hj
      obtain ⟨v', e', q⟩ := r.slot j e hj
      exact ⟨v', by rw [List.getElem?_set_ne ij]; exact e', mvW_else (Nat.succ_ne_zero j) q⟩
  · have ne : i ≠ j := by rintro rfl; exact hi hj
    rw [List.getElem?_set_ne ne]
    exact r.prm j hj w hw

/-! ### targets -/
inductive Tgt where
  | nm (i : Nat) | tp (ts : List Tgt)
mutual
def mTg : Tgt → D → EnvD → Option EnvD
  | .nm i, d, e => some (e.set i (some d))
  | .tp ts, .tup l, e => mTgs ts l e
  | .tp _, _, _ => none
def mTgs : List Tgt → List D → EnvD → Option EnvD
  | [], [], e => some e
  | t :: ts, d :: ds, e => match mTg t d e with
    | some e1 => mTgs ts ds e1
    | none => none
  | _, _, _ => none
end
mutual
def Tgt.off (io : List Nat) : Tgt → Prop
  | .nm i => i ∉ io
  | .tp ts => Tgt.offs io ts
def Tgt.offs (io : List Nat) : List Tgt → Prop
  | [] => True
  | t :: ts => Tgt.off io t ∧ Tgt.offs io ts
end
mutual
def gT (K : PySem.W.Frag) : Tgt → TG
  | .nm i => gName i
  | .tp ts => gTup K ts.length (gTs K ts)
def gTs (K : PySem.W.Frag) : List Tgt → TGs
  | [] => gNil
  | t :: ts => gCons (gT K t) (gTs K ts)
end
mutual
theorem tg_w {G : Gm} {a : Wd} : ∀ (t : Tgt) {σ : L2.St} {env env' : EnvD} {d : D} {v : V} {s : Nat} {p : List Nat} {Q : L2.St → Hp → Prop}, Tgt.off G.io t → RelE G a σ env → fz d = true → Rep G.C a s p v d → mTg t d env = some env' →
    (∀ σ', RelE G a σ' env' → Q σ' a.H) → gT G.C.K t v σ a.H Q
  | .nm i, σ, env, env', d, v, s, p, Q, hf, rel, z, h, e, q => by
    simp only [mTg] at e
    cases e
    simp only [gT]
    simp only [Tgt.off] at hf
    exact q _ (rel.setz hf z h)
  | .tp ts, σ, env, env', d, v, s, p, Q, hf, rel, z, h, e, q => by
    cases d <;> simp only [mTg] at e <;> (try (cases e; done))
    case tup l =>
      obtain ⟨x, vs, rfl, h1, h2⟩ := rep_tup rel.ok h
      simp only [gT]
      have z : fzL l = true := by simpa [fz] using z
      simp only [Tgt.off] at hf
      refine ⟨x, vs, rfl, h1, ?_, tgs_w ts hf rel z h2 e q⟩
      rw [h2.len]; exact (tgs_len ts l env env' e).symm
theorem tgs_w {G : Gm} {a : Wd} : ∀ (ts : List Tgt) {σ : L2.St} {env env' : EnvD} {l : List D} {vs : List V} {s n : Nat} {p : List Nat} {Q : L2.St → Hp → Prop}, Tgt.offs G.io ts → RelE G a σ env → fzL l = true → RepL G.C a s p n vs l → mTgs ts l env = some env' →
    (∀ σ', RelE G a σ' env' → Q σ' a.H) → gTs G.C.K ts vs σ a.H Q
  | [], σ, env, env', l, vs, s, n, p, Q, hf, rel, z, h, e, q => by
    cases l with
    | nil =>
      simp only [mTgs] at e
      cases e
      simp only [RepL] at h
      simp only [gTs]
      exact ⟨h, q σ rel⟩
    | cons d l => simp [mTgs] at e
  | t :: ts, σ, env, env', l, vs, s, n, p, Q, hf, rel, z, h, e, q => by
    cases l with
    | nil => simp [mTgs] at e
    | cons d l =>
      simp only [mTgs] at e
      simp only [fzL, Bool.and_eq_true] at z
      simp only [RepL] at h
      simp only [Tgt.offs] at hf
      obtain ⟨v, us, rfl, h1, h2⟩ := h
      cases e1 : mTg t d env with
      | none => rw [e1] at e; cases e
      | some e2 =>
        rw [e1] at e
        simp only [gTs]
        exact ⟨v, us, rfl, tg_w t hf.1 rel z.1 h1 e1 fun σ' rel' => tgs_w ts hf.2 rel' z.2 h2 e q⟩
theorem tgs_len : ∀ (ts : List Tgt) (l : List D) (e e' : EnvD), mTgs ts l e = some e' → ts.length = l.length
  | [], [], _, _, _ => rfl
  | [], _ :: _, _, _, h => by simp [mTgs] at h
  | _ :: _, [], _, _, h => by simp [mTgs] at h
  | t :: ts, d :: l, e, e', h => by
    simp only [mTgs] at h
    cases e1 : mTg t d e with
    | none => rw [e1] at h; cases h
    | some e2 => rw [e1] at h; rw [List.length_cons, List.length_cons, tgs_len ts l e2 e' h]
end

/-! ### what is walked -/
/- turn by turn the items ds -/
def ItRep (C : KM) (a : Wd) (ds : List D) (J : It) : Prop := ∀ c, Ok c → Step a c → (∀ i d, ds[i]? = some d → J.go i c.H ∧ ∀ x H', J.yld i c.H x H' → ∃ c', c'.H = H' ∧ Grow c c' ∧ Ok c' ∧ Rep C c' 0 [] x d) ∧ J.stop ds.length c.H
section
variable (G : Gm) (W : WX)
def tI (m : EM (List D)) : TI := fun σ H R => ∃ a env, a.H = H ∧ RelE G a σ env ∧ PostR G W σ a (m env) fun ds _ b => fzL ds = true ∧ ∀ J, ItRep G.C b ds J → R J b.H
end
theorem PI.weak {X : Cx} {tg e : Expr} {t u : TI} (h : PI X tg e t) (w : ∀ σ H R, u σ H R → t σ H R) : PI X tg e u := ⟨fun pins s σ H R I q => h.run pins s σ H R I (w σ H R q)⟩
/- range(..), of its bounds -/
def rngD (lo : Int) (n : Nat) : List D := (List.range n).map fun (i : Nat) => .int (lo + (i : Int))
def mIt (ma : EM (List Arg)) (f : List D → Option (List D)) : EM (List D) := fun env => (ma env).bind fun (xs, e) => match Arg.gets e xs with
  | some ds => match f ds with
    | some l => .ok (l, e)
    | none => .bad
  | none => .bad
def rng1 : List D → Option (List D)
  | [.int n] => if n < 2 ^ 62 ∧ -(2 ^ 62) ≤ n then some (rngD 0 n.toNat) else none
  | _ => none
def rng2 : List D → Option (List D)
  | [.int i, .int j] => if -(2 ^ 62) ≤ i ∧ i < 2 ^ 62 ∧ -(2 ^ 62) ≤ j ∧ j < 2 ^ 62 then some (rngD i (j - i).toNat) else none
  | _ => none
/- a list, a tuple, a text, frozen -/
def seqI : List D → Option (List D)
  | [.lst false l] => if fzL l then some l else none
  | [.tup l] => if fzL l then some l else none
  | [.scr l] => some (l.map .int)
  | [.str s] => some (s.cps.toList.map fun c => .str ⟨#[c]⟩)
  | _ => none
theorem fzL_map {α : Type} (f : α → D) (h : ∀ x, fz (f x) = true) (l : List α) : fzL (l.map f) = true := fzL_all fun d hd => by
  obtain ⟨x, _, rfl⟩ := List.mem_map.mp hd
  exact h x
theorem it_rng {C : KM} {a : Wd} (lo : Int) (n : Nat) : ItRep C a (rngD lo n) (Itr lo n) := fun c ok st => by
  refine ⟨fun i d e => ?_, by simp [rngD, Itr]⟩
  have hi : i < n := by have := (List.getElem?_eq_some_iff.mp e).1; simpa [rngD] using this
  refine ⟨hi, fun x H' y => ?_⟩
  obtain ⟨rfl, rfl⟩ := y
  have e2 : d = .int (lo + (i : Int)) := by
    rw [rngD, List.getElem?_map, List.getElem?_range hi] at e
    exact (Option.some.inj e).symm
  subst e2
  exact ⟨c, rfl, Grow.refl c, ok, by simp [Rep]⟩
theorem it_lst {C : KM} {a : Wd} {l : List D} {x : Addr} {vs : List V} {r n : Nat} {p : List Nat} (k : Ok a) (z : fzL l = true) (hx : a.F x = some (.lst vs)) (h : RepL C a r p n vs l) : ItRep C a l (Itl C.K x) := fun c ok st => by
  have hc : SqL C.K c.H x vs := SqL.of (ok.sub _ _ (st.f k hx))
  refine ⟨fun i d e => ?_, ⟨vs, hc, by rw [h.len]; exact Nat.le_refl _⟩⟩
  obtain ⟨v, h1, h2⟩ := h.get e
  refine ⟨⟨vs, v, hc, h1⟩, fun y H' q => ?_⟩
  obtain ⟨rfl, q⟩ := q
  have e2 := q vs hc
  rw [h1] at e2; cases e2
  exact ⟨c, rfl, Grow.refl c, ok, h2.step k st (fzL_mem z d (List.mem_of_getElem? e))⟩
theorem it_scr {C : KM} {a : Wd} {l : List Int} {x : Addr} (k : Ok a) (hx : SqL C.K a.F x (l.map V.int)) : ItRep C a (l.map .int) (Itl C.K x) := fun c ok st => by
  have hc : SqL C.K c.H x (l.map V.int) := sql_mono (fun y o h => ok.sub _ _ (st.f k h)) hx
  refine ⟨fun i d e => ?_, ⟨_, hc, by simp⟩⟩
  rw [List.getElem?_map] at e
  cases h1 : l[i]? with
  | none => rw [h1] at e; cases e
  | some z =>
    rw [h1] at e; cases e
    have h2 : (l.map V.int)[i]? = some (.int z) := by rw [List.getElem?_map, h1]; rfl
    refine ⟨⟨_, _, hc, h2⟩, fun y H' q => ?_⟩
    obtain ⟨rfl, q⟩ := q
    have e2 := q _ hc
    rw [h2] at e2; cases e2
    exact ⟨c, rfl, Grow.refl c, ok, by simp [Rep]⟩
theorem it_tup {C : KM} {a : Wd} {l : List D} {x : Addr} {vs : List V} {r n : Nat} {p : List Nat} (k : Ok a) (z : fzL l = true) (hx : SqT C.K a.F x vs) (h : RepL C a r p n vs l) : ItRep C a l (Itt C.K x) := fun c ok st => by
  have hc : SqT C.K c.H x vs := sqt_mono (fun y o h => ok.sub _ _ (st.f k h)) hx
  refine ⟨fun i d e => ?_, ⟨vs, hc, by rw [h.len]; exact Nat.le_refl _⟩⟩
  obtain ⟨v, h1, h2⟩ := h.get e
  refine ⟨⟨vs, v, hc, h1⟩, fun y H' q => ?_⟩
  obtain ⟨rfl, q⟩ := q
  have e2 := q vs hc
  rw [h1] at e2; cases e2
  exact ⟨c, rfl, Grow.refl c, ok, h2.step k st (fzL_mem z d (List.mem_of_getElem? e))⟩
theorem it_str {C : KM} {a : Wd} (s : Str) : ItRep C a (s.cps.toList.map fun c => .str ⟨#[c]⟩) (Its s) := fun c ok st => by
  refine ⟨fun i d e => ?_, by simp [Its]⟩
  rw [List.getElem?_map] at e
  cases h1 : s.cps.toList[i]? with
  | none => rw [h1] at e; cases e
  | some z =>
    rw [h1] at e; cases e
    have h2 : s.cps[i]? = some z := by simpa using h1
    refine ⟨(Array.getElem?_eq_some_iff.mp h2).1, fun y H' q => ?_⟩
    obtain ⟨rfl, c', q, rfl⟩ := q
    rw [h2] at q; cases q
    exact ⟨c, rfl, Grow.refl c, ok, by simp [Rep]⟩
section
variable {G : Gm} {W : WX} {σ : L2.St} {H : Hp} {R : It → Hp → Prop} {ma : EM (List Arg)}
theorem it_of {f : List D → Option (List D)} {S : List V → Hp → Prop} (h : tI G W (mIt ma f) σ H R)
    (hq : ∀ b ds vs l, Ok b → Paired (fun d v => ∃ r, Rep G.C b r [] v d) ds vs → f ds = some l → (∀ J, ItRep G.C b l J → R J b.H) → S vs b.H) : tArgs G W ma σ H S := by
  obtain ⟨a, env, rfl, rel, post⟩ := h
  refine ⟨a, env, rfl, rel, post.bind.imp fun xs e b s r p vs q => ?_⟩
  dsimp only at p
  cases hx : Arg.gets e xs with
  | none => rw [hx] at p; exact (show False from p).elim
  | some ds =>
    rw [hx] at p
    dsimp only at p
    cases hf : f ds with
    | none => rw [hf] at p; exact (show False from p).elim
    | some l =>
      rw [hf] at p
      exact hq b ds vs l r.ok (gets_rep r q hx) hf (p b (Step.refl b) r).2
theorem rng1_w (h : tI G W (mIt ma rng1) σ H R) : iRng1 (tArgs G W ma) σ H R := it_of h fun b ds vs l ok ps hf q => by
  match ds, hf with
  | [.int n], hf =>
    obtain ⟨v, rfl, r1, p1⟩ := one_rep ps
    cases rep_int p1
    simp only [rng1] at hf
    split at hf
    · rename_i hz; cases hf
      exact ⟨n, rfl, hz.2, hz.1, q _ (it_rng 0 n.toNat)⟩
    · cases hf
theorem rng2_w (h : tI G W (mIt ma rng2) σ H R) : iRng2 (tArgs G W ma) σ H R := it_of h fun b ds vs l ok ps hf q => by
  match ds, hf with
  | [.int n, .int m], hf =>
    obtain ⟨v, w, rfl, ⟨r1, p1⟩, ⟨r2, p2⟩⟩ := two_rep ps
    cases rep_int p1; cases rep_int p2
    simp only [rng2] at hf
    split at hf
    · rename_i hz; cases hf
      exact ⟨n, m, rfl, hz, q _ (it_rng n (m - n).toNat)⟩
    · cases hf
end
/- one value walked: list, tuple, text -/
def mIt1 (ma : EM Arg) : EM (List D) := fun env => (ma env).bind fun (x, e) => match x.get e with
  | some d => match seqI [d] with
    | some l => .ok (l, e)
    | none => .bad
  | none => .bad
theorem pi_or {X : Cx} {tg e : Expr} {t u : TI} (h : PI X tg e t) (g : PI X tg e u) : PI X tg e (fun σ H R => t σ H R ∨ u σ H R) := ⟨fun pins s σ H R I q => by
  rcases q with q | q
  · exact h.run pins s σ H R I q
  · exact g.run pins s σ H R I q⟩
theorem pe_or2 {X : Cx} {e : Expr} {t u : TE} (h : PE X e t) (g : PE X e u) : PE X e (fun σ H R => t σ H R ∨ u σ H R) := ⟨fun pins s σ H R I q => by
  rcases q with q | q
  · exact h.run pins s σ H R I q
  · exact g.run pins s σ H R I q⟩
theorem it1_w {G : Gm} {W : WX} {σ : L2.St} {H : Hp} {R : It → Hp → Prop} {ma : EM Arg} (h : tI G W (mIt1 ma) σ H R) :
    iList G.C.K (tArg G W ma) σ H R ∨ (iTup G.C.K (tArg G W ma) σ H R ∨ iStr (tArg G W ma) σ H R) := by
  obtain ⟨a, env, rfl, rel, post⟩ := h
  cases hm : ma env with
  | bad => unfold mIt1 at post; rw [hm] at post; exact (show False from post).elim
  | exc x e =>
    refine .inl ⟨a, env, rfl, rel, ?_⟩
    rw [hm]
    have post' := post
    unfold mIt1 at post'
    rw [hm] at post'
    exact post'
  | ok xe =>
    obtain ⟨x, e⟩ := xe
    have post' := post
    unfold mIt1 at post'
    rw [hm] at post'
    dsimp only [Res.bind] at post'
    cases hx : x.get e with
    | none => rw [hx] at post'; exact (show False from post').elim
    | some d =>
      rw [hx] at post'
      dsimp only at post'
      have mk : ∀ {S : VK}, (∀ b v, Step a b → RelE G b σ e → ArgRep G.C b σ x v → S v b.H) → tArg G W ma σ a.H S := fun {S} q => ⟨a, env, rfl, rel, by rw [hm]; exact fun b s r v ar => q b v s r ar⟩
      cases d <;> simp only [seqI] at post' <;> (try exact (show False from post').elim)
      case str z =>
        refine .inr (.inr (mk fun b v s r ar => ?_))
        obtain ⟨r1, p1⟩ := ar.rep r hx
        cases rep_str p1
        exact ⟨z, rfl, (post' b s r).2 _ (it_str z)⟩
      case scr l =>
        refine .inl (mk fun b v s r ar => ?_)
        obtain ⟨r1, p1⟩ := ar.rep r hx
        have p1' := p1
        simp only [Rep] at p1'
        obtain ⟨y, rfl, hy⟩ := p1'
        exact ⟨y, rfl, ⟨_, sql_mono r.ok.sub hy⟩, (post' b s r).2 _ (it_scr r.ok hy)⟩
      case tup l =>
        split at post'
        · rename_i z hz
          split at hz
          · rename_i fl; cases hz
            refine .inr (.inl (mk fun b v s r ar => ?_))
            obtain ⟨r1, p1⟩ := ar.rep r hx
            have p1' := p1
            simp only [Rep] at p1'
            obtain ⟨y, vs, rfl, hy, hl⟩ := p1'
            exact ⟨y, rfl, ⟨_, sqt_mono r.ok.sub hy.sq⟩, (post' b s r).2 _ (it_tup r.ok fl hy.sq hl)⟩
          · cases hz
        · exact (show False from post').elim
      case lst o l =>
        cases o with
        | true => simp only [seqI] at post'; exact (show False from post').elim
        | false =>
          simp only [seqI] at post'
          split at post'
          · rename_i z hz
            split at hz
            · rename_i fl; cases hz
              refine .inl (mk fun b v s r ar => ?_)
              obtain ⟨r1, p1⟩ := ar.rep r hx
              have p1' := p1
              simp only [Rep] at p1'
              obtain ⟨y, vs, rfl, hy, hl⟩ := p1'
              rw [if_neg Bool.false_ne_true] at hy
              exact ⟨y, rfl, ⟨_, SqL.of (r.ok.sub _ _ hy.1)⟩, (post' b s r).2 _ (it_lst r.ok fl hy.1 hl)⟩
            · cases hz
          · exact (show False from post').elim
end Mi
namespace Mi
open PySem PySem.Spec PyProof.Rows L2

/-! ### displays -/
theorem paired_repL {C : KM} {a : Wd} : ∀ {ds : List D} {vs : List V} {n : Nat}, fzL ds = true → Paired (fun d v => ∃ r, Rep C a r [] v d) ds vs → RepL C a 0 [] n vs ds
  | _, _, n, _, .nil => by simp [RepL]
  | d :: ds, v :: vs, n, z, .cons h t => by
    simp only [fzL, Bool.and_eq_true] at z
    obtain ⟨r, h⟩ := h
    exact ⟨v, vs, rfl, Rep.fz (fun _ _ e => e) d _ _ v z.1 h, paired_repL z.2 t⟩
def mTup (ma : EM (List Arg)) : EM D := fun env => (ma env).bind fun (xs, e) => match Arg.gets e xs with
  | some ds => if fzL ds = true ∧ ds.length ≤ 1000 then .ok (.tup ds, e) else .bad
  | none => .bad
def mLst (ma : EM (List Arg)) : EM D := fun env => (ma env).bind fun (xs, e) => match Arg.gets e xs with
  | some ds => if fzL ds = true ∧ ds.length ≤ 1000 then .ok (.lst true ds, e) else .bad
  | none => .bad
theorem sz1000 {n : Nat} (h : n ≤ 1000) : n ≤ sizeLine := Nat.le_of_lt (small1000 h)
theorem plen {α β : Type} {P : α → β → Prop} : ∀ {l : List α} {m : List β}, Paired P l m → l.length = m.length
  | _, _, .nil => rfl
  | _, _, .cons _ t => by rw [List.length_cons, List.length_cons, plen t]
section
variable {G : Gm} {W : WX} {σ : L2.St} {H : Hp} {Q : VK} {ma : EM (List Arg)}
theorem tup_w (h : tE G W (mTup ma) σ H Q) : tTupX (tArgs G W ma) σ H Q := by
  obtain ⟨a, env, rfl, rel, post⟩ := h
  refine tArgs_of rel post fun xs e b vs s r ps p => ?_
  dsimp only at p
  cases hx : Arg.gets e xs with
  | none => rw [hx] at p; exact (show False from p).elim
  | some ds =>
    rw [hx] at p
    dsimp only at p
    split at p
    · rename_i z
      have g := gets_rep r ps hx
      refine ⟨by rw [← plen g]; exact sz1000 z.2, new_tup r.ok z.1 (paired_repL (n := 0) z.1 g) fun y c gr ok rp => p c gr.step (r.grow gr ok) y rp⟩
    · exact (show False from p).elim
theorem lst_w (h : tE G W (mLst ma) σ H Q) : tLst (tArgs G W ma) σ H Q := by
  obtain ⟨a, env, rfl, rel, post⟩ := h
  refine tArgs_of rel post fun xs e b vs s r ps p => ?_
  dsimp only at p
  cases hx : Arg.gets e xs with
  | none => rw [hx] at p; exact (show False from p).elim
  | some ds =>
    rw [hx] at p
    dsimp only at p
    split at p
    · rename_i z
      have g := gets_rep r ps hx
      refine ⟨by rw [← plen g]; exact sz1000 z.2, new_lst r.ok z.1 (paired_repL (n := 0) z.1 g) fun y c gr ok rp => p c gr.step (r.grow gr ok) y rp⟩
    · exact (show False from p).elim
/- {} -/
def mDic0 : EM D := fun env => .ok (.dic true [] [], env)
theorem dic0_w (h : tE G W mDic0 σ H Q) : tDNewK σ H Q := by
  obtain ⟨a, env, rfl, rel, post⟩ := h
  exact new_dic (kvs := []) rel.ok rfl rfl (r := 0) (p := []) (by simp [RepL]) (by simp [RepL]) fun y c gr ok rp => post c gr.step (rel.grow gr ok) y rp
end

/-! ### calls of defs -/
def OutRep (C : KM) (b : Wd) (vs : List V) (outs : EnvD) : Prop := ∀ i d, outs[i]? = some (some d) → ∃ v, vs[i]? = some v ∧ Rep C b (i + 1) [] v d
def spD (C : KM) (g : List D → Res (D × EnvD)) : Sp := fun vs H Q E => ∃ (a : Wd) (ds : List D), a.H = H ∧ Ok a ∧ ds.length = vs.length ∧ (∀ i d, ds[i]? = some d → ∃ v, vs[i]? = some v ∧ Rep C a (i + 1) [] v d) ∧
  match g ds with
  | .ok (d, outs) => ∀ b v, Step a b → Ok b → OutRep C b vs outs → Rep C b 0 [] v d → Q v b.H
  | .exc x outs => ∀ b cls dd, Step a b → Ok b → OutRep C b vs outs → ExcRep C b x cls dd → E cls dd b.H
  | .bad => False
def findP : List Arg → List D → Nat → Nat → Option Nat
  | .var i :: xs, d :: ds, s, k => if i + 1 = s ∧ fz d = false then some (k + 1) else findP xs ds s (k + 1)
  | .val _ :: xs, _ :: ds, s, k => findP xs ds s (k + 1)
  | _, _, _, _ => none
def ownVars : List Arg → List D → List Nat
  | .var i :: xs, d :: ds => if fz d = false then i :: ownVars xs ds else ownVars xs ds
  | .val _ :: xs, _ :: ds => ownVars xs ds
  | _, _ => []
def backP (xs : List Arg) (ds : List D) (k : Nat) : Option Nat := match xs[k]?, ds[k]? with
  | some (.var i), some d => if fz d = false then some (i + 1) else none
  | _, _ => none
def putBack : List Arg → List D → EnvD → EnvD → EnvD
  | .var i :: xs, d :: ds, outs, env => if fz d = true then putBack xs ds outs.tail env else putBack xs ds outs.tail (env.set i (outs.headD none))
  | .val _ :: xs, _ :: ds, outs, env => putBack xs ds outs.tail env
  | _, _, _, env => env
def mCallR (g : List D → Res (D × EnvD)) (xs : List Arg) (e : EnvD) : Res (D × EnvD) := match Arg.gets e xs with
  | none => .bad
  | some ds => if (ownVars xs ds).Nodup then
      match g ds with
      | .ok (d, outs) => .ok (d, putBack xs ds outs e)
      | .exc x outs => .exc x (putBack xs ds outs e)
      | .bad => .bad
    else .bad
def mCall (g : List D → Res (D × EnvD)) (ma : EM (List Arg)) : EM D := fun env => (ma env).bind fun (xs, e) => mCallR g xs e
theorem findP_some : ∀ {xs : List Arg} {ds : List D} {s k m : Nat}, findP xs ds s k = some m → ∃ j i d, m = k + j + 1 ∧ xs[j]? = some (.var i) ∧ ds[j]? = some d ∧ fz d = false ∧ s = i + 1
  | .var i :: xs, d :: ds, s, k, m, h => by
    simp only [findP] at h
    split at h
    · rename_i z; cases h
      exact ⟨0, i, d, rfl, rfl, rfl, z.2, z.1.symm⟩
    · obtain ⟨j, i', d', h1, h2, h3, h4, h5⟩ := findP_some h
      exact ⟨j + 1, i', d', by omega, by simpa using h2, by simpa using h3, h4, h5⟩
  | .val _ :: xs, _ :: ds, s, k, m, h => by
    simp only [findP] at h
    obtain ⟨j, i', d', h1, h2, h3, h4, h5⟩ := findP_some h
    exact ⟨j + 1, i', d', by omega, by simpa using h2, by simpa using h3, h4, h5⟩
  | [], _, s, k, m, h => by simp [findP] at h
  | .var _ :: _, [], s, k, m, h => by simp [findP] at h
  | .val _ :: _, [], s, k, m, h => by simp [findP] at h
theorem ownVars_mem : ∀ {xs : List Arg} {ds : List D} {j i : Nat} {d : D}, xs[j]? = some (.var i) → ds[j]? = some d → fz d = false → i ∈ ownVars xs ds
  | x :: xs, e :: ds, 0, i, d, h1, h2, h3 => by
    simp at h1 h2; subst h1 h2
    simp [ownVars, h3]
  | .var i' :: xs, e :: ds, j + 1, i, d, h1, h2, h3 => by
    simp only [ownVars]
    have ih := ownVars_mem (xs := xs) (ds := ds) (j := j) (by simpa using h1) (by simpa using h2) h3
    split
    · exact List.mem_cons_of_mem _ ih
    · exact ih
  | .val _ :: xs, e :: ds, j + 1, i, d, h1, h2, h3 => by
    simp only [ownVars]
    exact ownVars_mem (xs := xs) (ds := ds) (j := j) (by simpa using h1) (by simpa using h2) h3
  | [], _, j, i, d, h1, h2, h3 => by simp at h1
  | _ :: _, [], j, i, d, h1, h2, h3 => by simp at h2
theorem findP_at : ∀ {xs : List Arg} {ds : List D} {j i k : Nat} {d : D}, (ownVars xs ds).Nodup → xs[j]? = some (.var i) → ds[j]? = some d → fz d = false → findP xs ds (i + 1) k = some (k + j + 1)
  | .var i' :: xs, e :: ds, 0, i, k, d, nd, h1, h2, h3 => by
    simp at h1 h2; subst h1 h2
    simp [findP, h3]
  | .val _ :: xs, e :: ds, 0, i, k, d, nd, h1, h2, h3 => by simp at h1
  | .var i' :: xs, e :: ds, j + 1, i, k, d, nd, h1, h2, h3 => by
    simp only [findP]
    have h1 : xs[j]? = some (.var i) := by simpa using h1
    have h2 : ds[j]? = some d := by simpa using h2
    have hm := ownVars_mem h1 h2 h3
    rw [if_neg (fun z => by
      have e1 : i' = i := Nat.succ.inj z.1
      subst e1
      simp only [ownVars, if_pos z.2] at nd
      exact (List.nodup_cons.mp nd).1 hm)]
    have nd' : (ownVars xs ds).Nodup := by
      simp only [ownVars] at nd
      split at nd
      · exact (List.nodup_cons.mp nd).2
      · exact nd
    rw [findP_at (k := k + 1) nd' h1 h2 h3]
    congr 1; omega
  | .val _ :: xs, e :: ds, j + 1, i, k, d, nd, h1, h2, h3 => by
    simp only [findP]
    simp only [ownVars] at nd
    rw [findP_at (k := k + 1) nd (by simpa using h1) (by simpa using h2) h3]
    congr 1; omega
  | [], _, j, i, k, d, nd, h1, h2, h3 => by simp at h1
  | _ :: _, [], j, i, k, d, nd, h1, h2, h3 => by simp at h2
theorem putBack_len : ∀ (xs : List Arg) (ds : List D) (outs env : EnvD), (putBack xs ds outs env).length = env.length
  | .var i :: xs, d :: ds, outs, env => by
    simp only [putBack]
    split
    · exact putBack_len xs ds _ env
    · rw [putBack_len xs ds _ _, List.length_set]
  | .val _ :: xs, _ :: ds, outs, env => by simp only [putBack]; exact putBack_len xs ds _ env
  | [], _, outs, env => by simp [putBack]
  | .var _ :: _, [], outs, env => by simp [putBack]
  | .val _ :: _, [], outs, env => by simp [putBack]
theorem putBack_at : ∀ {xs : List Arg} {ds : List D} {outs env : EnvD} {j : Nat} {d' : D}, (putBack xs ds outs env)[j]? = some (some d') →
    (∃ (k : Nat) (d : D), xs[k]? = some (.var j) ∧ ds[k]? = some d ∧ fz d = false ∧ outs[k]? = some (some d')) ∨ (env[j]? = some (some d') ∧ ∀ (k : Nat) (d : D), xs[k]? = some (.var j) → ds[k]? = some d → fz d = true)
  | .var i :: xs, d :: ds, outs, env, j, d', h => by
    simp only [putBack] at h
    split at h
    · rename_i z
      rcases putBack_at h with ⟨k, e, h1, h2, h3, h4⟩ | ⟨h1, h2⟩
      · refine .inl ⟨k + 1, e, by simpa using h1, by simpa using h2, h3, ?_⟩
        cases outs with
        | nil => simp at h4
        | cons o outs => simpa using h4
      · refine .inr ⟨h1, fun k e g1 g2 => ?_⟩
        cases k with
        | zero => simp at g2; subst g2; exact z
        | succ k => exact h2 k e (by simpa using g1) (by simpa using g2)
    · rename_i z
      rcases putBack_at h with ⟨k, e, h1, h2, h3, h4⟩ | ⟨h1, h2⟩
      · refine .inl ⟨k + 1, e, by simpa using h1, by simpa using h2, h3, ?_⟩
        cases outs with
        | nil => simp at h4
        | cons o outs => simpa using h4
      · by_cases ij : i = j
        · subst ij
          by_cases hl : i < env.length
          · rw [List.getElem?_set_self hl] at h1
            refine .inl ⟨0, d, rfl, rfl, by simpa using z, ?_⟩
            cases outs with
            | nil => simp at h1
            | cons o outs => simpa using h1
          · rw [List.getElem?_eq_none (by rw [List.length_set]; omega)] at h1; cases h1
        · rw [List.getElem?_set_ne ij] at h1
          refine .inr ⟨h1, fun k e g1 g2 => ?_⟩
          cases k with
          | zero => simp at g1; exact absurd g1 ij
          | succ k => exact h2 k e (by simpa using g1) (by simpa using g2)
  | .val _ :: xs, d :: ds, outs, env, j, d', h => by
    simp only [putBack] at h
    rcases putBack_at h with ⟨k, e, h1, h2, h3, h4⟩ | ⟨h1, h2⟩
    · refine .inl ⟨k + 1, e, by simpa using h1, by simpa using h2, h3, ?_⟩
      cases outs with
      | nil => simp at h4
      | cons o outs => simpa using h4
    · refine .inr ⟨h1, fun k e g1 g2 => ?_⟩
      cases k with
      | zero => simp at g1
      | succ k => exact h2 k e (by simpa using g1) (by simpa using g2)
  | [], _, outs, env, j, d', h => .inr ⟨by simpa [putBack] using h, fun k e g1 g2 => by simp at g1⟩
  | .var _ :: _, [], outs, env, j, d', h => .inr ⟨by simpa [putBack] using h, fun k e g1 g2 => by simp at g2⟩
  | .val _ :: _, [], outs, env, j, d', h => .inr ⟨by simpa [putBack] using h, fun k e g1 g2 => by simp at g2⟩
theorem gets_at {env : EnvD} : ∀ {xs : List Arg} {ds : List D} {j : Nat} {d : D}, Arg.gets env xs = some ds → ds[j]? = some d → ∃ x, xs[j]? = some x ∧ x.get env = some d
  | [], ds, j, d, h, e => by cases h; simp at e
  | x :: xs, ds, j, d, h, e => by
    simp only [Arg.gets] at h
    cases hx : x.get env with
    | none => simp [hx] at h
    | some d1 =>
      cases hr : Arg.gets env xs with
      | none => simp [hx, hr] at h
      | some dr =>
        simp [hx, hr] at h
        subst h
        cases j with
        | zero => simp at e; subst e; exact ⟨x, rfl, hx⟩
        | succ j =>
          obtain ⟨y, h1, h2⟩ := gets_at hr (by simpa using e)
          exact ⟨y, by simpa using h1, h2⟩
theorem gets_len {env : EnvD} : ∀ {xs : List Arg} {ds : List D}, Arg.gets env xs = some ds → ds.length = xs.length
  | [], ds, h => by cases h; rfl
  | x :: xs, ds, h => by
    simp only [Arg.gets] at h
    cases hx : x.get env with
    | none => simp [hx] at h
    | some d1 =>
      cases hr : Arg.gets env xs with
      | none => simp [hx, hr] at h
      | some dr =>
        simp [hx, hr] at h
        subst h
        rw [List.length_cons, List.length_cons, gets_len hr]
theorem pat {α β : Type} {P : α → β → Prop} : ∀ {l : List α} {m : List β} {j : Nat} {x : α}, Paired P l m → l[j]? = some x → ∃ y, m[j]? = some y ∧ P x y
  | _, _, j, x, .nil, e => by simp at e
  | _, _, 0, x, .cons h t, e => by simp at e; subst e; exact ⟨_, rfl, h⟩
  | _, _, j + 1, x, .cons h t, e => by
    obtain ⟨y, h1, h2⟩ := pat (j := j) t (by simpa using e)
    exact ⟨y, by simpa using h1, h2⟩
/- the callee's world; the caller's behind it -/
def inT (xs : List Arg) (ds : List D) : Option Tag → Option Tag
  | some (s, q) => (findP xs ds s 0).map fun m => (m, q)
  | none => none
def restT (xs : List Arg) (ds : List D) : Option Tag → Option Tag
  | some (s, q) => match findP xs ds s 0 with
    | some _ => none
    | none => some (s, q)
  | none => none
def outT (xs : List Arg) (ds : List D) (old : Option Tag) : Option Tag → Option Tag
  | some (0, q) => some (0, q)
  | some (k + 1, q) => (backP xs ds k).map fun s => (s, q)
  | none => restT xs ds old
def inW (a : Wd) (xs : List Arg) (ds : List D) : Wd := ⟨a.F, a.H, fun x => inT xs ds (a.t x)⟩
def outW (a b : Wd) (xs : List Arg) (ds : List D) : Wd := ⟨b.F, b.H, fun x => outT xs ds (a.t x) (b.t x)⟩
theorem inW_t {a : Wd} {xs : List Arg} {ds : List D} {x : Addr} : (inW a xs ds).t x = inT xs ds (a.t x) := rfl
theorem outW_t {a b : Wd} {xs : List Arg} {ds : List D} {x : Addr} : (outW a b xs ds).t x = outT xs ds (a.t x) (b.t x) := rfl
section
variable {G : Gm} {a b : Wd} {σ : L2.St} {env : EnvD} {xs : List Arg} {ds : List D} {vs : List V}
theorem inW_ok (k : Ok a) : Ok (inW a xs ds) := by
  refine ⟨k.sub, fun x t h => ?_⟩
  rw [inW_t] at h
  cases e : a.t x with
  | none => rw [e] at h; cases h
  | some tt => exact k.own x _ e
theorem inW_rep (rel : RelE G a σ env) (nd : (ownVars xs ds).Nodup) (ps : Paired (ArgRep G.C a σ) xs vs) (hg : Arg.gets env xs = some ds) : ∀ i d, ds[i]? = some d → ∃ v, vs[i]? = some v ∧ Rep G.C (inW a xs ds) (i + 1) [] v d := fun i d hd => by
  obtain ⟨x, hx, hget⟩ := gets_at hg hd
  obtain ⟨v, hv, ar⟩ := pat ps hx
  refine ⟨v, hv, ?_⟩
  cases z : fz d with
  | true =>
    obtain ⟨r, rp⟩ := ar.rep rel hget
    exact Rep.fz (a := a) (b := inW a xs ds) (fun _ _ e => e) d [] [] v z rp
  | false =>
    cases x with
    | val d' => cases hget; rw [ar.1] at z; cases z
    | var j =>
      have hget : (match env[j]? with | some (some d) => some d | _ => none) = some d := hget
      split at hget
      · rename_i d' q
        cases hget
        obtain ⟨v', h1, rp⟩ := rel.slot j d q
        have ar : σ[j]? = some (some v) := ar
        rw [ar] at h1; cases h1
        have e := findP_at (k := 0) nd hx hd z
        have := Rep.to (C := G.C) (a := a) (b := inW a xs ds) (r := j + 1) (s := i + 1) (p := []) (q := []) (fun _ _ h => h) (fun y z' o h1 h2 => ⟨by
          rw [inW_t, h1]
          show (findP xs ds (j + 1) 0).map _ = _
          rw [e]; simp, h2⟩) d [] v
        exact this rp
      · cases hget
theorem outW_step (st : Step (inW a xs ds) b) (k : Ok b) : Step a (outW a b xs ds) := fun x o h t => by
  have ti : (inW a xs ds).t x = none := by rw [inW_t, t]; rfl
  obtain ⟨h1, h2, h3⟩ := st x o h ti
  refine ⟨h1, ?_, h3⟩
  rw [outW_t, h2, t]; rfl
theorem outW_ok (ka : Ok a) (st : Step (inW a xs ds) b) (k : Ok b) : Ok (outW a b xs ds) := by
  refine ⟨k.sub, fun x t h => ?_⟩
  rw [outW_t] at h
  cases e : b.t x with
  | some tt => exact k.own x tt e
  | none =>
    rw [e] at h
    cases e2 : a.t x with
    | none => rw [e2] at h; cases h
    | some sq =>
      obtain ⟨s, q⟩ := sq
      cases e3 : findP xs ds s 0 with
      | some m => rw [e2] at h; simp [outT, restT, e3] at h
      | none =>
        obtain ⟨f, o, ho⟩ := ka.own x _ e2
        have ti : (inW a xs ds).t x = none := by rw [inW_t, e2]; simp [inT, e3]
        obtain ⟨h1, h2, h3⟩ := st x o ho ti
        exact ⟨h3.trans f, o, h1⟩
theorem outW_rel (rel : RelE G a σ env) (nd : (ownVars xs ds).Nodup) (ps : Paired (ArgRep G.C a σ) xs vs) (hg : Arg.gets env xs = some ds) (st : Step (inW a xs ds) b) (k : Ok b) {outs : EnvD} (ho : OutRep G.C b vs outs) :
    RelE G (outW a b xs ds) σ (putBack xs ds outs env) := by
  refine ⟨outW_ok rel.ok st k, by rw [putBack_len]; exact rel.len, fun j d' hj => ?_, rel.prm⟩
  rcases putBack_at hj with ⟨i, d, h1, h2, h3, h4⟩ | ⟨h1, h2⟩
  · obtain ⟨v, hv, rp⟩ := ho i d' h4
    obtain ⟨v', hv', ar⟩ := pat ps h1
    rw [hv] at hv'; cases hv'
    refine ⟨v, ar, ?_⟩
    have hb : backP xs ds i = some (j + 1) := by unfold backP; rw [h1, h2]; simp [h3]
    have := Rep.to (C := G.C) (a := b) (b := outW a b xs ds) (r := i + 1) (s := j + 1) (p := []) (q := []) (fun _ _ h => h) (fun y z' o g1 g2 => ⟨by
      rw [outW_t, g1]
      show (backP xs ds i).map _ = _
      rw [hb]; rfl, g2⟩) d' [] v
    exact this rp
  · obtain ⟨v, hv, rp⟩ := rel.slot j d' h1
    refine ⟨v, hv, ?_⟩
    have hf : ∀ y o, a.F y = some o → (outW a b xs ds).F y = some o := fun y o h => by
      have ti : (inW a xs ds).t y = none := by rw [inW_t, rel.ok.tn h]; rfl
      exact ((st y o (rel.ok.sub y o h) ti).2.2).trans h
    cases z : fz d' with
    | true => exact Rep.fz hf d' [] [] v z rp
    | false =>
      have np : findP xs ds (j + 1) 0 = none := by
        cases e : findP xs ds (j + 1) 0 with
        | none => rfl
        | some m =>
          obtain ⟨j', i', d2, g1, g2, g3, g4, g5⟩ := findP_some e
          have e2 : i' = j := (Nat.succ.inj g5).symm
          subst e2
          rw [h2 j' d2 g2 g3] at g4; cases g4
      have := Rep.to (C := G.C) (a := a) (b := outW a b xs ds) (r := j + 1) (s := j + 1) (p := []) (q := []) hf (fun y z' o g1 g2 => by
        have ti : (inW a xs ds).t y = none := by rw [inW_t, g1]; simp [inT, np]
        obtain ⟨k1, k2, k3⟩ := st y o g2 ti
        refine ⟨?_, k1⟩
        rw [outW_t, k2, g1]; simp [outT, restT, np]) d' [] v
      exact this rp
theorem outW_res {C : KM} {d : D} {v : V} (rp : Rep C b 0 [] v d) : Rep C (outW a b xs ds) 0 [] v d := by
  have := Rep.to (C := C) (a := b) (b := outW a b xs ds) (r := 0) (s := 0) (p := []) (q := []) (fun _ _ h => h) (fun y z' o g1 g2 => ⟨by
    rw [outW_t, g1]; rfl, g2⟩) d [] v
  exact this rp
theorem outW_exc {C : KM} {x : Exc} {cls : Value} {dd : Option Addr} (h : ExcRep C b x cls dd) : ExcRep C (outW a b xs ds) x cls dd := by
  obtain ⟨h1, h2⟩ := h
  refine ⟨h1, ?_⟩
  rcases h2 with h2 | ⟨u, ws, e, f, l, z, rp⟩
  · exact .inl h2
  · exact .inr ⟨u, ws, e, f, l, z, RepL.fz (a := b) (b := outW a b xs ds) (fun _ _ h => h) x.ws [] [] 0 ws z rp⟩
end
/- the promise, from the caller's side -/
theorem call_sp {G : Gm} {W : WX} {σ : L2.St} {a : Wd} {env : EnvD} {xs : List Arg} {vs : List V} {g : List D → Res (D × EnvD)} {Q : VK} (rel : RelE G a σ env) (ps : Paired (ArgRep G.C a σ) xs vs)
    (post : PostR G W σ a (mCallR g xs env) fun d _ b => ∀ v, Rep G.C b 0 [] v d → Q v b.H) : spD G.C g vs a.H Q (fun cls dd H' => W cls dd σ H') := by
  unfold mCallR at post
  cases hg : Arg.gets env xs with
  | none => rw [hg] at post; exact (show False from post).elim
  | some ds =>
    rw [hg] at post
    dsimp only at post
    split at post
    · rename_i nd
      refine ⟨inW a xs ds, ds, rfl, inW_ok rel.ok, (gets_len hg).trans (plen ps), inW_rep rel nd ps hg, ?_⟩
      cases hr : g ds with
      | bad => rw [hr] at post; exact (show False from post).elim
      | ok do_ =>
        obtain ⟨d, outs⟩ := do_
        rw [hr] at post
        dsimp only
        exact fun b v st k ho rp => post (outW a b xs ds) (outW_step st k) (outW_rel rel nd ps hg st k ho) v (outW_res rp)
      | exc x outs =>
        rw [hr] at post
        dsimp only
        exact fun b cls dd st k ho er => post (outW a b xs ds) cls dd (outW_step st k) (outW_rel rel nd ps hg st k ho) (outW_exc er)
    · exact (show False from post).elim
/- a def (or class) that may be called from X -/
def CallOk (C : KM) (X : Cx) (g : List D → Res (D × EnvD)) (u : Value) : Prop := ∀ (W : WX), Takes X W → ∀ (pins : List (Addr × Obj)) (s : Shared) (σ : L2.St) (H : Hp) (us : List Value) (vs : List V) (Q : VK), L2.Inv X pins σ H s → Vals vs us →
  spD C g vs H Q (fun cls dd H' => W cls dd σ H') → wpAny (model X.prog X.w) X.A (call u us) (EP X pins σ Q) X.xe s
theorem pe_callD {X : Cx} {G : Gm} {W : WX} {g : List D → Res (D × EnvD)} {f : Addr} {x : Str} {p pos : Pos} {e : Expr} {es : List Expr} {ma : EM (List Arg)} (co : CallOk G.C X g (.ref f)) (tk : Takes X W) (hg : Gl X x) (hm : X.mg x = some (.ref f)) (hk : PySem.W.keepIn X.K (.ref f) = true)
    (ha : PA X (e :: es) (tArgs G W ma)) (hdb : (x == ("__debug__" : Str)) = false) (he : starEach (e :: es) X.env = (false, eval e X.env) :: starEach es X.env) (hpl : (backTo pos (starEach es X.env)).any (·.1) = false) :
    PE X (.Call (.Name x p) (e :: es) [] pos) (tE G W (mCall g ma)) := by
  refine ⟨fun pins s σ H Q I h => ?_⟩
  obtain ⟨a, env, rfl, rel, post⟩ := h
  refine wpAny_Call_Name_kw (ld_glob I hg hm ?_ hdb)
  have hA : tArgs G W ma σ a.H (fun vs H1 => spD G.C g vs H1 Q (fun cls dd H' => W cls dd σ H')) := tArgs_of rel post fun xs e1 b vs s1 r ps p => call_sp r ps p
  refine PySem.W.callWith_K (h₀ := X.base) I.ok.mod.kin hk (thn (ha.run pos pins s σ _ _ I hA) fun us s1 ⟨vs, H1, I1, r, q⟩ => ⟨I1.kIn, ?_⟩) he hpl
  exact co W tk pins s1 σ H1 us vs Q I1 r q
theorem pe_callD0 {X : Cx} {G : Gm} {W : WX} {g : List D → Res (D × EnvD)} {f : Addr} {x : Str} {p pos : Pos} (co : CallOk G.C X g (.ref f)) (tk : Takes X W) (hg : Gl X x) (hm : X.mg x = some (.ref f)) (hk : PySem.W.keepIn X.K (.ref f) = true)
    (hdb : (x == ("__debug__" : Str)) = false) : PE X (.Call (.Name x p) [] [] pos) (tE G W (mCall g (mArgs []))) := by
  refine ⟨fun pins s σ H Q I h => ?_⟩
  obtain ⟨a, env, rfl, rel, post⟩ := h
  refine wpAny_Call_Name_kw (ld_glob I hg hm ?_ hdb)
  exact PySem.W.callWith_K0 I.kIn hk (co W tk pins s σ _ [] [] Q I .nil (call_sp rel .nil (show PostR G W σ a (mCallR g [] env) _ from post)))
end Mi
namespace Mi
open PySem PySem.Spec PyProof.Rows L2

/-! ### statements -/
def mNext : EM FlowD := fun env => .ok (.next, env)
def mBrk : EM FlowD := fun env => .ok (.brk, env)
def mCnt : EM FlowD := fun env => .ok (.cont, env)
def mSeq (m k : EM FlowD) : EM FlowD := fun env => (m env).bind fun (f, e) => match f with
  | .next => k e
  | .brk => .ok (.brk, e)
  | .cont => .ok (.cont, e)
  | .ret d => .ok (.ret d, e)
def mIfS (c : EM Bool) (m n : EM FlowD) : EM FlowD := fun env => (c env).bind fun (b, e) => if b = true then m e else n e
def mRet (m : EM D) : EM FlowD := fun env => (m env).bind fun (d, e) => .ok (.ret d, e)
def mRetN : EM FlowD := fun env => .ok (.ret .non, env)
def mDrop (m : EM D) : EM FlowD := fun env => (m env).bind fun (_, e) => .ok (.next, e)
def mAsg (i : Nat) (m : EM D) : EM FlowD := fun env => (m env).bind fun (d, e) => .ok (.next, e.set i (some d))
/- frozen first, then taken apart -/
def mAsgT (t : Tgt) (m : EM D) : EM FlowD := fun env => (m env).bind fun (d, e) => match mTg t (frzQ d) e with
  | some e1 => .ok (.next, e1)
  | none => .bad
def mPar (i j : Nat) (ma : EM (List Arg)) : EM FlowD := fun env => (ma env).bind fun (xs, e) => match Arg.gets e xs with
  | some [d1, d2] => if fz d1 = true ∧ fz d2 = true then .ok (.next, (e.set i (some d1)).set j (some d2)) else .bad
  | _ => .bad
section
variable {G : Gm} {W : WX} {D : Ends} {σ : L2.St} {H : Hp}
theorem next_w (h : tS G W mNext D σ H) : tNext D σ H := by
  obtain ⟨a, env, rfl, rel, post⟩ := h
  exact post a σ (Step.refl a) rel
theorem brk_w (h : tS G W mBrk D σ H) : tBreak D σ H := by
  obtain ⟨a, env, rfl, rel, post⟩ := h
  exact post a σ (Step.refl a) rel
theorem cnt_w (h : tS G W mCnt D σ H) : tCont D σ H := by
  obtain ⟨a, env, rfl, rel, post⟩ := h
  exact post a σ (Step.refl a) rel
theorem seq_w {m k : EM FlowD} (h : tS G W (mSeq m k) D σ H) : tSeq (tS G W m) (tS G W k) D σ H := by
  obtain ⟨a, env, rfl, rel, post⟩ := h
  refine ⟨a, env, rfl, rel, ?_⟩
  unfold mSeq at post
  cases hm : m env with
  | bad => rw [hm] at post; exact (show False from post).elim
  | exc x e => rw [hm] at post; exact post
  | ok fe =>
    obtain ⟨f, e⟩ := fe
    rw [hm] at post
    cases f with
    | next => exact fun b σ' st r => ⟨b, e, rfl, r, PostS.step st post⟩
    | brk => exact post
    | cont => exact post
    | ret d => exact post
theorem ifS_w {c : EM Bool} {m n : EM FlowD} (h : tS G W (mIfS c m n) D σ H) : tIfS (tT G W c) (tS G W m) (tS G W n) D σ H := by
  obtain ⟨a, env, rfl, rel, post⟩ := h
  refine tT_ofS rel post fun x e b st r p => ?_
  cases x with
  | true => exact ite_tt ⟨b, e, rfl, r, p⟩
  | false => exact ite_ff ⟨b, e, rfl, r, p⟩
theorem ret_w {m : EM Mi.D} (h : tS G W (mRet m) D σ H) : tRet (tE G W m) D σ H := by
  obtain ⟨a, env, rfl, rel, post⟩ := h
  exact tE_ofS rel post fun x e b v st r rp p => p b σ v (Step.refl b) r rp
theorem retN_w (h : tS G W mRetN D σ H) : tRetN D σ H := by
  obtain ⟨a, env, rfl, rel, post⟩ := h
  exact post a σ .non (Step.refl a) rel (by simp [Rep])
theorem drop_w {m : EM Mi.D} (h : tS G W (mDrop m) D σ H) : tDrop (tE G W m) D σ H := by
  obtain ⟨a, env, rfl, rel, post⟩ := h
  exact tE_ofS rel post fun x e b v st r rp p => p b σ (Step.refl b) r
theorem asg_w {i : Nat} {m : EM Mi.D} (hi : i ∉ G.io) (h : tS G W (mAsg i m) D σ H) : tAsg (tE G W m) (gName i) D σ H := by
  obtain ⟨a, env, rfl, rel, post⟩ := h
  exact tE_ofS rel post fun x e b v st r rp p => p (mvW b 0 (i + 1)) _ mvW_step (r.sett hi rp)
theorem asgT_w {t : Tgt} {m : EM Mi.D} (hi : Tgt.off G.io t) (h : tS G W (mAsgT t m) D σ H) : tAsg (tE G W m) (gT G.C.K t) D σ H := by
  obtain ⟨a, env, rfl, rel, post⟩ := h
  refine tE_ofS rel post fun x e b v st r rp p => ?_
  dsimp only at p
  obtain ⟨z, rq⟩ := frzQ_rep (s := 0) (q := []) r.ok rp
  cases ht : mTg t (frzQ x) e with
  | none => rw [ht] at p; exact (show False from p).elim
  | some e1 =>
    rw [ht] at p
    exact tg_w (a := frzW b 0) t hi r.frz0 z rq ht fun σ' r' => p (frzW b 0) σ' frzW_step r'
theorem par_w {i j : Nat} {ma : EM (List Arg)} (hi : i ∉ G.io) (hj : j ∉ G.io) (h : tS G W (mPar i j ma) D σ H) : tPar i j (tArgs G W ma) D σ H := by
  obtain ⟨a, env, rfl, rel, post⟩ := h
  refine tArgs_ofS rel post fun xs e b vs st r ps p => ?_
  dsimp only at p
  cases hx : Arg.gets e xs with
  | none => rw [hx] at p; exact (show False from p).elim
  | some ds =>
    rw [hx] at p
    have g := gets_rep r ps hx
    match ds, p, g with
    | [], p, _ => exact (show False from p).elim
    | [_], p, _ => exact (show False from p).elim
    | _ :: _ :: _ :: _, p, _ => exact (show False from p).elim
    | [d1, d2], p, g =>
      dsimp only at p
      obtain ⟨v, u, rfl, ⟨r1, p1⟩, ⟨r2, p2⟩⟩ := two_rep g
      split at p
      · rename_i z
        exact ⟨v, u, rfl, p b _ (Step.refl b) ((r.setz hi z.1 p1).setz hj z.2 p2)⟩
      · exact (show False from p).elim
end

/-! ### loops -/
def loopF (t : Tgt) (body : EM FlowD) : List D → EnvD → Res (FlowD × EnvD)
  | [], e => .ok (.next, e)
  | d :: ds, e => match mTg t d e with
    | none => .bad
    | some e1 => (body e1).bind fun (f, e2) => match f with
      | .next => loopF t body ds e2
      | .cont => loopF t body ds e2
      | .brk => .ok (.next, e2)
      | .ret d => .ok (.ret d, e2)
def mFor (mi : EM (List D)) (t : Tgt) (body : EM FlowD) : EM FlowD := fun env => (mi env).bind fun (ds, e) => if fzL ds = true then loopF t body ds e else .bad
theorem PostS.aheadI {G : Gm} {W : WX} {D : Ends} {a : Wd} {σ : L2.St} {α : Type} {m : Res (α × EnvD)} {k : α × EnvD → Res (FlowD × EnvD)} (h : PostS G W D a (m.bind k)) : PostR G W σ a m fun x e b => PostS G W D b (k (x, e)) := h.ahead
def whileF (c : EM Bool) (body : EM FlowD) : Nat → EnvD → Res (FlowD × EnvD)
  | 0, _ => .bad
  | n + 1, e => (c e).bind fun (b, e1) => if b = true then (body e1).bind fun (f, e2) => match f with
      | .next => whileF c body n e2
      | .cont => whileF c body n e2
      | .brk => .ok (.next, e2)
      | .ret d => .ok (.ret d, e2)
    else .ok (.next, e1)
def mWhile (fuel : EnvD → Nat) (c : EM Bool) (body : EM FlowD) : EM FlowD := fun env => whileF c body (fuel env) env
section
variable {G : Gm} {W : WX} {D : Ends} {σ : L2.St} {H : Hp}
theorem for_w {mi : EM (List Mi.D)} {t : Tgt} {body : EM FlowD} (hi' : Tgt.off G.io t) (h : tS G W (mFor mi t body) D σ H) : tFor (tI G W mi) (gT G.C.K t) (tS G W body) D σ H := by
  obtain ⟨a, env, rfl, rel, post⟩ := h
  refine ⟨a, env, rfl, rel, post.ahead.imp fun ds e b st r p => ?_⟩
  dsimp only at p
  split at p
  · rename_i z
    refine ⟨z, fun J hJ => ⟨fun i m σ H => m = ds.length - i ∧ i ≤ ds.length ∧ ∃ c e, c.H = H ∧ Step b c ∧ RelE G c σ e ∧ PostS G W D c (loopF t body (ds.drop i) e), ⟨_, rfl, Nat.zero_le _, b, e, rfl, Step.refl b, r, p⟩, ?_⟩⟩
    rintro i m σ H ⟨rfl, hi, c, e, rfl, sc, rc, pc⟩
    obtain ⟨hgo, hstop⟩ := hJ c rc.ok sc
    by_cases hlt : i < ds.length
    · obtain ⟨d, hd⟩ : ∃ d, ds[i]? = some d := ⟨_, List.getElem?_eq_getElem hlt⟩
      obtain ⟨h1, h2⟩ := hgo i d hd
      have hdrop : ds.drop i = d :: ds.drop (i + 1) := by
        rw [List.drop_eq_getElem_cons hlt]
        rw [List.getElem?_eq_getElem hlt] at hd
        cases hd; rfl
      rw [hdrop] at pc
      simp only [loopF] at pc
      refine .inr ⟨h1, fun σ' H' => ∃ c e, c.H = H' ∧ Step b c ∧ RelE G c σ' e ∧ PostS G W D c (loopF t body (ds.drop (i + 1)) e), fun σ' H' q => ⟨ds.length - (i + 1), by omega, rfl, hlt, q⟩, fun x H' y => ?_⟩
      obtain ⟨c', rfl, gr, ok', rp⟩ := h2 x H' y
      cases ht : mTg t d e with
      | none => rw [ht] at pc; exact (show False from pc).elim
      | some e1 =>
        rw [ht] at pc
        dsimp only at pc
        refine tg_w t hi' (rc.grow gr ok') (fzL_mem z d (List.mem_of_getElem? hd)) rp ht fun σ' r' => ⟨c', e1, rfl, r', ?_⟩
        have pc := PostS.step gr.step pc
        have sc' : Step b c' := sc.trans gr.step
        cases hb : body e1 with
        | bad => rw [hb] at pc; exact (show False from pc).elim
        | exc x e2 => rw [hb] at pc; exact pc
        | ok fe =>
          obtain ⟨f, e2⟩ := fe
          rw [hb] at pc
          cases f with
          | next => exact fun b' σ' st' r' => ⟨b', e2, rfl, sc'.trans st', r', PostS.step st' pc⟩
          | brk => exact pc
          | cont => exact fun b' σ' st' r' => ⟨b', e2, rfl, sc'.trans st', r', PostS.step st' pc⟩
          | ret d => exact pc
    · have e1 : i = ds.length := by omega
      subst e1
      rw [List.drop_length] at pc
      exact .inl ⟨hstop, pc c σ (Step.refl c) rc⟩
  · exact (show False from p).elim
theorem while_w {fuel : EnvD → Nat} {c : EM Bool} {body : EM FlowD} (h : tS G W (mWhile fuel c body) D σ H) : tWhile (tT G W c) (tS G W body) D σ H := by
  obtain ⟨a, env, rfl, rel, post⟩ := h
  refine ⟨fun m σ H => ∃ b e, b.H = H ∧ RelE G b σ e ∧ PostS G W D b (whileF c body m e), ⟨fuel env, a, env, rfl, rel, post⟩, ?_⟩
  rintro m σ H ⟨b, e, rfl, r, p⟩
  cases m with
  | zero => exact (show False from p).elim
  | succ n =>
    refine tT_ofS r p fun x e1 b1 st r1 p1 => ?_
    dsimp only at p1
    cases x with
    | false =>
      rw [if_neg Bool.false_ne_true] at p1 ⊢
      exact p1 b1 σ (Step.refl b1) r1
    | true =>
      rw [if_pos rfl] at p1 ⊢
      refine ⟨fun σ' H' => ∃ b e, b.H = H' ∧ RelE G b σ' e ∧ PostS G W D b (whileF c body n e), fun σ' H' q => ⟨n, Nat.lt_succ_self n, q⟩, b1, e1, rfl, r1, ?_⟩
      cases hb : body e1 with
      | bad => rw [hb] at p1; exact (show False from p1).elim
      | exc x e2 => rw [hb] at p1; exact p1
      | ok fe =>
        obtain ⟨f, e2⟩ := fe
        rw [hb] at p1
        cases f with
        | next => exact fun b' σ' st' r' => ⟨b', e2, rfl, r', PostS.step st' p1⟩
        | brk => exact p1
        | cont => exact fun b' σ' st' r' => ⟨b', e2, rfl, r', PostS.step st' p1⟩
        | ret d => exact p1
end
end Mi
namespace Mi
open PySem PySem.Spec PyProof.Rows L2

/-! ### list comprehensions -/
def wipeE (e : EnvD) : List Nat → EnvD
  | [] => e
  | v :: vs => (wipeE e vs).set v none
def restV (e0 : EnvD) (v : Nat) : Option D := match e0[v]? with
  | some (some d) => if fz d = true then some d else none
  | _ => none
def restE (e0 e : EnvD) : List Nat → EnvD
  | [] => e
  | v :: vs => (restE e0 e vs).set v (restV e0 v)
def loopL (t : Tgt) (cond : EM Bool) (elt : EM D) (own : List Nat) : List D → List D → EnvD → Res (List D × EnvD)
  | [], acc, e => .ok (acc, e)
  | d :: ds, acc, e => match mTg t d (wipeE e own) with
    | none => .bad
    | some e1 => match cond e1 with
      | .ok (true, e2) => match elt e2 with
        | .ok (y, e3) => loopL t cond elt own ds (acc ++ [frzQ y]) e3
        | _ => .bad
      | .ok (false, e2) => loopL t cond elt own ds acc e2
      | _ => .bad
def mLc (mi : EM (List D)) (t : Tgt) (cond : EM Bool) (elt : EM D) (own : List Nat) : EM D := fun env => (mi env).bind fun (ds, e) =>
  if fzL ds = true ∧ ds.length ≤ 100000 then (loopL t cond elt own ds [] e).bind fun (l, e') => .ok (.lst true l, restE e e' own) else .bad
def mYes : EM Bool := fun env => .ok (true, env)
abbrev W0 : WX := fun _ _ _ _ => False
theorem wipeE_len (e : EnvD) : ∀ vs : List Nat, (wipeE e vs).length = e.length
  | [] => rfl
  | v :: vs => by unfold wipeE; rw [List.length_set, wipeE_len e vs]
theorem restE_len (e0 e : EnvD) : ∀ vs : List Nat, (restE e0 e vs).length = e.length
  | [] => rfl
  | v :: vs => by unfold restE; rw [List.length_set, restE_len e0 e vs]
theorem wipeE_some {e : EnvD} {i : Nat} {d : D} : ∀ {vs : List Nat}, (wipeE e vs)[i]? = some (some d) → e[i]? = some (some d) ∧ i ∉ vs
  | [], h => ⟨h, by simp⟩
  | v :: vs, h => by
    unfold wipeE at h
    by_cases q : v = i
    · subst q
      by_cases hl : v < (wipeE e vs).length
      · rw [List.getElem?_set_self hl] at h; cases h
      · rw [List.getElem?_eq_none (by rw [List.length_set]; omega)] at h; cases h
    · rw [List.getElem?_set_ne q] at h
      obtain ⟨h1, h2⟩ := wipeE_some h
      exact ⟨h1, by simp [h2, Ne.symm q]⟩
theorem restE_some {e0 e : EnvD} {i : Nat} {d : D} : ∀ {vs : List Nat}, (restE e0 e vs)[i]? = some (some d) → (e[i]? = some (some d) ∧ i ∉ vs) ∨ (i ∈ vs ∧ e0[i]? = some (some d) ∧ fz d = true)
  | [], h => .inl ⟨h, by simp⟩
  | v :: vs, h => by
    unfold restE at h
    by_cases q : v = i
    · subst q
      by_cases hl : v < (restE e0 e vs).length
      · rw [List.getElem?_set_self hl] at h
        have h : restV e0 v = some d := Option.some.inj h
        unfold restV at h
        split at h
        · rename_i d' e1
          split at h
          · rename_i z; cases h
            exact .inr ⟨by simp, e1, z⟩
          · cases h
        · cases h
      · rw [List.getElem?_eq_none (by rw [List.length_set]; omega)] at h; cases h
    · rw [List.getElem?_set_ne q] at h
      rcases restE_some h with ⟨h1, h2⟩ | ⟨h1, h2, h3⟩
      · exact .inl ⟨h1, by simp [h2, Ne.symm q]⟩
      · exact .inr ⟨by simp [h1], h2, h3⟩
theorem wipe_off {σ : L2.St} {i : Nat} : ∀ {vs : List Nat}, i ∉ vs → (wipe σ vs)[i]? = σ[i]?
  | [], _ => rfl
  | v :: vs, h => by
    simp only [List.mem_cons, not_or] at h
    unfold wipe
    rw [List.getElem?_set_ne (Ne.symm h.1)]
    exact wipe_off h.2
section
variable {G : Gm} {W : WX} {σ σ2 : L2.St} {H : Hp} {a b c : Wd} {own : List Nat}
theorem RelE.wiped {e : EnvD} (r : RelE G a σ e) (ho : ∀ i ∈ G.io, i ∉ own) : RelE G a (wipe σ own) (wipeE e own) := by
  refine ⟨r.ok, by rw [wipeE_len, wipe_length]; exact r.len, fun i d h => ?_, fun i hi v hv => ?_⟩
  · obtain ⟨h1, h2⟩ := wipeE_some h
    obtain ⟨v, e1, q⟩ := r.slot i d h1
    exact ⟨v, by rw [wipe_off h2]; exact e1, q⟩
  · rw [wipe_off (ho i hi)]; exact r.prm i hi v hv
theorem RelE.rewiped {e : EnvD} (r : RelE G a σ2 e) (hw : wipe σ2 own = wipe σ own) (ho : ∀ i ∈ G.io, i ∉ own) : RelE G a (wipe σ own) (wipeE e own) := by
  rw [← hw]; exact r.wiped ho
/- behind the block: e0 the frame ahead of it (at b), e the block's last -/
theorem RelE.unwiped {e0 e : EnvD} (r0 : RelE G b σ e0) (r : RelE G c (wipe σ own) (wipeE e own)) (st : Step b c) (le : e.length = e0.length) : RelE G c σ (restE e0 e own) := by
  refine ⟨r.ok, by rw [restE_len, le]; exact r0.len, fun i d h => ?_, r0.prm⟩
  rcases restE_some h with ⟨h1, h2⟩ | ⟨h1, h2, h3⟩
  · have : (wipeE e own)[i]? = some (some d) := by
      clear h r r0
      induction own with
      | nil => exact h1
      | cons v vs ih =>
        simp only [List.mem_cons, not_or] at h2
        unfold wipeE
        rw [List.getElem?_set_ne (Ne.symm h2.1)]
        exact ih h2.2
    obtain ⟨v, e1, q⟩ := r.slot i d this
    exact ⟨v, by rw [wipe_off h2] at e1; exact e1, q⟩
  · obtain ⟨v, e1, q⟩ := r0.slot i d h2
    exact ⟨v, e1, q.step r0.ok st h3⟩
end
/- the list that grows stands at A, outside of the world -/
structure GrowL (C : KM) (b c : Wd) (A : Addr) (acc : List D) : Prop where
  st : Step b c
  ok : Ok c
  f : c.F A = none
  t : c.t A = none
  h : ∃ vs, c.H A = some (.lst vs) ∧ RepL C c 0 [] 0 vs acc
  z : fzL acc = true
theorem GrowL.next {C : KM} {b c c' : Wd} {A : Addr} {acc : List D} (g : GrowL C b c A acc) (st : Step c c') (ok : Ok c') : GrowL C b c' A acc := by
  obtain ⟨vs, h1, h2⟩ := g.h
  obtain ⟨k1, k2, k3⟩ := st A _ h1 g.t
  exact ⟨g.st.trans st, ok, k3.trans g.f, k2, ⟨vs, k1, Rep.stepL g.ok st g.z h2⟩, g.z⟩
/- the list's own object changed -/
def putA (c : Wd) (A : Addr) (o : HO) : Wd := ⟨c.F, upd c.H A o, c.t⟩
theorem putA_ok {c : Wd} {A : Addr} {o : HO} (k : Ok c) (f : c.F A = none) : Ok (putA c A o) := by
  refine ⟨fun x u h => ?_, fun x t h => ?_⟩
  · have ne : x ≠ A := by rintro rfl; have h : c.F x = some u := h; rw [f] at h; cases h
    show upd c.H A o x = _
    rw [upd_ne ne]; exact k.sub x u h
  · obtain ⟨h1, u, h2⟩ := k.own x t h
    by_cases e : x = A
    · subst e; exact ⟨h1, o, upd_same⟩
    · exact ⟨h1, u, by show upd c.H A o x = _; rw [upd_ne e]; exact h2⟩
theorem putA_to {C : KM} {c : Wd} {A : Addr} {o : HO} (t : c.t A = none) {r : Nat} {p : List Nat} {v : V} {d : D} (h : Rep C c r p v d) : Rep C (putA c A o) r p v d := by
  have := Rep.to (C := C) (a := c) (b := putA c A o) (r := r) (s := r) (p := p) (q := p) (fun _ _ h => h) (fun x z u h e => ⟨h, by
    have ne : x ≠ A := by rintro rfl; rw [t] at h; cases h
    show upd c.H A o x = _
    rw [upd_ne ne]; exact e⟩) d [] v
  exact this h
theorem putA_rel {G : Gm} {c : Wd} {A : Addr} {o : HO} {σ : L2.St} {e : EnvD} (r : RelE G c σ e) (f : c.F A = none) (t : c.t A = none) : RelE G (putA c A o) σ e :=
  ⟨putA_ok r.ok f, r.len, fun i d h => let ⟨v, e, q⟩ := r.slot i d h; ⟨v, e, putA_to t q⟩, r.prm⟩
/- at the end it is the temp's -/
def tagA (c : Wd) (A : Addr) : Wd := ⟨c.F, c.H, fun x => if x = A then some (0, []) else c.t x⟩
theorem tagA_ok {c : Wd} {A : Addr} {o : HO} (k : Ok c) (f : c.F A = none) (h : c.H A = some o) : Ok (tagA c A) := by
  refine ⟨k.sub, fun x t e => ?_⟩
  have e : (if x = A then some (0, []) else c.t x) = some t := e
  by_cases q : x = A
  · subst q; exact ⟨f, o, h⟩
  · rw [if_neg q] at e; exact k.own x t e
theorem tagA_to {C : KM} {c : Wd} {A : Addr} (t : c.t A = none) {r : Nat} {p : List Nat} {v : V} {d : D} (h : Rep C c r p v d) : Rep C (tagA c A) r p v d := by
  have := Rep.to (C := C) (a := c) (b := tagA c A) (r := r) (s := r) (p := p) (q := p) (fun _ _ h => h) (fun x z u h e => ⟨by
    have ne : x ≠ A := by rintro rfl; rw [t] at h; cases h
    show (if x = A then some (0, []) else c.t x) = _
    rw [if_neg ne]; exact h, e⟩) d [] v
  exact this h
theorem repL_to {C : KM} {a b : Wd} {r s : Nat} {p q : List Nat} (h : ∀ d j v, fz d = true → Rep C a r (j :: p) v d → Rep C b s (j :: q) v d) : ∀ {l : List D} {n : Nat} {vs : List V}, fzL l = true → RepL C a r p n vs l → RepL C b s q n vs l
  | [], n, vs, _, e => e
  | d :: l, n, vs, z, ⟨v, us, e, h1, h2⟩ => by
    simp only [fzL, Bool.and_eq_true] at z
    exact ⟨v, us, e, h d n v z.1 h1, repL_to h z.2 h2⟩
theorem GrowL.push {C : KM} {b c : Wd} {A : Addr} {acc : List D} {vs : List V} {v : V} {y : D} {r : Nat} (g : GrowL C b c A acc) (hA : b.H A = none) (h : c.H A = some (.lst vs)) (zy : fz y = true) (rp : Rep C c r [] v y) : GrowL C b (putA c A (.lst (vs ++ [v]))) A (acc ++ [y]) := by
  obtain ⟨us, h1, h2⟩ := g.h
  rw [h] at h1; cases h1
  refine ⟨fun x o e t => ?_, putA_ok g.ok g.f, g.f, g.t, ⟨_, upd_same, ?_⟩, by rw [fzL_append, g.z]; simp [fzL, zy]⟩
  · obtain ⟨g1, g2, g3⟩ := g.st x o e t
    have ne : x ≠ A := by rintro rfl; rw [hA] at e; cases e
    exact ⟨by show upd c.H A _ x = _; rw [upd_ne ne]; exact g1, g2, g3⟩
  · refine RepL.appz (r := 0) (p := []) (s := 0) (q := []) (n := 0) (k := 0) g.z (by simp [fzL, zy]) (repL_to (fun d j v _ h => putA_to g.t h) g.z h2) ?_
    exact ⟨v, [], rfl, Rep.fz (a := c) (b := putA c A (.lst (vs ++ [v]))) (fun _ _ h => h) y _ _ v zy rp, by simp [RepL]⟩
mutual
def Tgt.ins (own : List Nat) : Tgt → Prop
  | .nm i => i ∈ own
  | .tp ts => Tgt.inss own ts
def Tgt.inss (own : List Nat) : List Tgt → Prop
  | [] => True
  | t :: ts => Tgt.ins own t ∧ Tgt.inss own ts
end
theorem wipe_set {σ : L2.St} {i : Nat} {v : Option V} : ∀ {own : List Nat}, i ∈ own → wipe (σ.set i v) own = wipe σ own
  | k :: vs, h => by
    unfold wipe
    by_cases e : k = i
    · subst e
      by_cases hm : k ∈ vs
      · rw [wipe_set hm]
      · have : ∀ {vs : List Nat}, k ∉ vs → wipe (σ.set k v) vs = (wipe σ vs).set k v := fun {vs} => by
          induction vs with
          | nil => intro _; rfl
          | cons u us ih =>
            intro h
            simp only [List.mem_cons, not_or] at h
            unfold wipe
            rw [ih h.2, List.set_comm _ _ h.1]
        rw [this hm, List.set_set]
    · rw [wipe_set (by
        rcases List.mem_cons.mp h with h | h
        · exact absurd h.symm e
        · exact h)]
theorem wipe_wipe (σ : L2.St) (own : List Nat) : wipe (wipe σ own) own = wipe σ own := by
  have : ∀ vs : List Nat, (∀ i ∈ vs, i ∈ own) → wipe (wipe σ vs) own = wipe σ own := fun vs => by
    induction vs with
    | nil => intro _; rfl
    | cons v vs ih =>
      intro h
      show wipe ((wipe σ vs).set v none) own = _
      rw [wipe_set (h v (by simp)), ih fun i hi => h i (by simp [hi])]
  exact this own fun _ h => h
mutual
theorem gT_mono {K : PySem.W.Frag} : ∀ (t : Tgt) {σ : L2.St} {v : V} {H : Hp} {R R' : L2.St → Hp → Prop}, gT K t v σ H R → (∀ σ H, R σ H → R' σ H) → gT K t v σ H R'
  | .nm i, σ, v, H, R, R', q, f => by
    simp only [gT] at q ⊢
    exact f _ _ q
  | .tp ts, σ, v, H, R, R', q, f => by
    simp only [gT] at q ⊢
    obtain ⟨x, vs, h1, h2, h3, h4⟩ := q
    exact ⟨x, vs, h1, h2, h3, gTs_mono ts h4 f⟩
theorem gTs_mono {K : PySem.W.Frag} : ∀ (t : List Tgt) {σ : L2.St} {v : List V} {H : Hp} {R R' : L2.St → Hp → Prop}, gTs K t v σ H R → (∀ σ H, R σ H → R' σ H) → gTs K t v σ H R'
  | [], σ, v, H, R, R', q, f => by
    simp only [gTs] at q ⊢
    exact ⟨q.1, f _ _ q.2⟩
  | t :: ts, σ, v, H, R, R', q, f => by
    simp only [gTs] at q ⊢
    obtain ⟨v, us, h1, h2⟩ := q
    exact ⟨v, us, h1, gT_mono t h2 fun σ H q => gTs_mono ts q f⟩
end
mutual
theorem ins_w {K : PySem.W.Frag} {own : List Nat} : ∀ (t : Tgt), Tgt.ins own t → ∀ (σ : L2.St) (v : V) (H : Hp) (R : L2.St → Hp → Prop), gT K t v σ H R → gT K t v σ H fun σ2 H2 => wipe σ2 own = wipe σ own ∧ R σ2 H2
  | .nm i, h, σ, v, H, R, q => by
    simp only [Tgt.ins] at h
    simp only [gT] at q ⊢
    exact ⟨wipe_set h, q⟩
  | .tp ts, h, σ, v, H, R, q => by
    simp only [Tgt.ins] at h
    simp only [gT] at q ⊢
    obtain ⟨x, vs, h1, h2, h3, h4⟩ := q
    exact ⟨x, vs, h1, h2, h3, inss_w ts h σ vs H R h4⟩
theorem inss_w {K : PySem.W.Frag} {own : List Nat} : ∀ (ts : List Tgt), Tgt.inss own ts → ∀ (σ : L2.St) (vs : List V) (H : Hp) (R : L2.St → Hp → Prop), gTs K ts vs σ H R → gTs K ts vs σ H fun σ2 H2 => wipe σ2 own = wipe σ own ∧ R σ2 H2
  | [], h, σ, vs, H, R, q => by
    simp only [gTs] at q ⊢
    exact ⟨q.1, rfl, q.2⟩
  | t :: ts, h, σ, vs, H, R, q => by
    simp only [Tgt.inss] at h
    simp only [gTs] at q ⊢
    obtain ⟨v, us, h1, h2⟩ := q
    refine ⟨v, us, h1, ?_⟩
    have := ins_w t h.1 σ v H _ h2
    have mono : ∀ (t : Tgt) {σ : L2.St} {v : V} {H : Hp} {R R' : L2.St → Hp → Prop}, gT K t v σ H R → (∀ σ H, R σ H → R' σ H) → gT K t v σ H R' := fun t σ v H R R' => gT_mono t
    refine mono t this fun σ1 H1 ⟨w, q⟩ => ?_
    have := inss_w ts h.2 σ1 us H1 R q
    rw [w] at this
    exact this
end
section
variable {G : Gm} {W : WX} {σ : L2.St} {H : Hp} {Q : VK}
theorem lc_w {mi : EM (List D)} {t : Tgt} {cond : EM Bool} {elt : EM D} {own : List Nat} (hf : Tgt.off G.io t) (ho : ∀ i ∈ G.io, i ∉ own) (hown : Tgt.ins own t)
    (h : tE G W (mLc mi t cond elt own) σ H Q) : tLc (tI G W mi) (gT G.C.K t) (tT G W0 cond) (tE G W0 elt) own σ H Q := by
  obtain ⟨a, env, rfl, rel, post⟩ := h
  refine ⟨a, env, rfl, rel, post.bind.imp fun ds e b st r p => ?_⟩
  dsimp only at p
  split at p
  · rename_i z
    refine ⟨z.1, fun J hJ A hA => ?_⟩
    have fA : b.F A = none := by
      cases q : b.F A with
      | none => rfl
      | some u => have := r.ok.sub A u q; rw [hA] at this; cases this
    have tA : b.t A = none := by
      cases q : b.t A with
      | none => rfl
      | some u => obtain ⟨_, u, h⟩ := r.ok.own A u q; rw [hA] at h; cases h
    -- the rest's post, told of a state of the loop
    let K : List D × EnvD → Res (D × EnvD) := fun (l, e') => .ok (.lst true l, restE e e' own)
    refine ⟨fun i m H => m = ds.length - i ∧ i ≤ ds.length ∧ ∃ c acc e1, c.H = H ∧ GrowL G.C b c A acc ∧ acc.length ≤ i ∧ e1.length = e.length ∧ RelE G c (wipe σ own) (wipeE e1 own) ∧
      PostR G W σ b ((loopL t cond elt own (ds.drop i) acc e1).bind K) fun d _ b => ∀ v, Rep G.C b 0 [] v d → Q v b.H, ⟨_, rfl, Nat.zero_le _, putA b A (.lst []), [], e, rfl, ?_, Nat.zero_le _, rfl, ?_, p⟩, ?_⟩
    · refine ⟨fun x o h t => ?_, putA_ok r.ok fA, fA, tA, ⟨[], upd_same, by simp [RepL]⟩, rfl⟩
      have ne : x ≠ A := by rintro rfl; rw [hA] at h; cases h
      exact ⟨by show upd b.H A _ x = _; rw [upd_ne ne]; exact h, t, rfl⟩
    · exact putA_rel (r.wiped ho) fA tA
    · rintro i m H ⟨rfl, hi, c, acc, e1, rfl, gl, hacc, hel, rc, pc⟩
      obtain ⟨hgo, hstop⟩ := hJ c gl.ok gl.st
      by_cases hlt : i < ds.length
      · obtain ⟨d, hd⟩ : ∃ d, ds[i]? = some d := ⟨_, List.getElem?_eq_getElem hlt⟩
        obtain ⟨h1, h2⟩ := hgo i d hd
        have hdrop : ds.drop i = d :: ds.drop (i + 1) := by
          rw [List.drop_eq_getElem_cons hlt]
          rw [List.getElem?_eq_getElem hlt] at hd
          cases hd; rfl
        rw [hdrop] at pc
        simp only [loopL] at pc
        refine .inr ⟨h1, fun H' => ∃ c acc e1, c.H = H' ∧ GrowL G.C b c A acc ∧ acc.length ≤ i + 1 ∧ e1.length = e.length ∧ RelE G c (wipe σ own) (wipeE e1 own) ∧
          PostR G W σ b ((loopL t cond elt own (ds.drop (i + 1)) acc e1).bind K) fun d _ b => ∀ v, Rep G.C b 0 [] v d → Q v b.H, fun H' q => ⟨ds.length - (i + 1), by omega, rfl, hlt, q⟩, fun x H' y => ?_⟩
        obtain ⟨c1, rfl, gr, ok1, rp⟩ := h2 x H' y
        cases ht : mTg t d (wipeE e1 own) with
        | none => rw [ht] at pc; exact (show False from pc).elim
        | some e2 =>
          rw [ht] at pc
          dsimp only at pc
          have gl1 := gl.next gr.step ok1
          refine gT_mono t (ins_w t hown _ x c1.H (fun σ2 H2 => H2 = c1.H ∧ RelE G c1 σ2 e2) (tg_w t hf (rc.grow gr ok1) (fzL_mem z.1 d (List.mem_of_getElem? hd)) rp ht fun σ2 r2 => ⟨rfl, r2⟩)) fun σ2 H2 ⟨hw, hH, r2⟩ => ?_
          subst hH
          rw [wipe_wipe] at hw
          refine ⟨hw, c1, e2, rfl, r2, ?_⟩
          have hlen : ∀ {c : Wd} {e' : EnvD}, RelE G c σ2 e' → e'.length = e.length := fun {c e'} r' => by
            have := congrArg List.length hw
            rw [wipe_length, wipe_length] at this
            rw [r'.len, this, r.len]
          cases hc : cond e2 with
          | bad => rw [hc] at pc; exact (show False from pc).elim
          | exc x e3 => rw [hc] at pc; exact (show False from pc).elim
          | ok be =>
            obtain ⟨bb, e3⟩ := be
            rw [hc] at pc
            intro c2 st2 r3
            cases bb with
            | false =>
              rw [if_neg Bool.false_ne_true]
              exact ⟨c2, acc, e3, rfl, gl1.next st2 r3.ok, Nat.le_succ_of_le hacc, hlen r3, r3.rewiped hw ho, pc⟩
            | true =>
              rw [if_pos rfl]
              refine ⟨c2, e3, rfl, r3, ?_⟩
              dsimp only at pc
              cases he : elt e3 with
              | bad => rw [he] at pc; exact (show False from pc).elim
              | exc x e4 => rw [he] at pc; exact (show False from pc).elim
              | ok ye =>
                obtain ⟨y, e4⟩ := ye
                rw [he] at pc
                intro c3 st3 r4 v rv
                have gl3 := (gl1.next st2 r3.ok).next st3 r4.ok
                obtain ⟨vs, k1, k2⟩ := gl3.h
                obtain ⟨zy, rq⟩ := frzQ_rep (s := 0) (q := []) r4.ok rv
                have gl4 := (gl3.next (frzW_step (r := 0)) (frzW_ok r4.ok)).push (vs := vs) hA k1 zy rq
                refine ⟨vs, k1, ?_, putA (frzW c3 0) A (.lst (vs ++ [v])), acc ++ [frzQ y], e4, rfl, gl4, ?_, hlen r4, ?_, pc⟩
                · rw [k2.len]; rw [show sizeLine = 16777216 from sizeLine_eq]; omega
                · rw [List.length_append]; simp only [List.length_cons, List.length_nil]; omega
                · exact putA_rel ((r4.rewiped hw ho).frz0) (gl3.next (frzW_step (r := 0)) (frzW_ok r4.ok)).f (gl3.next (frzW_step (r := 0)) (frzW_ok r4.ok)).t
      · have e2 : i = ds.length := by omega
        subst e2
        rw [List.drop_length] at pc
        refine .inl ⟨hstop, ?_⟩
        obtain ⟨vs, k1, k2⟩ := gl.h
        have pc : ∀ b', Step b b' → RelE G b' σ (restE e e1 own) → ∀ v, Rep G.C b' 0 [] v (.lst true acc) → Q v b'.H := pc
        have rel' := r.unwiped rc gl.st hel
        refine pc (tagA c A) (fun x o h t => ?_) ?_ (.ref A) ?_
        · obtain ⟨g1, g2, g3⟩ := gl.st x o h t
          have ne : x ≠ A := by rintro rfl; rw [hA] at h; cases h
          exact ⟨g1, by show (if x = A then some (0, []) else c.t x) = none; rw [if_neg ne]; exact g2, g3⟩
        · exact ⟨tagA_ok gl.ok gl.f k1, rel'.len, fun i d h => let ⟨v, e, q⟩ := rel'.slot i d h; ⟨v, e, tagA_to gl.t q⟩, rel'.prm⟩
        · simp only [Rep]
          refine ⟨A, vs, rfl, ?_, ?_⟩
          · rw [if_pos trivial]
            exact ⟨by show (if A = A then some (0, []) else c.t A) = _; rw [if_pos rfl], k1⟩
          · exact repL_to (fun d j v _ h => tagA_to gl.t h) gl.z k2
  · exact (show False from p).elim
end
end Mi
namespace Mi
open PySem PySem.Spec PyProof.Rows L2

/-! ### the context -/
structure St0 (X : Cx) (G : Gm) : Prop where
  p : X.prog = G.C.P
  w : X.w = G.C.w
  k : X.K = G.C.K
  m : X.mg = G.C.mg
  n : X.N.Nodup
  u : X.A.units + 64 < cLine
structure Go (X : Cx) (G : Gm) (W : WX) (lv : Nat) : Prop extends St0 X G where
  tk : Takes X W
  pw : PassesOwn (model X.prog X.w) X.A X.env X.xe
  rm : Room lv X.A
  cm : X.calm = true
theorem Go.blk {X : Cx} {G : Gm} {W : WX} {lv : Nat} (g : Go X G W lv) (s : Shared) (H : Hp) (scope : Scope) (e : Env) (fp : List Addr) : Go (X.blk s H scope e fp) G W0 lv :=
  { p := g.p, w := g.w, k := g.k, m := g.m, n := g.n, u := g.u, tk := takes0, pw := PassesOwn.never, rm := g.rm, cm := g.cm }
theorem Go.tr {X : Cx} {G : Gm} {W W' : WX} {lv : Nat} {pn : List (Addr × Obj)} {xe : Value → Shared → Prop} (g : Go X G W lv) (tk : Takes (X.tr pn xe) W') (pw : PassesOwn (model X.prog X.w) X.A X.env xe) : Go (X.tr pn xe) G W' lv :=
  { p := g.p, w := g.w, k := g.k, m := g.m, n := g.n, u := g.u, tk := tk, pw := pw, rm := g.rm, cm := g.cm }
theorem Go.suite {X : Cx} {G : Gm} {W : WX} {lv : Nat} (g : Go X G W lv) (a : Addr) (pn : List (Addr × Obj)) : St0 (X.suite a pn) G :=
  { p := g.p, w := g.w, k := g.k, m := g.m, n := g.n, u := g.u }

/-! ### isinstance of a built-in -/
inductive TyK where
  | tInt | tBool | tStr | tTup | tLst | tDic
def TyK.nm : TyK → String
  | .tInt => "int" | .tBool => "bool" | .tStr => "str" | .tTup => "tuple" | .tLst => "list" | .tDic => "dict"
def tyD : D → Option String
  | .non => some "NoneType" | .bl _ => some "bool" | .int _ => some "int" | .str _ => some "str" | .tup _ => some "tuple"
  | .lst _ _ => some "list" | .scr _ => some "list" | .dic _ _ _ => some "dict" | _ => none
def isK : TyK → D → Option Bool
  | _, .ty _ => none
  | _, .fn _ => none
  | _, .ins _ _ _ _ => none
  | .tInt, .int _ => some true
  | .tInt, .bl _ => some true
  | .tBool, .bl _ => some true
  | .tStr, .str _ => some true
  | .tTup, .tup _ => some true
  | .tLst, .lst _ _ => some true
  | .tLst, .scr _ => some true
  | .tDic, .dic _ _ _ => some true
  | _, _ => some false
theorem isK_kit {k : TyK} {d : D} {b : Bool} (h : isK k d = some b) : ∃ t, tyD d = some t ∧ kitB t k.nm = some b := by
  cases k <;> cases d <;> simp only [isK] at h <;> first | (cases h; done) | (cases h; exact ⟨_, rfl, by decide +kernel⟩)
theorem rep_ty {C : KM} {a : Wd} {r : Nat} {p : List Nat} {v : V} {d : D} {t : String} (k : Ok a) (h : tyD d = some t) (q : Rep C a r p v d) : TyX C.K a.H v (.type t) := by
  cases d <;> simp only [tyD] at h <;> (try (cases h; done)) <;> cases h
  case non => cases rep_non q; exact .base .non
  case bl b => cases rep_bl q; exact .base (.bl b)
  case int b => cases rep_int q; exact .base (.int b)
  case str b => cases rep_str q; exact .base (.str b)
  case tup l =>
    obtain ⟨x, vs, rfl, h1, h2⟩ := rep_tup k q
    rcases h1 with h1 | h1
    · rcases h1 with h1 | ⟨o, h1⟩
      · exact .base (.tup h1)
      · exact .fTuple h1
    · obtain ⟨o, _, _, h1, h2, _⟩ := h1
      exact .kTuple h1 h2
  case lst o l =>
    obtain ⟨x, vs, rfl, h1, h2⟩ := rep_lst k q
    exact .base (.lst h1)
  case scr l =>
    obtain ⟨x, rfl, h1⟩ := rep_scr k q
    rcases h1 with h1 | h1
    · rcases h1 with h1 | ⟨o, h1⟩
      · exact .base (.lst h1)
      · exact .base (.frz h1)
    · obtain ⟨o, _, _, h1, h2, _⟩ := h1
      exact .kList h1 h2
  case dic o ks ws =>
    obtain ⟨x, h, kv, vs, rfl, h1, h2, h3⟩ := rep_dic k q
    cases h2
    exact .base (.dK h1)
def mIsi (k : TyK) (ma : EM Arg) : EM D := fun env => (ma env).bind fun (x, e) => match x.get e with
  | some d => mLift ((isK k d).map .bl) e
  | none => .bad
/-! ### further readings -/
def mChain (g g' : D → D → Option D) (ma mb mc : EM Arg) : EM D := fun env => (ma env).bind fun (x, e1) => (mb e1).bind fun (y, e2) =>
  match x.get e2, y.get e2 with
  | some d1, some d2 => match (g d1 d2).bind D.bool with
    | some true => (mc e2).bind fun (z, e3) => match y.get e3, z.get e3 with
      | some d2', some d3 => mLift (g' d2' d3) e3
      | _, _ => .bad
    | some false => .ok (.bl false, e2)
    | none => .bad
  | _, _ => .bad
def mNoP : EM (Option Int) := fun env => .ok (none, env)
def mPart (m : EM D) : EM (Option Int) := fun env => (m env).bind fun (d, e) => match d with
  | .int i => .ok (some i, e)
  | _ => .bad
def mSl (ma : EM Arg) (ml mh : EM (Option Int)) : EM D := fun env => (ma env).bind fun (x, e1) => (ml e1).bind fun (lo, e2) => (mh e2).bind fun (hi, e3) =>
  match x.get e3 with
  | some d => mLift (slD d lo hi) e3
  | none => .bad
def tO (G : Gm) (W : WX) (m : EM (Option Int)) : TO := fun σ H Q => ∃ a env, a.H = H ∧ RelE G a σ env ∧ PostR G W σ a (m env) fun x _ b => Q x b.H
/- xs[k] = v, xs in slot j -/
def setQ (d i y : D) : Option D := match d, i with
  | .lst true l, .int k => (ixN l.length k).map fun n => .lst true (l.set n y)
  | _, _ => none
def mSet (j : Nat) (mi mv : EM D) : EM FlowD := fun env => (mv env).bind fun (y, e1) =>
  match e1[j]? with
  | some (some _) => (mFrz mi e1).bind fun (x, e2) => match e2[j]?, x.get e2 with
    | some (some d), some i => match setQ d i (frzQ y) with
      | some d' => .ok (.next, e2.set j (some d'))
      | none => .bad
    | _, _ => .bad
  | _ => .bad
theorem repL_map {C : KM} {a b : Wd} {r s : Nat} {p q : List Nat} (h : ∀ d j v, Rep C a r (j :: p) v d → Rep C b s (j :: q) v d) : ∀ {l : List D} {n : Nat} {vs : List V}, RepL C a r p n vs l → RepL C b s q n vs l
  | [], n, vs, e => e
  | d :: l, n, vs, ⟨v, us, e, h1, h2⟩ => ⟨v, us, e, h d n v h1, repL_map h h2⟩
theorem repL_set {C : KM} {a : Wd} {r : Nat} {p : List Nat} {y : D} {v : V} (hy : ∀ k, Rep C a r (k :: p) v y) : ∀ {l : List D} {m n : Nat} {vs : List V}, RepL C a r p m vs l → RepL C a r p m (vs.set n v) (l.set n y)
  | [], m, n, vs, e => by simp only [RepL] at e; subst e; simp [RepL]
  | d :: l, m, 0, vs, ⟨u, us, e, h1, h2⟩ => by subst e; exact ⟨v, us, rfl, hy m, h2⟩
  | d :: l, m, n + 1, vs, ⟨u, us, e, h1, h2⟩ => by subst e; exact ⟨u, us.set n v, rfl, h1, repL_set hy h2⟩
section
variable {G : Gm} {W : WX} {σ : L2.St} {H : Hp} {Q : VK} {ma mb mc : EM Arg}
theorem isi_w {k : TyK} (h : tE G W (mIsi k ma) σ H Q) : tCB (rIsi G.C.K) (tCons (tArg G W ma) (tCons (tC (.ty k.nm)) tNil)) σ H Q := by
  obtain ⟨a, env, rfl, rel, post⟩ := h
  refine tArg_of rel post fun x e b v st r ar p => ?_
  dsimp only at p
  cases hx : x.get e with
  | none => rw [hx] at p; exact (show False from p).elim
  | some d =>
    rw [hx] at p
    dsimp only at p
    obtain ⟨d', hd, k'⟩ := p.lift r
    obtain ⟨r1, p1⟩ := ar.rep r hx
    cases hk : isK k d with
    | none => rw [hk] at hd; cases hd
    | some bb =>
      rw [hk] at hd; cases hd
      obtain ⟨t, h1, h2⟩ := isK_kit hk
      exact ⟨v, .ty k.nm, .type t, .type k.nm, bb, rfl, .ty _, rep_ty r.ok h1 p1, kit_ty h2, k' b (Grow.refl b) r.ok _ rep_ofbl⟩
theorem chain_w {g g' : D → D → Option D} (h : tE G W (mChain g g' ma mb mc) σ H Q) : tChain (rD G.C g) (rD G.C g') (tArg G W ma) (tArg G W mb) (tArg G W mc) σ H Q := by
  obtain ⟨a, env, rfl, rel, post⟩ := h
  refine tArg_of rel post fun x e1 b v s1 rel1 ar1 post1 => ?_
  refine tArg_of rel1 post1 fun y e2 c u s2 rel2 ar2 post2 => ?_
  have ar1 := ar1.step rel1.ok s2
  dsimp only at post2
  cases hx : x.get e2 with
  | none => simp only [hx] at post2; exact (show False from post2).elim
  | some d1 =>
    cases hy : y.get e2 with
    | none => simp only [hx, hy] at post2; exact (show False from post2).elim
    | some d2 =>
      simp only [hx, hy] at post2
      cases hg : g d1 d2 with
      | none => simp only [hg] at post2; exact (show False from post2).elim
      | some dd =>
        cases hb : dd.bool with
        | none => simp only [hg, Option.bind_some, hb] at post2; exact (show False from post2).elim
        | some bb =>
          simp only [hg, Option.bind_some, hb] at post2
          cases D.bool_eq hb
          obtain ⟨r1, p1⟩ := ar1.rep rel2 hx
          obtain ⟨r2, p2⟩ := ar2.rep rel2 hy
          refine ⟨c, d1, d2, r1, r2, _, rfl, rel2.ok, p1, p2, hg, fun z b' gr ok rp => ?_⟩
          cases rep_bl rp
          have rel3 := rel2.grow gr ok
          refine ⟨bb, rfl, ?_⟩
          cases bb with
          | false =>
            rw [if_neg Bool.false_ne_true]
            exact post2 b' gr.step rel3 _ rep_ofbl
          | true =>
            rw [if_pos rfl]
            refine tArg_of rel3 (PostR.step gr.step post2) fun z e3 c3 u3 s3 rel4 ar3 post3 => ?_
            dsimp only at post3
            have ar2 := (ar2.step rel2.ok gr.step).step ok s3
            cases hy : y.get e3 with
            | none => simp only [hy] at post3; exact (show False from post3).elim
            | some d2' =>
              cases hz : z.get e3 with
              | none => simp only [hy, hz] at post3; exact (show False from post3).elim
              | some d3 =>
                simp only [hy, hz] at post3
                obtain ⟨d, hd, k⟩ := post3.lift rel4
                obtain ⟨r3, p3⟩ := ar2.rep rel4 hy
                obtain ⟨r4, p4⟩ := ar3.rep rel4 hz
                exact ⟨c3, d2', d3, r3, r4, d, rfl, rel4.ok, p3, p4, hd, fun z b' gr ok rp => k b' gr ok z rp⟩
theorem noP_w {R : Option Int → Hp → Prop} (h : tO G W mNoP σ H R) : tNoPart σ H R := by
  obtain ⟨a, env, rfl, rel, post⟩ := h
  exact post a (Step.refl a) rel
theorem part_w {m : EM D} {R : Option Int → Hp → Prop} (h : tO G W (mPart m) σ H R) : tPart (tE G W m) σ H R := by
  obtain ⟨a, env, rfl, rel, post⟩ := h
  refine tE_of rel post fun x e b v st r rp p => ?_
  dsimp only at p
  cases x <;> dsimp only at p <;> first | exact (show False from p).elim | skip
  cases rep_int rp
  exact ⟨_, rfl, p b (Step.refl b) r⟩
theorem sl_w {ml mh : EM (Option Int)} (h : tE G W (mSl ma ml mh) σ H Q) : tSl (rSD G.C) (tArg G W ma) (tO G W ml) (tO G W mh) σ H Q := by
  obtain ⟨a, env, rfl, rel, post⟩ := h
  refine tArg_of rel post fun x e1 b v s1 rel1 ar1 post1 => ?_
  refine ⟨b, e1, rfl, rel1, post1.bind.imp fun lo e2 c s2 rel2 post2 => ?_⟩
  refine ⟨c, e2, rfl, rel2, post2.bind.imp fun hi e3 c3 s3 rel3 post3 => ?_⟩
  dsimp only at post3
  have ar1 := (ar1.step rel1.ok s2).step rel2.ok s3
  cases hx : x.get e3 with
  | none => rw [hx] at post3; exact (show False from post3).elim
  | some d1 =>
    rw [hx] at post3
    dsimp only at post3
    obtain ⟨d, hd, k⟩ := post3.lift rel3
    obtain ⟨r1, p1⟩ := ar1.rep rel3 hx
    exact ⟨c3, d1, r1, d, rfl, rel3.ok, p1, hd, fun z b' gr ok rp => k b' gr ok z rp⟩
/- the slot's own list changed at a place -/
theorem RelE.put {a : Wd} {env : EnvD} {j : Nat} {l : List D} {y : D} {v : V} {n s : Nat} {q : List Nat} (r : RelE G a σ env) (h : env[j]? = some (some (.lst true l))) (z : fz y = true) (hy : Rep G.C a s q v y) :
    ∃ x vs, σ[j]? = some (some (.ref x)) ∧ a.H x = some (.lst vs) ∧ vs.length = l.length ∧ Step a ⟨a.F, upd a.H x (.lst (vs.set n v)), a.t⟩ ∧ RelE G ⟨a.F, upd a.H x (.lst (vs.set n v)), a.t⟩ σ (env.set j (some (.lst true (l.set n y)))) := by
  obtain ⟨w, h1, h2⟩ := r.slot j _ h
  simp only [Rep] at h2
  obtain ⟨x, vs, rfl, hx, hl⟩ := h2
  rw [if_pos trivial] at hx
  obtain ⟨tx, hx⟩ := hx
  have ne : ∀ {y : Addr} {t : Option Tag}, a.t y = t → t ≠ some (j + 1, []) → y ≠ x := fun e ht => by rintro rfl; rw [tx] at e; exact ht e.symm
  have fx : a.F x = none := (r.ok.own x _ tx).1
  have up : ∀ {y : Addr}, y ≠ x → upd a.H x (.lst (vs.set n v)) y = a.H y := fun e => upd_ne e
  have ok' : Ok ⟨a.F, upd a.H x (.lst (vs.set n v)), a.t⟩ := by
    refine ⟨fun y o e => ?_, fun y t e => ?_⟩
    · have : y ≠ x := by rintro rfl; have e : a.F y = some o := e; rw [fx] at e; cases e
      show upd a.H x _ y = _
      rw [up this]; exact r.ok.sub y o e
    · obtain ⟨g1, o, g2⟩ := r.ok.own y t e
      by_cases q : y = x
      · subst q; exact ⟨g1, _, upd_same⟩
      · exact ⟨g1, o, by show upd a.H x _ y = _; rw [up q]; exact g2⟩
  have mv : ∀ {d : D} {r p} {v1 : V}, (∀ z, (r, z ++ p) ≠ (j + 1, ([] : List Nat))) → Rep G.C a r p v1 d → Rep G.C ⟨a.F, upd a.H x (.lst (vs.set n v)), a.t⟩ r p v1 d := fun {d r p v1} hne h => by
    have := Rep.to (C := G.C) (a := a) (b := ⟨a.F, upd a.H x (.lst (vs.set n v)), a.t⟩) (r := r) (s := r) (p := p) (q := p) (fun _ _ h => h) (fun y z o h e => ⟨h, by
      show upd a.H x _ y = _
      rw [up (ne h (by intro q; exact hne z (Option.some.inj q)))]; exact e⟩) d [] v1
    exact this h
  refine ⟨x, vs, h1, hx, hl.len, fun y o e t => ⟨by show upd a.H x _ y = _; rw [up (ne t (by simp))]; exact e, t, rfl⟩, ⟨ok', by rw [List.length_set]; exact r.len, fun i d e => ?_, r.prm⟩⟩
  by_cases ij : j = i
  · subst ij
    have hj : j < env.length := (List.getElem?_eq_some_iff.mp h).1
    rw [List.getElem?_set_self hj] at e
    cases e
    refine ⟨.ref x, h1, ?_⟩
    simp only [Rep]
    refine ⟨x, vs.set n v, rfl, ?_, ?_⟩
    · rw [if_pos trivial]; exact ⟨tx, upd_same⟩
    · exact repL_set (fun k => Rep.fz (a := a) (b := ⟨a.F, upd a.H x (.lst (vs.set n v)), a.t⟩) (fun _ _ h => h) y _ _ v z hy) (repL_map (fun d k v1 h => mv (by simp) h) hl)
  · rw [List.getElem?_set_ne ij] at e
    obtain ⟨w, e1, e2⟩ := r.slot i d e
    exact ⟨w, e1, mv (by intro z q; exact ij (Nat.succ.inj (congrArg Prod.fst q)).symm) e2⟩
theorem set_w {j : Nat} {mi mv : EM D} {D : Ends} (h : tS G W (mSet j mi mv) D σ H) : tAsg (tE G W mv) (gSub (tVar j) (tE G W mi) rSetL) D σ H := by
  obtain ⟨a, env, rfl, rel, post⟩ := h
  refine tE_ofS rel post fun y e1 b v st r1 rv p1 => ?_
  dsimp only at p1
  split at p1
  · rename_i dj hj0
    obtain ⟨zy, ry⟩ := frzQ_rep (s := 0) (q := []) r1.ok rv
    have r1' := r1.frz0
    obtain ⟨w, hw, _⟩ := r1.slot j _ hj0
    refine ⟨w, hw, ?_⟩
    show tE G W mi σ (frzW b 0).H _
    refine (frz_w (m := mi) (Q := fun i H2 => rSetL w i v H2 fun H3 => D.nx σ H3) ?_)
    refine tArg_ofS r1' (PostS.step frzW_step p1) fun x e2 c u s2 r2 ar p2 => ?_
    dsimp only at p2
    split at p2
    · rename_i d i hj hi
      cases hs : setQ d i (frzQ y) with
      | none => rw [hs] at p2; exact (show False from p2).elim
      | some d' =>
        rw [hs] at p2
        dsimp only at p2
        obtain ⟨ri, pi⟩ := ar.rep r2 hi
        unfold setQ at hs
        split at hs
        · rename_i l k
          cases rep_int pi
          cases hk : ixN l.length k with
          | none => rw [hk] at hs; cases hs
          | some n =>
            rw [hk] at hs; cases hs
            obtain ⟨xx, vs, g1, g2, g3, g4, g5⟩ := r2.put (n := n) (s := 0) (q := []) hj zy (ry.step r1'.ok s2 zy)
            rw [hw] at g1; cases g1
            refine ⟨xx, vs, k, n, rfl, rfl, g2, by rw [g3]; exact hk, p2 _ σ g4 g5⟩
        · cases hs
    · exact (show False from p2).elim
  · exact (show False from p1).elim
end
end Mi
namespace L2
open PySem PySem.Spec PyProof.Rows
theorem PE.weak {X : Cx} {e : Expr} {t u : TE} (h : PE X e t) (w : ∀ σ H Q, u σ H Q → t σ H Q) : PE X e u := Mi.PE.weak h w
theorem PT.weak {X : Cx} {e : Expr} {t u : TT} (h : PT X e t) (w : ∀ σ H Q, u σ H Q → t σ H Q) : PT X e u := Mi.PT.weak h w
theorem PW.weak {X : Cx} {e : Expr} {t u : TT} (h : PW X e t) (w : ∀ σ H Q, u σ H Q → t σ H Q) : PW X e u := Mi.PW.weak h w
theorem PA.weak {X : Cx} {e : List Expr} {t u : TA} (h : PA X e t) (w : ∀ σ H Q, u σ H Q → t σ H Q) : PA X e u := Mi.PA.weak h w
theorem PS.weak {X : Cx} {e : Stmt} {t u : TS} (h : PS X e t) (w : ∀ D σ H, u D σ H → t D σ H) : PS X e u := Mi.PS.weak h w
theorem PSs.weak {X : Cx} {e : List Stmt} {t u : TS} (h : PSs X e t) (w : ∀ D σ H, u D σ H → t D σ H) : PSs X e u := Mi.PSs.weak h w
theorem PI.weak {X : Cx} {tg e : Expr} {t u : TI} (h : PI X tg e t) (w : ∀ σ H R, u σ H R → t σ H R) : PI X tg e u := Mi.PI.weak h w
end L2
namespace Mi
open PySem PySem.Spec PyProof.Rows L2

/-! ### rules: expressions -/
section
variable {X : Cx} {G : Gm} {W : WX} {lv : Nat} {a b c e : Expr} {es : List Expr} {ma mb mc : EM Arg} {m n : EM D} {ms : List (EM Arg)} {mas : EM (List Arg)} {pos p : Pos} {x : Str}
theorem r_int {i : Int} {j} : PE X (.Constant (.int i) j pos) (tE G W (mC (.int i))) := pe_int.weak fun _ _ _ q => c_w (fun _ _ => by simp [Rep]) q
theorem r_str {i : Str} {j} : PE X (.Constant (.str i) j pos) (tE G W (mC (.str i))) := pe_str.weak fun _ _ _ q => c_w (fun _ _ => by simp [Rep]) q
theorem r_bl {i : Bool} {j} : PE X (.Constant (.bool i) j pos) (tE G W (mC (.bl i))) := pe_bl.weak fun _ _ _ q => c_w (fun _ _ => by simp [Rep]) q
theorem r_non {j} : PE X (.Constant .none j pos) (tE G W (mC .non)) := pe_non.weak fun _ _ _ q => c_w (fun _ _ => by simp [Rep]) q
theorem r_frz (h : PE X e (tE G W m)) : PE X e (tArg G W (mFrz m)) := h.weak fun _ _ _ q => frz_w q
theorem r_varA (i : Nat) (hN : X.N[i]? = some x) (hv : Vis X.env.scope x) (hd : (x == ("__debug__" : Str)) = false := by decide) (hcd : (x == ("__classdict__" : Str)) = false := by decide) : PE X (.Name x pos) (tArg G W (mVarA i)) :=
  (pe_var hN hv hd hcd).weak fun _ _ _ q => varA_w q
theorem r_varE (i : Nat) (hN : X.N[i]? = some x) (hv : Vis X.env.scope x) (hd : (x == ("__debug__" : Str)) = false := by decide) (hcd : (x == ("__classdict__" : Str)) = false := by decide) : PE X (.Name x pos) (tE G W (mVarE i)) :=
  (pe_var hN hv hd hcd).weak fun _ _ _ q => varE_w q
theorem r_varM (np i : Nat) (hN : X.N[i]? = some x) (hv : Vis X.env.scope x) (hd : (x == ("__debug__" : Str)) = false := by decide) (hcd : (x == ("__classdict__" : Str)) = false := by decide) : PE X (.Name x pos) (tE G W (mVarM np i)) :=
  (pe_var hN hv hd hcd).weak fun _ _ _ q => varM_w q
/- a module's constant -/
theorem r_gInt (s : St0 X G) {i : Int} (hm : ∃ t, G.C.mg x = some (.int i t)) (hg : Gl X x) (hd : (x == ("__debug__" : Str)) = false := by decide) : PE X (.Name x pos) (tE G W (mC (.int i))) := by
  obtain ⟨t, hm⟩ := hm
  exact (pe_glob (v := .int i) hg (by rw [s.m]; exact hm) ⟨_, rfl⟩ hd).weak fun _ _ _ q => c_w (fun _ _ => by simp [Rep]) q
theorem r_gStr (s : St0 X G) {i : Str} (hm : ∃ t, G.C.mg x = some (.str i t)) (hg : Gl X x) (hd : (x == ("__debug__" : Str)) = false := by decide) : PE X (.Name x pos) (tE G W (mC (.str i))) := by
  obtain ⟨t, hm⟩ := hm
  exact (pe_glob (v := .str i) hg (by rw [s.m]; exact hm) ⟨_, rfl⟩ hd).weak fun _ _ _ q => c_w (fun _ _ => by simp [Rep]) q
theorem r_tup {k} (h : PA X es (tArgs G W mas)) : PE X (.Tuple es k pos) (tE G W (mTup mas)) := (pe_tupX h).weak fun _ _ _ q => tup_w q
theorem r_lst (h : PA X es (tArgs G W mas)) : PE X (.List es pos) (tE G W (mLst mas)) := (pe_lst h).weak fun _ _ _ q => lst_w q
theorem r_dic0 : PE X (.Dict [] [] pos) (tE G W mDic0) := pe_dnewK.weak fun _ _ _ q => dic0_w q
theorem r_nil : PA X [] (tArgs G W (mArgs [])) := pa_nil.weak fun _ _ _ q => args_nil_w q
theorem r_cons (ha : PE X e (tArg G W ma)) (hr : PA X es (tArgs G W (mArgs ms))) (hs : starEach (e :: es) X.env = (false, eval e X.env) :: starEach es X.env := by rfl) : PA X (e :: es) (tArgs G W (mArgs (ma :: ms))) :=
  (pa_cons ha hr hs).weak fun _ _ _ q => args_cons_w q
theorem r_bin (s : St0 X G) {op : Operator} {g : D → D → Option D} (h : binD op = some g) (ha : PE X a (tArg G W ma)) (hb : PE X b (tArg G W mb)) : PE X (.BinOp a op b pos) (tE G W (mBin g ma mb)) :=
  (pe_op (op_binD s.k.symm h) ha hb).weak fun _ _ _ q => bin_w q
theorem r_neg (ha : PE X a (tArg G W ma)) : PE X (.UnaryOp .USub a pos) (tE G W (mUn negD ma)) := (pe_un un_negD ha).weak fun _ _ _ q => un_w q
def cmpD : CmpOp → Option (D → D → Option D)
  | .Eq => some eqD | .NotEq => some neD | .Lt => some ltD | .LtE => some leD | .Gt => some gtD | .GtE => some geD
  | .In => some inD | .NotIn => some ninD | .Is => some isD | .IsNot => some nisD
theorem op_cmpD (s : St0 X G) {op : CmpOp} {g : D → D → Option D} (h : cmpD op = some g) : OpR X (compareOp op) (rD G.C g) := by
  have u1 : X.A.units + 1 < cLine := by have := s.u; omega
  cases op <;> cases h
  · exact op_eqDD s.k.symm s.u
  · exact op_neDD s.k.symm s.u
  · exact op_ltD
  · exact op_leD
  · exact op_gtD
  · exact op_geD
  · exact op_isD s.k.symm
  · exact op_nisD s.k.symm
  · exact op_inD s.k.symm u1
  · exact op_ninD s.k.symm u1
theorem r_cmp (s : St0 X G) {op : CmpOp} {g : D → D → Option D} (h : cmpD op = some g) (ha : PE X a (tArg G W ma)) (hb : PE X b (tArg G W mb)) (hm : behindInMarks op b = false := by first | rfl | exact nobehind _ (by decide) (by decide)) : PE X (.Compare a [op] [b] pos) (tE G W (mBin g ma mb)) :=
  (pe_cmpR (op_cmpD s h) ha hb hm).weak fun _ _ _ q => bin_w q
theorem rt_cmp (s : St0 X G) {op : CmpOp} {g : D → D → Option D} (h : cmpD op = some g) (ha : PE X a (tArg G W ma)) (hb : PE X b (tArg G W mb)) (hm : behindInMarks op b = false := by first | rfl | exact nobehind _ (by decide) (by decide)) : PT X (.Compare a [op] [b] pos) (tT G W (mTB (mBin g ma mb))) :=
  (pt_cmpR (op_cmpD s h) ha hb hm).weak fun _ _ _ q => bin_w (tb_w q)
theorem r_chain (s : St0 X G) {op op' : CmpOp} {g g' : D → D → Option D} (h : cmpD op = some g) (h' : cmpD op' = some g') (ha : PE X a (tArg G W ma)) (hb : PE X b (tArg G W mb)) (hc : PE X c (tArg G W mc)) (hm : lastMarks [op, op'] [b, c] = false := by with_unfolding_all rfl) :
    PE X (.Compare a [op, op'] [b, c] pos) (tE G W (mChain g g' ma mb mc)) := (pe_chain (op_cmpD s h) (op_cmpD s h') ha hb hc hm).weak fun _ _ _ q => chain_w q
theorem rt_chain (s : St0 X G) {op op' : CmpOp} {g g' : D → D → Option D} (h : cmpD op = some g) (h' : cmpD op' = some g') (ha : PE X a (tArg G W ma)) (hb : PE X b (tArg G W mb)) (hc : PE X c (tArg G W mc)) (hm : lastMarks [op, op'] [b, c] = false := by with_unfolding_all rfl) :
    PT X (.Compare a [op, op'] [b, c] pos) (tT G W (mTB (mChain g g' ma mb mc))) := (pt_chain (op_cmpD s h) (op_cmpD s h') ha hb hc hm).weak fun _ _ _ q => chain_w (tb_w q)
/-! values of and, or, not, if -/
theorem r_one {op} (h : PE X a (tE G W m)) : PE X (.BoolOp op [a] pos) (tE G W m) := pe_one h
theorem r_and (ha : PE X a (tE G W m)) (hb : PE X (.BoolOp .And (b :: es) pos) (tE G W n)) : PE X (.BoolOp .And (a :: b :: es) pos) (tE G W (mAndV m n)) := (pe_and ha hb).weak fun _ _ _ q => andV_w q
theorem r_or (ha : PE X a (tE G W m)) (hb : PE X (.BoolOp .Or (b :: es) pos) (tE G W n)) : PE X (.BoolOp .Or (a :: b :: es) pos) (tE G W (mOrV m n)) := (pe_or ha hb).weak fun _ _ _ q => orV_w q
theorem r_not (ha : PE X a (tE G W m)) : PE X (.UnaryOp .Not a pos) (tE G W (mNotV m)) := (pe_not ha).weak fun _ _ _ q => notV_w q
variable {mt nt : EM Bool}
theorem r_ifE (hc : PT X c (tT G W mt)) (ha : PE X a (tE G W m)) (hb : PE X b (tE G W n)) : PE X (.IfExp c a b pos) (tE G W (mIfE mt m n)) := (pe_ifExp hc ha hb).weak fun _ _ _ q => ifE_w q
/-! tests -/
theorem rt_and1 (h : PT X a (tT G W mt)) : PW X (.BoolOp .And [a] pos) (tT G W mt) := pw_and1 h
theorem rt_or1 (h : PT X a (tT G W mt)) : PW X (.BoolOp .Or [a] pos) (tT G W mt) := pw_or1 h
theorem rt_and (h : PT X a (tT G W mt)) (hb : PW X (.BoolOp .And (b :: es) pos) (tT G W nt)) : PW X (.BoolOp .And (a :: b :: es) pos) (tT G W (mAndT mt nt)) := (pw_and h hb).weak fun _ _ _ q => and_w q
theorem rt_or (h : PT X a (tT G W mt)) (hb : PW X (.BoolOp .Or (b :: es) pos) (tT G W nt)) : PW X (.BoolOp .Or (a :: b :: es) pos) (tT G W (mOrT mt nt)) := (pw_or h hb).weak fun _ _ _ q => or_w q
theorem rt_not (h : PT X a (tT G W mt)) : PT X (.UnaryOp .Not a pos) (tT G W (mNotT mt)) := (pt_not h).weak fun _ _ _ q => not_w q
theorem rt_bl (h : PE X e (tE G W m)) (he : ∀ whole, isTrue e X.env whole = (do let v ← whole; standAt e.pos; holding [v] (truthy v)) := by intro _; rfl) : PT X e (tT G W (mTB m)) := (pt_val h he).weak fun _ _ _ q => tb_w q
theorem rt_tru (s : St0 X G) (h : PE X e (tArg G W ma)) (he : ∀ whole, isTrue e X.env whole = (do let v ← whole; standAt e.pos; holding [v] (truthy v)) := by intro _; rfl) : PT X e (tT G W (mTru ma)) := (pt_truth h he).weak fun _ _ _ q => by
  have := tru_w q
  rw [s.k]; exact this
/-! subscripts -/
theorem r_ix (s : St0 X G) (ha : PE X a (tArg G W ma)) (hb : PE X b (tArg G W mb)) (hs : PlainIx b := by intro _ _; rfl) : PE X (.Subscript a b pos) (tE G W (mBin ixD ma mb)) := (pe_ix (ix_D s.k.symm (by have := s.u; omega)) ha hb hs).weak fun _ _ _ q => bin_w q
variable {lo hi : Option Expr} {ml mh : EM (Option Int)} {p2 : Pos}
theorem PO.weak {o : Option Expr} {t u : TO} (h : PO X o t) (w : ∀ σ H Q, u σ H Q → t σ H Q) : PO X o u := ⟨fun pins s σ H Q I q => h.run pins s σ H Q I (w σ H Q q)⟩
theorem r_noP : PO X none (tO G W mNoP) := PO.weak po_none fun _ _ _ q => noP_w q
theorem r_part (h : PE X e (tE G W m)) : PO X (some e) (tO G W (mPart m)) := PO.weak (po_some h) fun _ _ _ q => part_w q
theorem r_sl (s : St0 X G) (ha : PE X a (tArg G W ma)) (hl : PO X lo (tO G W ml)) (hh : PO X hi (tO G W mh)) : PE X (.Subscript a (.Slice lo hi none p2) pos) (tE G W (mSl ma ml mh)) := (pe_slice (sl_D s.k.symm) ha hl hh).weak fun _ _ _ q => sl_w q
/-! builtins -/
theorem r_isi (s : St0 X G) (k : TyK) {tn : Str} {p3 : Pos} (ha : PE X a (tArg G W ma)) (h1 : G.C.mg "isinstance" = none) (h2 : G.C.mg tn = none) (hg : Gl X "isinstance") (hgt : Gl X tn) (hv : bootBuiltins tn = some (.type k.nm)) (hv1 : bootBuiltins "isinstance" = some (.builtin "isinstance"))
    (hn : tn ≠ "__name__" := by decide) (hd : (tn == ("__debug__" : Str)) = false := by decide)
    (hs : starEach [a, .Name tn p3] X.env = (false, eval a X.env) :: starEach [.Name tn p3] X.env := by rfl) (hpl : (backTo pos (starEach [Expr.Name tn p3] X.env)).any (·.1) = false := by rfl) :
    PE X (.Call (.Name "isinstance" p) [a, .Name tn p3] [] pos) (tE G W (mIsi k ma)) :=
  (pe_callB call_isi hg (by rw [s.m]; exact h1) hv1 (pa_cons ha (pa_cons (pe_bltn hgt (by rw [s.m]; exact h2) hv (show RelV (.ty k.nm) _ from rfl) hn hd) pa_nil) hs) (by decide) (by decide) hs hpl).weak fun _ _ _ q => by
    have := isi_w q
    rw [s.k]; exact this
theorem r_cb (s : St0 X G) {id : String} {g : List D → Option D} (hc : CallR X (.builtin id) (cD G.C g)) (hm : G.C.mg x = none) (hv : bootBuiltins x = some (.builtin id)) (hg : Gl X x) (ha : PA X (e :: es) (tArgs G W mas)) (hn : x ≠ "__name__" := by decide) (hdb : (x == ("__debug__" : Str)) = false := by decide)
    (he : starEach (e :: es) X.env = (false, eval e X.env) :: starEach es X.env := by rfl) (hpl : (backTo pos (starEach es X.env)).any (·.1) = false := by rfl) : PE X (.Call (.Name x p) (e :: es) [] pos) (tE G W (mCB g mas)) :=
  (pe_callB hc hg (by rw [s.m]; exact hm) hv ha hn hdb he hpl).weak fun _ _ _ q => cb_w q
theorem r_cty (s : St0 X G) {id : String} {g : List D → Option D} (hc : CallR X (.type id) (cD G.C g)) (hm : G.C.mg x = none) (hv : bootBuiltins x = some (.type id)) (hg : Gl X x) (ha : PA X (e :: es) (tArgs G W mas)) (hn : x ≠ "__name__" := by decide) (hdb : (x == ("__debug__" : Str)) = false := by decide)
    (he : starEach (e :: es) X.env = (false, eval e X.env) :: starEach es X.env := by rfl) (hpl : (backTo pos (starEach es X.env)).any (·.1) = false := by rfl) : PE X (.Call (.Name x p) (e :: es) [] pos) (tE G W (mCB g mas)) :=
  (pe_callTy hc hg (by rw [s.m]; exact hm) hv ha hn hdb he hpl).weak fun _ _ _ q => cb_w q
end

/-! ### rules: own defs -/
structure Fn (C : KM) (k : Nat) (x : Str) (g : List D → Res (D × EnvD)) : Prop where
  ex : ∃ (a : Addr) (fd : FuncData) (ps : List Str), C.mg x = some (.ref a) ∧ PySem.W.keepIn C.K (.ref a) = true ∧ Binds C.K fd ps [] ∧ ∀ base : Heap, C.K.In base → base.Ns mainGlobals C.mg → FnOk C.P C.w C.K C.mg base (L2.CX C.P C.w) k a fd ps (spD C g)
section
variable {X : Cx} {G : Gm} {W : WX} {lv j : Nat} {e : Expr} {es : List Expr} {mas : EM (List Arg)} {pos p : Pos} {x : Str} {g : List D → Res (D × EnvD)}
theorem Fn.call (F : Fn G.C j x g) (s : Go X G W lv) (h : j ≤ lv) : ∃ a, G.C.mg x = some (.ref a) ∧ PySem.W.keepIn G.C.K (.ref a) = true ∧ CallOk G.C X g (.ref a) := by
  obtain ⟨a, fd, ps, h1, h2, h3, h4⟩ := F.ex
  refine ⟨a, h1, h2, fun W' tk pins s0 σ H us vs Q I r hsp => ?_⟩
  have hk : G.C.K.In X.base := by rw [← s.k]; exact I.ok.mod.kin
  have hb : X.base.Ns mainGlobals G.C.mg := by rw [← s.m]; exact I.ok.mod.glob
  have F' := h4 X.base hk hb
  have e1 := s.p; have e2 := s.w; have e3 := s.k; have e4 := s.m
  rw [← e1, ← e2, ← e3, ← e4] at F'
  rw [← e3] at h3
  exact run_fnS (E := WE W') F' (s.rm.mono h) h3 (passAt tk σ) I r hsp
theorem r_call (s : Go X G W lv) (F : Fn G.C j x g) (hj : j ≤ lv) (hg : Gl X x) (ha : PA X (e :: es) (tArgs G W mas)) (hdb : (x == ("__debug__" : Str)) = false := by decide) (he : starEach (e :: es) X.env = (false, eval e X.env) :: starEach es X.env := by rfl)
    (hpl : (backTo pos (starEach es X.env)).any (·.1) = false := by rfl) : PE X (.Call (.Name x p) (e :: es) [] pos) (tE G W (mCall g mas)) := by
  obtain ⟨a, h1, h2, h3⟩ := F.call s hj
  exact pe_callD h3 s.tk hg (by rw [s.m]; exact h1) (by rw [s.k]; exact h2) ha hdb he hpl
theorem r_call0 (s : Go X G W lv) (F : Fn G.C j x g) (hj : j ≤ lv) (hg : Gl X x) (hdb : (x == ("__debug__" : Str)) = false := by decide) : PE X (.Call (.Name x p) [] [] pos) (tE G W (mCall g (mArgs []))) := by
  obtain ⟨a, h1, h2, h3⟩ := F.call s hj
  exact pe_callD0 h3 s.tk hg (by rw [s.m]; exact h1) (by rw [s.k]; exact h2) hdb
end

/-! ### rules: walks, targets -/
section
variable {X : Cx} {G : Gm} {W : WX} {lv : Nat} {a b e tg : Expr} {es : List Expr} {ma : EM Arg} {mas : EM (List Arg)} {pos p : Pos} {x : Str}
theorem ri_rng1 (s : St0 X G) (h1 : G.C.mg "range" = none) (hg : Gl X "range") (ha : PA X [a] (tArgs G W mas)) (hs : starEach [a] X.env = [(false, eval a X.env)] := by rfl) : PI X tg (.Call (.Name "range" p) [a] [] pos) (tI G W (mIt mas rng1)) :=
  (pi_range1 hg (by rw [s.m]; exact h1) ha hs).weak fun _ _ _ q => rng1_w q
theorem ri_rng2 (s : St0 X G) (h1 : G.C.mg "range" = none) (hg : Gl X "range") (ha : PA X [a, b] (tArgs G W mas)) (hs : starEach [a, b] X.env = [(false, eval a X.env), (false, eval b X.env)] := by rfl) (hs2 : starEach [b] X.env = [(false, eval b X.env)] := by rfl) : PI X tg (.Call (.Name "range" p) [a, b] [] pos) (tI G W (mIt mas rng2)) :=
  (pi_range2 hg (by rw [s.m]; exact h1) ha hs hs2).weak fun _ _ _ q => rng2_w q
theorem ri_val (s : St0 X G) (ha : PE X e (tArg G W ma)) : PI X tg e (tI G W (mIt1 ma)) :=
  (pi_or (pi_list ha) (pi_or (pi_tup ha) (pi_str ha))).weak fun _ _ _ q => by
    have := it1_w q
    rw [s.k]; exact this
theorem rg_nm (s : St0 X G) (i : Nat) (hi : X.N[i]? = some x) (hx : Loc X.env.scope x) (hf : X.fn x = true ∨ X.env.scope.names.lookup x = some .local := by first | exact .inl rfl | exact .inr rfl) : PG X (.Name x pos) (gT G.C.K (.nm i)) := by
  have := pg_name (pos := pos) s.n hi hx hf
  simpa only [gT] using this
theorem rg_nil : PGs X [] (gTs G.C.K []) := by simpa only [gTs] using pgs_nil
theorem rg_cons {t : Tgt} {ts : List Tgt} (h1 : PG X e (gT G.C.K t)) (h2 : PGs X es (gTs G.C.K ts)) (hs : (assignEach (e :: es) X.env).map (·.2) = assign e X.env :: (assignEach es X.env).map (·.2) := by rfl) : PGs X (e :: es) (gTs G.C.K (t :: ts)) := by
  simpa only [gTs] using pgs_cons h1 h2 hs
theorem rg_tup (s : St0 X G) (cm : X.calm = true) {k : Nat} {ts : List Tgt} (h : PGs X es (gTs G.C.K ts)) (hn : (assignEach es X.env).length = ts.length := by rfl) (hst : (assignEach es X.env).findIdx? (·.1) = none := by rfl) : PG X (.Tuple es k pos) (gT G.C.K (.tp ts)) := by
  have := pg_tup (pos := pos) (k := k) (n := ts.length) cm h hn hst
  rw [s.k] at this
  simpa only [gT] using this
end
end Mi
namespace Mi
open PySem PySem.Spec PyProof.Rows L2

/-! ### rules: statements -/
section
variable {X : Cx} {G : Gm} {W : WX} {lv : Nat} {a b c e tg : Expr} {es : List Expr} {st : Stmt} {sts sus : List Stmt} {m n : EM D} {ma : EM Arg} {mas : EM (List Arg)} {mt : EM Bool} {ms ns : EM FlowD} {mi : EM (List D)} {pos p : Pos} {x : Str}
theorem rs_nil : PSs X [] (tS G W mNext) := pss_nil.weak fun _ _ _ q => next_w q
theorem rs_cons (h1 : PS X st (tS G W ms)) (h2 : PSs X sts (tS G W ns)) : PSs X (st :: sts) (tS G W (mSeq ms ns)) := (pss_cons h1 h2).weak fun _ _ _ q => seq_w q
theorem rs_one (h1 : PS X st (tS G W ms)) : PSs X [st] (tS G W ms) := pss_one h1
theorem rs_pass : PS X (.Pass pos) (tS G W mNext) := ps_pass.weak fun _ _ _ q => next_w q
theorem rs_brk : PS X (.Break pos) (tS G W mBrk) := ps_break.weak fun _ _ _ q => brk_w q
theorem rs_cnt : PS X (.Continue pos) (tS G W mCnt) := ps_continue.weak fun _ _ _ q => cnt_w q
theorem rs_if (hc : PT X c (tT G W mt)) (ha : PSs X sts (tS G W ms)) (hb : PSs X sus (tS G W ns)) : PS X (.If c sts sus pos) (tS G W (mIfS mt ms ns)) := (ps_if hc ha hb).weak fun _ _ _ q => ifS_w q
theorem rs_ret (h : PE X e (tE G W m)) : PS X (.Return (some e) pos) (tS G W (mRet m)) := (ps_ret h).weak fun _ _ _ q => ret_w q
theorem rs_retN : PS X (.Return none pos) (tS G W mRetN) := ps_retN.weak fun _ _ _ q => retN_w q
theorem rs_expr (h : PE X e (tE G W m)) (hs : swapsWith e none pos.line X.env = pure false := by rfl) : PS X (.Expr e pos) (tS G W (mDrop m)) := (ps_expr h hs).weak fun _ _ _ q => drop_w q
theorem rs_set (s : St0 X G) (i : Nat) {pos' : Pos} (hio : i ∉ G.io) (hi : X.N[i]? = some x) (hx : Loc X.env.scope x) (he : PE X e (tE G W m)) (hs : swapsWith e (some (.Name x pos')) pos.line X.env = pure false := by rfl)
    (hf : X.fn x = true ∨ X.env.scope.names.lookup x = some .local := by first | exact .inl rfl | exact .inr rfl) : PS X (.Assign [.Name x pos'] e pos) (tS G W (mAsg i m)) := (ps_set s.n hi hx he hs hf).weak fun _ _ _ q => asg_w hio q
theorem rs_setT (t : Tgt) (hio : Tgt.off G.io t) (he : PE X e (tE G W m)) (hg : PG X tg (gT G.C.K t)) (hs : swapsWithSole [tg] e pos.line X.env = pure false := by rfl) (hw : swappedStores [tg] e X.env = pure none := by rfl)
    (h1 : (assignEach [tg] X.env).map (·.2) = [assign tg X.env] := by rfl) : PS X (.Assign [tg] e pos) (tS G W (mAsgT t m)) := (ps_asg he hg hs hw h1).weak fun _ _ _ q => asgT_w hio q
theorem rs_par (s : St0 X G) (cm : X.calm = true) (i j : Nat) {y : Str} {px py pt : Pos} {kt k2 pt2} (ioi : i ∉ G.io) (ioj : j ∉ G.io) (hi : X.N[i]? = some x) (hj : X.N[j]? = some y) (hij : i ≠ j)
    (hx : X.env.scope.names.lookup x = some .local) (hy : X.env.scope.names.lookup y = some .local) (ha : PA X [a, b] (tArgs G W mas)) (hw : swappedStores [.Tuple [.Name x px, .Name y py] kt pt] (.Tuple [a, b] k2 pt2) X.env = pure (some [x, y]))
    (hs : swapsWithSole [.Tuple [.Name x px, .Name y py] kt pt] (.Tuple [a, b] k2 pt2) pos.line X.env = pure false := by rfl) : PS X (.Assign [.Tuple [.Name x px, .Name y py] kt pt] (.Tuple [a, b] k2 pt2) pos) (tS G W (mPar i j mas)) :=
  (ps_par cm s.n hi hj hij hx hy ha hw hs).weak fun _ _ _ q => par_w ioi ioj q
theorem rs_put (j : Nat) {pos' : Pos} (hN : X.N[j]? = some x) (hv : Vis X.env.scope x) (hi : PE X a (tE G W n)) (he : PE X e (tE G W m)) (hs : swapsWithSole [.Subscript (.Name x p) a pos'] e pos.line X.env = pure false := by rfl) (hw : swappedStores [.Subscript (.Name x p) a pos'] e X.env = pure none := by rfl)
    (h1 : (assignEach [.Subscript (.Name x p) a pos'] X.env).map (·.2) = [assign (.Subscript (.Name x p) a pos') X.env] := by rfl)
    (ha : ∀ v, assign (.Subscript (.Name x p) a pos') X.env v = (do
      let ov ← holding [v] (eval (.Name x p) X.env)
      let iv ← holding [v, ov] (eval a X.env)
      standAt pos'
      holding [v, ov, iv] (setItem ov iv v)
      release [v, ov, iv] []) := by intro _; rfl) (hd : (x == ("__debug__" : Str)) = false := by decide) (hcd : (x == ("__classdict__" : Str)) = false := by decide) : PS X (.Assign [.Subscript (.Name x p) a pos'] e pos) (tS G W (mSet j n m)) :=
  (ps_asg he (pg_sub (pe_var hN hv hd hcd) hi set_list ha) hs hw h1).weak fun _ _ _ q => set_w q
theorem rs_for (s : Go X G W lv) (t : Tgt) (hio : Tgt.off G.io t) (hi : PI X tg e (tI G W mi)) (hg : PG X tg (gT G.C.K t)) (hb : PSs X sts (tS G W ms)) (hs : ∀ x, foldedSetIterable e X.env x = pure x := by intro _; rfl) : PS X (.For tg e sts [] pos) (tS G W (mFor mi t ms)) :=
  (ps_for s.pw s.cm hi hg hb hs).weak fun _ _ _ q => for_w hio q
theorem rs_while (s : Go X G W lv) (fuel : EnvD → Nat) (hc : PT X c (tT G W mt)) (hb : PSs X sts (tS G W ms)) : PS X (.While c sts [] pos) (tS G W (mWhile fuel mt ms)) :=
  (ps_while s.pw hc hb).weak fun _ _ _ q => while_w q
/-! comprehensions -/
theorem rts_nil : PTs X [] (tT G W mYes) := ⟨fun pins s σ H Q I h => pts_nil.run pins s σ H Q I (by
  obtain ⟨a, env, rfl, rel, post⟩ := h
  exact post a (Step.refl a) rel)⟩
theorem rts_one (h : PT X c (tT G W mt)) : PTs X [c] (tT G W mt) := pts_one h
theorem r_lc {elt : Expr} {ifs : List Expr} {scope : Scope} (s : Go X G W lv) (own : List (Str × Nat)) (t : Tgt) (hio : Tgt.off G.io t) (hio2 : ∀ i ∈ G.io, i ∉ own.map (·.2)) (hown : Tgt.ins (own.map (·.2)) t) (hi : PI X tg e (tI G W mi)) (ok : BlkOk X.N X.env.scope scope own)
    (hg : ∀ (s : Shared) (H : Hp) (C : Addr) (cl : List (Str × Addr)) (fp : List Addr), PG (X.blk s H scope (compEnvC scope cl C X.env) fp) tg (gT G.C.K t))
    (ht : ∀ (s : Shared) (H : Hp) (C : Addr) (cl : List (Str × Addr)) (fp : List Addr), Go (X.blk s H scope (compEnvC scope cl C X.env) fp) G W0 lv → PTs (X.blk s H scope (compEnvC scope cl C X.env) fp) ifs (tT G W0 mt))
    (he : ∀ (s : Shared) (H : Hp) (C : Addr) (cl : List (Str × Addr)) (fp : List Addr), Go (X.blk s H scope (compEnvC scope cl C X.env) fp) G W0 lv → PE (X.blk s H scope (compEnvC scope cl C X.env) fp) elt (tE G W0 m)) (hs : ∀ x, foldedSetIterable e X.env x = pure x := by intro _; rfl) :
    PE X (.ListComp elt [⟨tg, e, ifs, 0⟩] scope pos) (tE G W (mLc mi t mt m (own.map (·.2)))) :=
  (pe_lc s.cm s.n hi ok hg (fun s0 H C cl fp => ht s0 H C cl fp (s.blk ..)) (fun s0 H C cl fp => he s0 H C cl fp (s.blk ..)) hs).weak fun _ _ _ q => lc_w hio hio2 hown q
theorem rs_lc {elt : Expr} {ifs : List Expr} {scope : Scope} {py : Pos} (s : Go X G W lv) (i : Nat) (own : List (Str × Nat)) (t : Tgt) (hioi : i ∉ G.io) (hio : Tgt.off G.io t) (hio2 : ∀ i ∈ G.io, i ∉ own.map (·.2)) (hown : Tgt.ins (own.map (·.2)) t)
    (hy : X.N[i]? = some x) (hyl : X.env.scope.names.lookup x = some .local) (hsw : swapsWith (.ListComp elt [⟨tg, e, ifs, 0⟩] scope p) (some (.Name x py)) pos.line X.env = pure true) (hi : PI X tg e (tI G W mi)) (ok : BlkOk X.N X.env.scope scope own)
    (hg : ∀ (s : Shared) (H : Hp) (C : Addr) (cl : List (Str × Addr)) (fp : List Addr), PG (X.blk s H scope (compEnvC scope cl C X.env) fp) tg (gT G.C.K t))
    (ht : ∀ (s : Shared) (H : Hp) (C : Addr) (cl : List (Str × Addr)) (fp : List Addr), Go (X.blk s H scope (compEnvC scope cl C X.env) fp) G W0 lv → PTs (X.blk s H scope (compEnvC scope cl C X.env) fp) ifs (tT G W0 mt))
    (he : ∀ (s : Shared) (H : Hp) (C : Addr) (cl : List (Str × Addr)) (fp : List Addr), Go (X.blk s H scope (compEnvC scope cl C X.env) fp) G W0 lv → PE (X.blk s H scope (compEnvC scope cl C X.env) fp) elt (tE G W0 m)) (hs : ∀ x, foldedSetIterable e X.env x = pure x := by intro _; rfl) :
    PS X (.Assign [.Name x py] (.ListComp elt [⟨tg, e, ifs, 0⟩] scope p) pos) (tS G W (mAsg i (mLc mi t mt m (own.map (·.2))))) :=
  (ps_setLc s.cm s.n hy hyl hsw hi ok hg (fun s0 H C cl fp => ht s0 H C cl fp (s.blk ..)) (fun s0 H C cl fp => he s0 H C cl fp (s.blk ..)) hs).weak fun D σ H q => by
    obtain ⟨a, env, h1, rel, post⟩ := asg_w hioi q
    exact lc_w hio hio2 hown ⟨a, env, h1, rel, post⟩
end

/-! ### exceptions -/
def mExc (x : Str) : EM FlowD := fun env => .exc ⟨x, [], []⟩ env
/- an own class over ValueError, no __init__ -/
structure ExcC (C : KM) (x : Str) : Prop where
  ex : ∃ a, C.mg x = some (.ref a) ∧ PySem.W.excIn C.K a [.type "ValueError", .type "Exception", .type "BaseException", .type "object"] "ValueError.__new__" = true ∧ PySem.W.keepIn C.K (.ref a) = true ∧ PySem.W.subIn C.K (.ref a) (.type "BaseException") = some true ∧ PySem.W.typeIn C.K (.ref a) = some (.type "type")
def calmR (r : Res (FlowD × EnvD)) : Res (FlowD × EnvD) := match r with
  | .ok x => .ok x
  | _ => .bad
def mTry (yes no : List Str) (body suite : EM FlowD) : EM FlowD := fun env => match body env with
  | .exc x e => if x.cls ∈ yes then calmR (suite e) else if x.cls ∈ no then .exc x e else .bad
  | r => r
section
variable {X : Cx} {G : Gm} {W : WX} {lv : Nat} {pos p pos' : Pos} {x : Str}
theorem pmk_own0 {C : Addr} {bmB : List Value} {B newId initId : String} (F : ExcBaseFacts B newId initId bmB) (q : PySem.W.excIn X.K C bmB newId = true) (gC : X.mg x = some (.ref C)) (kC : PySem.W.keepIn X.K (.ref C) = true) (r : Raises X (.ref C)) (hg : Gl X x)
    (hdb : (x == ("__debug__" : Str)) = false := by decide) : PMk X (.Call (.Name x p) [] [] pos) (fun _ H Q => Q (.ref C) none H) := by
  intro pins s σ H Q I h
  refine wpAny_Call_Name_kw (ld_glob I hg gC ?_ hdb)
  obtain ⟨hp1, g1, d1, tk1, os1⟩ := s
  refine PySem.W.callWith_K0 I.kIn kC ?_
  show wpAny _ _ (call (.ref C) []) _ _ _
  obtain ⟨bm, N, nm, qn, bs, hdct, sn, sub, ab, col, dd, k0, k1, k2, k3, k5, mN, hC, hN, hni, T⟩ := exc_obj I.kIn q
  refine wpAny_call_exc_subT F T hC hN hni (fun h' e hm => ?_) (Nat.zero_le _)
  exact mk_of I hm r h (I.hok.gone hm.new)
theorem rs_raise0 (s : Go X G W lv) (E : ExcC G.C x) (hg : Gl X x) (hdb : (x == ("__debug__" : Str)) = false := by decide) : PS X (.Raise (some (.Call (.Name x p) [] [] pos)) none pos') (tS G W (mExc x)) := by
  obtain ⟨a, h1, h2, h3, h4, h5⟩ := E.ex
  rw [← s.k] at h2 h3 h4 h5
  rw [← s.m] at h1
  refine (ps_raise s.cm s.tk (pmk_own0 PySem.F.excBase_ValueError h2 h1 h3 (raises_own h4 h5) hg hdb)).weak fun D σ H q => ?_
  obtain ⟨a', env, rfl, rel, post⟩ := q
  exact post a' σ (.ref a) none (Step.refl a') rel ⟨by rw [← s.m]; exact h1, .inl ⟨rfl, rfl, rfl⟩⟩
theorem rs_try {c : Value} {body : List Stmt} {b0 : Stmt} {suite : List Stmt} {np : Pos} {ms ns : EM FlowD} (s : Go X G W lv) (hst : X.stack = X.env :: X.outer) (hf : X.env.frame = some X.env.locals) (hc : Names X x c) (yes no : List Str)
    (hy : ∀ n ∈ yes, ∀ u, G.C.mg n = some u → PySem.W.exmOne G.C.K u c = some true) (hn : ∀ n ∈ no, ∀ u, G.C.mg n = some u → PySem.W.exmOne G.C.K u c = some false)
    (hb : ∀ (W' : WX) (pn : List (Addr × Obj)) (xe : Value → Shared → Prop), Go (X.tr pn xe) G W' lv → PSs (X.tr pn xe) body (tS G W' ms))
    (hsu : ∀ (a : Addr) (pn : List (Addr × Obj)), St0 (X.suite a pn) G → PSs (X.suite a pn) (b0 :: suite) (tS G W0 ns)) :
    PS X (.Try body [.ExceptHandler (some (.Name x np)) none (b0 :: suite) pos'] [] [] pos) (tS G W (mTry yes no ms ns)) := by
  refine (ps_try_only hst hf hc s.tk (fun W' pn xe tk pw => hb W' pn xe (s.tr tk pw)) (fun a oe cls d pn _ _ => hsu a ((a, oe) :: pn) (s.suite a _))).weak fun D σ H q => ?_
  obtain ⟨a, env, rfl, rel, post⟩ := q
  refine ⟨a, env, rfl, rel, ?_⟩
  unfold mTry at post
  cases hm : ms env with
  | bad => rw [hm] at post; exact post
  | ok fe =>
    obtain ⟨f, e⟩ := fe
    rw [hm] at post
    cases f <;> exact post
  | exc y e =>
    rw [hm] at post
    dsimp only at post
    split at post
    · rename_i hin
      intro b σ' cls dd st r er
      refine ⟨true, by rw [s.k]; exact hy _ hin _ er.1, fun _ u _ => ?_, fun z => Bool.noConfusion z⟩
      refine ⟨b, e, rfl, r, PostS.step st ?_⟩
      cases hs : ns e with
      | bad => rw [hs] at post; exact post
      | exc z e2 => rw [hs] at post; exact (show False from post).elim
      | ok fe =>
        obtain ⟨f, e2⟩ := fe
        rw [hs] at post
        cases f <;> exact post
    · split at post
      · rename_i hin
        intro b σ' cls dd st r er
        exact ⟨false, by rw [s.k]; exact hn _ hin _ er.1, fun z => Bool.noConfusion z, fun _ => post b σ' cls dd st r er⟩
      · exact (show False from post).elim
end

/-! ### a def -/
def ownOk (io : List Nat) : List D → Nat → Bool
  | [], _ => true
  | d :: ds, i => (fz d || io.contains i) && ownOk io ds (i + 1)
def outsD (np : Nat) (io : List Nat) (e : EnvD) : EnvD := (List.range np).map fun i => if io.contains i then (e[i]?).join else none
def runD (np n : Nat) (io : List Nat) (m : EM FlowD) : List D → Res (D × EnvD) := fun ds =>
  if ds.length = np ∧ ownOk io ds 0 = true then
    match m (ds.map some ++ List.replicate (n - np) none) with
    | .ok (.ret d, e) => .ok (d, outsD np io e)
    | .ok (.next, e) => .ok (.non, outsD np io e)
    | .exc x e => .exc x (outsD np io e)
    | _ => .bad
  else .bad
theorem outs_rep {G : Gm} {b : Wd} {σ : L2.St} {e : EnvD} (r : RelE G b σ e) {np : Nat} (hv : np ≤ G.vs0.length) : OutRep G.C b G.vs0 (outsD np G.io e) := fun i d h => by
  unfold outsD at h
  rw [List.getElem?_map] at h
  by_cases hi : i < np
  · rw [List.getElem?_range hi] at h
    have h : (if G.io.contains i then (e[i]?).join else none) = some d := Option.some.inj h
    split at h
    · rename_i hio
      have hio : i ∈ G.io := by simpa using hio
      cases he : e[i]? with
      | none => rw [he] at h; cases h
      | some o =>
        rw [he] at h
        have h : o = some d := h
        subst h
        obtain ⟨v, h1, h2⟩ := r.slot i d he
        have hl : i < G.vs0.length := Nat.lt_of_lt_of_le hi hv
        have h3 := r.prm i hio _ (List.getElem?_eq_getElem hl)
        rw [h1] at h3; cases h3
        exact ⟨_, List.getElem?_eq_getElem hl, h2⟩
    · cases h
  · rw [List.getElem?_eq_none (by simpa using hi)] at h; cases h
abbrev CxD (C : KM) (base : Heap) (N : List Str) (qual : Str) (sc : Scope) (f : Addr) (cd : Value) (A : Around) (outer : List Env) (s : Shared) (H : Hp) (E : XK) : Cx := cxOf (L2.CX C.P C.w) C.P C.w C.K C.mg base N qual sc f cd A outer s H E
theorem fn_def {C : KM} {N ps : List Str} {st : Stmt} {x : Str} {f : Addr} {fd : FuncData} {lv : Nat} (io : List Nat) (m : EM FlowD) (F : Fun C.K x x st f fd) (S : FnScope N ps (defScope st)) (hb : Binds C.K fd ps []) (hm : C.mg x = some (.ref f))
    (body : ∀ (base : Heap) (cdv : Value) (A : Around) (outer : List Env) (s : Shared) (H : Hp) (E : XK) (vs : List V) (W : WX), Go (CxD C base N x (defScope st) f cdv A outer s H E) ⟨C, vs, io⟩ W lv → PSs (CxD C base N x (defScope st) f cdv A outer s H E) (defBody st) (tS ⟨C, vs, io⟩ W m)) :
    Fn C (lv + 1) x (runD ps.length N.length io m) := by
  refine ⟨f, fd, ps, hm, F.kp, hb, fun base _ _ => ?_⟩
  have hpl : ps.length ≤ N.length := by have := congrArg List.length S.pre; rw [List.length_take] at this; omega
  refine F.okX S (fun vs H Q E h => ?_) fun cdv A outer s H vs Q E hr h => ?_
  · obtain ⟨a, ds, _, _, hl, _, h⟩ := h
    unfold runD at h
    by_cases z : ds.length = ps.length ∧ ownOk io ds 0 = true
    · rw [← hl, z.1]
    · rw [if_neg z] at h; exact h.elim
  · obtain ⟨a, ds, rfl, ok, hl, hrep, h⟩ := h
    have go : Go (CxD C base N x (defScope st) f cdv A outer s a.H E) ⟨C, vs, io⟩ (fun cls d _ H => E cls d H) lv :=
      { p := rfl, w := rfl, k := rfl, m := rfl, n := S.nd, u := by have := hr.un; show (A.deeper _).units + 64 < cLine; omega, tk := takes_of rfl rfl rfl rfl, pw := passes_of rfl, rm := hr, cm := rfl }
    refine ⟨_, body base cdv A outer s a.H E vs _ go, ?_⟩
    unfold runD at h
    by_cases z : ds.length = ps.length ∧ ownOk io ds 0 = true
    · rw [if_pos z] at h
      have hlen : vs.length = ps.length := by rw [← hl, z.1]
      refine ⟨a, ds.map some ++ List.replicate (N.length - ps.length) none, rfl, ⟨ok, ?_, fun i d e => ?_, fun i hi v hv => ?_⟩, ?_⟩
      · unfold L2.start
        rw [List.length_append, List.length_append, List.length_map, List.length_map, List.length_replicate, List.length_replicate, z.1, hlen]
      · have hi : i < ds.length := by
          by_cases hi : i < ds.length
          · exact hi
          · rw [List.getElem?_append_right (by simpa using hi), List.getElem?_replicate] at e
            split at e <;> cases e
        have e2 : ds[i]? = some d := by
          rw [List.getElem?_append_left (by simpa using hi), List.getElem?_map] at e
          cases q : ds[i]? with
          | none => rw [q] at e; cases e
          | some d' => rw [q] at e; cases e; rfl
        obtain ⟨v, h1, h2⟩ := hrep i d e2
        refine ⟨v, ?_, h2⟩
        unfold L2.start
        rw [List.getElem?_append_left (by rw [List.length_map]; exact (List.getElem?_eq_some_iff.mp h1).1), List.getElem?_map, h1]; rfl
      · have hv : vs[i]? = some v := hv
        unfold L2.start
        rw [List.getElem?_append_left (by rw [List.length_map]; exact (List.getElem?_eq_some_iff.mp hv).1), List.getElem?_map, hv]; rfl
      · cases hm : m (ds.map some ++ List.replicate (N.length - ps.length) none) with
        | bad => rw [hm] at h; exact h.elim
        | exc y e => rw [hm] at h; exact fun b σ cls dd st r er => h b cls dd st r.ok (outs_rep r (Nat.le_of_eq hlen.symm)) er
        | ok fe =>
          obtain ⟨fl, e⟩ := fe
          rw [hm] at h
          cases fl with
          | next => exact fun b σ st r => h b .non st r.ok (outs_rep r (Nat.le_of_eq hlen.symm)) (by simp [Rep])
          | ret d => exact fun b σ v st r rp => h b v st r.ok (outs_rep r (Nat.le_of_eq hlen.symm)) rp
          | brk => exact h.elim
          | cont => exact h.elim
    · rw [if_neg z] at h; exact h.elim
end Mi
namespace Mi
open PySem PySem.Spec PyProof.Rows L2
/-! ### {k: v} -/
def mDic1 (mk mv : EM Arg) : EM D := fun env => (mk env).bind fun (x, e1) => (mv e1).bind fun (y, e2) => match x.get e2, y.get e2 with
  | some d1, some d2 => match keyD d1 with
    | some _ => if fz d2 = true then .ok (.dic true [d1] [d2], e2) else .bad
    | none => .bad
  | _, _ => .bad
theorem keyD_fz {d : D} {k : Key} (h : keyD d = some k) : fz d = true := by
  cases d <;> simp [keyD] at h <;> rfl
theorem dic1_w {G : Gm} {W : WX} {σ : L2.St} {H : Hp} {Q : VK} {mk mv : EM Arg} (h : tE G W (mDic1 mk mv) σ H Q) : tDisp [(tArg G W mk, tArg G W mv)] σ H Q := by
  obtain ⟨a, env, rfl, rel, post⟩ := h
  intro A hA
  have fA : a.F A = none := by
    cases q : a.F A with
    | none => rfl
    | some u => have := rel.ok.sub A u q; rw [hA] at this; cases this
  have tA : a.t A = none := by
    cases q : a.t A with
    | none => rfl
    | some u => obtain ⟨_, u, h⟩ := rel.ok.own A u q; rw [hA] at h; cases h
  have st0 : Step a (putA a A (.dK [])) := fun x o h t => by
    have ne : x ≠ A := by rintro rfl; rw [hA] at h; cases h
    exact ⟨by show upd a.H A _ x = _; rw [upd_ne ne]; exact h, t, rfl⟩
  have rel0 := putA_rel (o := .dK []) rel fA tA
  refine ⟨putA a A (.dK []), env, rfl, rel0, ?_⟩
  unfold mDic1 at post
  cases hm : mk env with
  | bad => rw [hm] at post; exact (show False from post).elim
  | exc x e => rw [hm] at post; exact PostR.step (K := fun x e b => ∀ v, ArgRep G.C b σ x v → _) (r := .exc x e) st0 post
  | ok xe =>
    obtain ⟨x, e1⟩ := xe
    rw [hm] at post
    intro b s1 rel1 v ar1
    refine ⟨b, e1, rfl, rel1, ?_⟩
    dsimp only [Res.bind] at post
    cases hn : mv e1 with
    | bad => rw [hn] at post; exact (show False from post).elim
    | exc y e => rw [hn] at post; exact PostR.step (K := fun x e b => ∀ v, ArgRep G.C b σ x v → _) (r := .exc y e) (st0.trans s1) post
    | ok ye =>
      obtain ⟨y, e2⟩ := ye
      rw [hn] at post
      intro c s2 rel2 u ar2
      have ar1 := ar1.step rel1.ok s2
      dsimp only [Res.bind] at post
      obtain ⟨g1, g2, g3⟩ := s1 A _ (show upd a.H A (.dK []) A = some (.dK []) from upd_same) tA
      obtain ⟨k1, k2, k3⟩ := s2 A _ g1 g2
      have k3 : c.F A = none := k3.trans (g3.trans fA)
      refine ⟨k1, ?_⟩
      cases hx : x.get e2 with
      | none => simp only [hx] at post; exact (show False from post).elim
      | some d1 =>
        cases hy : y.get e2 with
        | none => simp only [hx, hy] at post; exact (show False from post).elim
        | some d2 =>
          simp only [hx, hy] at post
          cases hk : keyD d1 with
          | none => simp only [hk] at post; exact (show False from post).elim
          | some k =>
            simp only [hk] at post
            split at post
            · rename_i zd
              obtain ⟨r1, p1⟩ := ar1.rep rel2 hx
              obtain ⟨r2, p2⟩ := ar2.rep rel2 hy
              have ev := keyD_rep hk p1
              refine ⟨[(k, u)], by rw [ev]; rfl, by simp, ?_⟩
              show Q (.ref A) (upd c.H A (.dK [(k, u)]))
              have post : ∀ b', Step a b' → RelE G b' σ e2 → ∀ v, Rep G.C b' 0 [] v (.dic true [d1] [d2]) → Q v b'.H := post
              have rel3 : RelE G (putA c A (.dK [(k, u)])) σ e2 := putA_rel rel2 k3 k2
              refine post (tagA (putA c A (.dK [(k, u)])) A) (fun z o h t => ?_) ?_ (.ref A) ?_
              · have ne : z ≠ A := by rintro rfl; rw [hA] at h; cases h
                obtain ⟨q1, q2, q3⟩ := (st0.trans (s1.trans s2)) z o h t
                exact ⟨by show upd c.H A _ z = _; rw [upd_ne ne]; exact q1, by show (if z = A then some (0, []) else c.t z) = none; rw [if_neg ne]; exact q2, q3⟩
              · exact ⟨tagA_ok (o := .dK [(k, u)]) rel3.ok k3 upd_same, rel3.len, fun i d h => let ⟨v, e, q⟩ := rel3.slot i d h; ⟨v, e, tagA_to (A := A) (c := putA c A (.dK [(k, u)])) k2 q⟩, rel3.prm⟩
              · have fr : ∀ z o, c.F z = some o → (tagA (putA c A (.dK [(k, u)])) A).F z = some o := fun z o h => h
                simp only [Rep]
                refine ⟨A, .dK [(k, u)], [kV k], [u], rfl, ?_, .dk [(k, u)], by simp [fzL, keyD_fz hk], ?_, ?_⟩
                · rw [if_pos trivial]
                  exact ⟨by show (if A = A then some (0, []) else c.t A) = _; rw [if_pos rfl], upd_same⟩
                · refine ⟨kV k, [], rfl, ?_, by simp [RepL]⟩
                  rw [ev] at p1
                  exact Rep.fz (a := c) (b := tagA (putA c A (.dK [(k, u)])) A) fr d1 _ _ _ (keyD_fz hk) p1
                · exact ⟨u, [], rfl, Rep.fz (a := c) (b := tagA (putA c A (.dK [(k, u)])) A) fr d2 _ _ _ zd p2, by simp [RepL]⟩
            · exact (show False from post).elim
theorem r_dic1 {X : Cx} {G : Gm} {W : WX} {ke ve : Expr} {mk mv : EM Arg} {pos : Pos} (s : St0 X G) (hk : PE X ke (tArg G W mk)) (hv : PE X ve (tArg G W mv)) : PE X (.Dict [some ke] [ve] pos) (tE G W (mDic1 mk mv)) :=
  (pe_disp (pps_cons hk hv pps_nil) rfl rfl (by simp) (by simp)).weak fun _ _ _ q => dic1_w q
theorem fn_ok {C : KM} {N ps : List Str} {st : Stmt} {x : Str} {f : Addr} {fd : FuncData} {lv : Nat} (io : List Nat) (m : EM FlowD) (F : Fun C.K x x st f fd) (S : FnScope N ps (defScope st)) (base : Heap)
    (body : ∀ (base : Heap) (cdv : Value) (A : Around) (outer : List Env) (s : Shared) (H : Hp) (E : XK) (vs : List V) (W : WX), Go (CxD C base N x (defScope st) f cdv A outer s H E) ⟨C, vs, io⟩ W lv → PSs (CxD C base N x (defScope st) f cdv A outer s H E) (defBody st) (tS ⟨C, vs, io⟩ W m)) :
    FnOk C.P C.w C.K C.mg base (L2.CX C.P C.w) (lv + 1) f fd ps (spD C (runD ps.length N.length io m)) := by
  have hpl : ps.length ≤ N.length := by have := congrArg List.length S.pre; rw [List.length_take] at this; omega
  refine F.okX S (fun vs H Q E h => ?_) fun cdv A outer s H vs Q E hr h => ?_
  · obtain ⟨a, ds, _, _, hl, _, h⟩ := h
    unfold runD at h
    by_cases z : ds.length = ps.length ∧ ownOk io ds 0 = true
    · rw [← hl, z.1]
    · rw [if_neg z] at h; exact h.elim
  · obtain ⟨a, ds, rfl, ok, hl, hrep, h⟩ := h
    have go : Go (CxD C base N x (defScope st) f cdv A outer s a.H E) ⟨C, vs, io⟩ (fun cls d _ H => E cls d H) lv :=
      { p := rfl, w := rfl, k := rfl, m := rfl, n := S.nd, u := by have := hr.un; show (A.deeper _).units + 64 < cLine; omega, tk := takes_of rfl rfl rfl rfl, pw := passes_of rfl, rm := hr, cm := rfl }
    refine ⟨_, body base cdv A outer s a.H E vs _ go, ?_⟩
    unfold runD at h
    by_cases z : ds.length = ps.length ∧ ownOk io ds 0 = true
    · rw [if_pos z] at h
      have hlen : vs.length = ps.length := by rw [← hl, z.1]
      refine ⟨a, ds.map some ++ List.replicate (N.length - ps.length) none, rfl, ⟨ok, ?_, fun i d e => ?_, fun i hi v hv => ?_⟩, ?_⟩
      · unfold L2.start
        rw [List.length_append, List.length_append, List.length_map, List.length_map, List.length_replicate, List.length_replicate, z.1, hlen]
      · have hi : i < ds.length := by
          by_cases hi : i < ds.length
          · exact hi
          · rw [List.getElem?_append_right (by simpa using hi), List.getElem?_replicate] at e
            split at e <;> cases e
        have e2 : ds[i]? = some d := by
          rw [List.getElem?_append_left (by simpa using hi), List.getElem?_map] at e
          cases q : ds[i]? with
          | none => rw [q] at e; cases e
          | some d' => rw [q] at e; cases e; rfl
        obtain ⟨v, h1, h2⟩ := hrep i d e2
        refine ⟨v, ?_, h2⟩
        unfold L2.start
        rw [List.getElem?_append_left (by rw [List.length_map]; exact (List.getElem?_eq_some_iff.mp h1).1), List.getElem?_map, h1]; rfl
      · have hv : vs[i]? = some v := hv
        unfold L2.start
        rw [List.getElem?_append_left (by rw [List.length_map]; exact (List.getElem?_eq_some_iff.mp hv).1), List.getElem?_map, hv]; rfl
      · cases hm : m (ds.map some ++ List.replicate (N.length - ps.length) none) with
        | bad => rw [hm] at h; exact h.elim
        | exc y e => rw [hm] at h; exact fun b σ cls dd st r er => h b cls dd st r.ok (outs_rep r (Nat.le_of_eq hlen.symm)) er
        | ok fe =>
          obtain ⟨fl, e⟩ := fe
          rw [hm] at h
          cases fl with
          | next => exact fun b σ st r => h b .non st r.ok (outs_rep r (Nat.le_of_eq hlen.symm)) (by simp [Rep])
          | ret d => exact fun b σ v st r rp => h b v st r.ok (outs_rep r (Nat.le_of_eq hlen.symm)) rp
          | brk => exact h.elim
          | cont => exact h.elim
    · rw [if_neg z] at h; exact h.elim
theorem exm_sub {K : PySem.W.Frag} {S T : Addr} {b : Bool} (h1 : PySem.W.subIn K (.ref T) (.type "BaseException") = some true) (h2 : PySem.W.isClsIn K T = true) (h3 : PySem.W.typeIn K (.ref T) = some (.type "type")) (h4 : PySem.W.subIn K (.ref S) (.ref T) = some b) : PySem.W.exmOne K (.ref S) (.ref T) = some b := by
  have e1 : (PySem.W.subIn K (.ref T) (.type "BaseException") == some true) = true := by rw [h1]; rfl
  have e2 : ((PySem.W.clsIn K T).isSome && PySem.W.typeIn K (.ref T) == some (.type "type")) = true := by
    have h2' : (PySem.W.clsIn K T).isSome = true := h2
    rw [h2', h3] <;> rfl
  show (if (PySem.W.subIn K (.ref T) (.type "BaseException") == some true) = true then (if ((PySem.W.clsIn K T).isSome && PySem.W.typeIn K (.ref T) == some (.type "type")) = true then PySem.W.subIn K (.ref S) (.ref T) else none) else none) = some b
  rw [if_pos e1, if_pos e2]
  exact h4
def scriptW (H : Hp) : Wd := ⟨H, H, fun _ => none⟩
theorem law_walk {l : PySem.W.OpenLaw} {k : Nat} {g : List D → Res (D × EnvD)} {q : Program} {loose : List Str} {XP : (Str → Option Value) → Heap → Prop} {YP : World → Heap → Prop} {d : DefRec} {K : Params → PySem.W.Frag} (hn : l.most = some 63) (hdf : d.params.defaults = []) (hr : Room k callerA)
    (hY : ∀ (w : World) (h : Heap), YP w h → (K w.params).In h)
    (F : ∀ (w : World) (mg : Str → Option Value) (fa : Addr) (h : Heap), (K w.params).In h → h.Ns mainGlobals mg → mg d.name = some (.ref fa) →
      ∃ fd : FuncData, (∀ (s : Shared) (u : Value), BindsTo s fd ⟨[u], []⟩ [("_law_script", u)]) ∧ ∀ base : Heap, (K w.params).In base → base.Ns mainGlobals mg → FnOk l.prog w (K w.params) mg base (L2.CX l.prog w) k fa fd ["_law_script"] (spD ⟨l.prog, w, K w.params, mg⟩ g))
    (hg : ∀ ns : List Int, ns.length ≤ 63 → (∀ z ∈ ns, Builtin.Int.intBits z ≤ 1048576) → ∃ outs, g [.scr ns] = .ok (.bl true, outs)) :
    PySem.W.WalkO q loose XP YP l.row.toRowW d [] (fun f vs => PySem.call f vs) := by
  refine L2.walk_ofB (n := 63) (k := k) (x := "_law_script") (CX := fun w => L2.CX l.prog w) (sp := fun w vs H Q _ => ∃ (a : Addr) (ns : List Int), vs = [.ref a] ∧ SqL (K w.params) H a (ns.map V.int) ∧ ns.length ≤ 63 ∧ (∀ z ∈ ns, Builtin.Int.intBits z ≤ 1048576) ∧ ∀ H', Q (.bl true) H') hn (by decide) hdf hr hY (fun w mg fa h h1 h2 h3 => ?_)
    (fun w H a ns hl hb _ hS => ⟨a, ns, rfl, hS, hl, hb, fun _ => rfl⟩) fun w H s e s' h => ?_
  · obtain ⟨fd, h4, h5⟩ := F w mg fa h h1 h2 h3
    refine ⟨fd, h4, fun base h6 h7 => (h5 base h6 h7).imp fun vs H Q E ⟨a, ns, e, hS, hl, hb, q⟩ => ?_⟩
    subst e
    obtain ⟨outs, hr⟩ := hg ns hl hb
    refine ⟨scriptW H, [.scr ns], rfl, ⟨fun _ _ h => h, fun _ _ h => by cases h⟩, rfl, fun i d e => ?_, ?_⟩
    · cases i with
      | zero => simp at e; subst e; exact ⟨_, rfl, by simp only [Rep]; exact ⟨a, rfl, hS⟩⟩
      | succ i => simp at e
    · rw [hr]
      intro b v _ _ _ rp
      cases rep_bl rp
      exact q b.H
  · obtain ⟨_, _, _, _, _, _, _, _, _, _, _, _, z⟩ := h
    exact z.elim
end Mi
namespace Mi
open PySem PySem.Spec PyProof.Rows L2

/-! ### what a mirror answers: rows for simp; a continuation is a name with its arguments, so that simp goes on only where the first part is told -/
section
variable {α β : Type} {e env : EnvD} {m n : EM D} {ma mb mc : EM Arg} {mas : EM (List Arg)} {mt nt : EM Bool} {ms ns : EM FlowD} {d d1 d2 : D} {x y : Arg} {b : Bool} {i j : Nat}
theorem bind_ext {r : Res α} {k k' : α → Res β} (h : ∀ x, k x = k' x) : r.bind k = r.bind k' := by rw [funext h]
@[simp] theorem bind_ok (x : α) (k : α → Res β) : Res.bind (.ok x) k = k x := rfl
@[simp] theorem bind_exc (x : Exc) (e : EnvD) (k : α → Res β) : Res.bind (.exc x e) k = .exc x e := rfl
@[simp] theorem bind_bad (k : α → Res β) : Res.bind .bad k = .bad := rfl
def kSeq (k : EM FlowD) : FlowD × EnvD → Res (FlowD × EnvD) := fun (f, e) => match f with
  | .next => k e
  | .brk => .ok (.brk, e)
  | .cont => .ok (.cont, e)
  | .ret d => .ok (.ret d, e)
@[simp] theorem e_seq : mSeq ms ns env = (ms env).bind (kSeq ns) := rfl
@[simp] theorem kSeq_next : kSeq ns (.next, e) = ns e := rfl
@[simp] theorem kSeq_ret : kSeq ns (.ret d, e) = .ok (.ret d, e) := rfl
@[simp] theorem kSeq_brk : kSeq ns (.brk, e) = .ok (.brk, e) := rfl
@[simp] theorem kSeq_cont : kSeq ns (.cont, e) = .ok (.cont, e) := rfl
@[simp] theorem e_next : mNext env = .ok (.next, env) := rfl
@[simp] theorem e_brk : mBrk env = .ok (.brk, env) := rfl
@[simp] theorem e_cnt : mCnt env = .ok (.cont, env) := rfl
def kIf {α : Type} (m n : EM α) : Bool × EnvD → Res (α × EnvD) := fun (b, e) => if b = true then m e else n e
@[simp] theorem e_ifS : mIfS mt ms ns env = (mt env).bind (kIf ms ns) := rfl
@[simp] theorem e_ifE : mIfE mt m n env = (mt env).bind (kIf m n) := rfl
@[simp] theorem kIf_t {m n : EM α} : kIf m n (true, e) = m e := rfl
@[simp] theorem kIf_f {m n : EM α} : kIf m n (false, e) = n e := rfl
def kRet : D × EnvD → Res (FlowD × EnvD) := fun (d, e) => .ok (.ret d, e)
@[simp] theorem e_ret : mRet m env = (m env).bind kRet := rfl
@[simp] theorem kRet_ok : kRet (d, e) = .ok (.ret d, e) := rfl
@[simp] theorem e_retN : mRetN env = .ok (.ret .non, env) := rfl
def kDrop : D × EnvD → Res (FlowD × EnvD) := fun (_, e) => .ok (.next, e)
@[simp] theorem e_drop : mDrop m env = (m env).bind kDrop := rfl
@[simp] theorem kDrop_ok : kDrop (d, e) = .ok (.next, e) := rfl
def kAsg (i : Nat) : D × EnvD → Res (FlowD × EnvD) := fun (d, e) => .ok (.next, e.set i (some d))
@[simp] theorem e_asg : mAsg i m env = (m env).bind (kAsg i) := rfl
@[simp] theorem kAsg_ok : kAsg i (d, e) = .ok (.next, e.set i (some d)) := rfl
def oFlow : Option EnvD → Res (FlowD × EnvD)
  | some e => .ok (.next, e)
  | none => .bad
def kAsgT (t : Tgt) : D × EnvD → Res (FlowD × EnvD) := fun (d, e) => oFlow (mTg t (frzQ d) e)
@[simp] theorem e_asgT {t : Tgt} : mAsgT t m env = (m env).bind (kAsgT t) := by
  unfold mAsgT
  refine bind_ext fun x => ?_
  obtain ⟨d, e⟩ := x
  show _ = oFlow (mTg t (frzQ d) e)
  dsimp only
  cases mTg t (frzQ d) e <;> rfl
@[simp] theorem kAsgT_ok {t : Tgt} : kAsgT t (d, e) = oFlow (mTg t (frzQ d) e) := rfl
@[simp] theorem oFlow_some : oFlow (some e) = .ok (.next, e) := rfl
def kPar (i j : Nat) : List Arg × EnvD → Res (FlowD × EnvD) := fun (xs, e) => match Arg.gets e xs with
  | some [d1, d2] => if fz d1 = true ∧ fz d2 = true then .ok (.next, (e.set i (some d1)).set j (some d2)) else .bad
  | _ => .bad
@[simp] theorem e_par : mPar i j mas env = (mas env).bind (kPar i j) := rfl
def pV (i j : Nat) (e : EnvD) : Option (List D) → Res (FlowD × EnvD)
  | some [d1, d2] => if fz d1 = true ∧ fz d2 = true then .ok (.next, (e.set i (some d1)).set j (some d2)) else .bad
  | _ => .bad
@[simp] theorem kPar_g {xs : List Arg} : kPar i j (xs, e) = pV i j e (Arg.gets e xs) := by
  unfold kPar pV; rfl
@[simp] theorem pV_ok : pV i j e (some [d1, d2]) = if fz d1 = true ∧ fz d2 = true then .ok (.next, (e.set i (some d1)).set j (some d2)) else .bad := rfl
theorem kPar_ok {xs : List Arg} (h : Arg.gets e xs = some [d1, d2]) (h1 : fz d1 = true) (h2 : fz d2 = true) : kPar i j (xs, e) = .ok (.next, (e.set i (some d1)).set j (some d2)) := by
  unfold kPar; simp only [h]; rw [if_pos ⟨h1, h2⟩]
def kFrz : D × EnvD → Res (Arg × EnvD) := fun (d, e) => .ok (.val (frzQ d), e)
@[simp] theorem e_frz : mFrz m env = (m env).bind kFrz := rfl
@[simp] theorem kFrz_ok : kFrz (d, e) = .ok (.val (frzQ d), e) := rfl
@[simp] theorem e_c : mC d env = .ok (d, env) := rfl
def vA (i : Nat) (env : EnvD) : Option (Option D) → Res (Arg × EnvD)
  | some (some _) => .ok (.var i, env)
  | _ => .bad
@[simp] theorem e_varA : mVarA i env = vA i env (env[i]?) := by
  unfold mVarA vA; rfl
@[simp] theorem vA_ok : vA i env (some (some d)) = .ok (.var i, env) := rfl
def vE (i : Nat) (env : EnvD) : Option (Option D) → Res (D × EnvD)
  | some (some d) => if fz d = true then .ok (d, env) else .ok (frz d, env.set i (some (frz d)))
  | _ => .bad
@[simp] theorem e_varE : mVarE i env = vE i env (env[i]?) := by
  unfold mVarE vE; rfl
@[simp] theorem vE_ok (h : fz d = true) : vE i env (some (some d)) = .ok (d, env) := by unfold vE; simp [h]
def vM (np i : Nat) (env : EnvD) : Option (Option D) → Res (D × EnvD)
  | some (some d) => if fz d = true then .ok (d, env) else if i < np then .ok (frz d, env.set i (some (frz d))) else .ok (d, env.set i none)
  | _ => .bad
@[simp] theorem e_varM : mVarM j i env = vM j i env (env[i]?) := by
  unfold mVarM vM; rfl
@[simp] theorem vM_ok (h : fz d = true) : vM j i env (some (some d)) = .ok (d, env) := by unfold vM; simp [h]
theorem vM_mv (h : fz d = false) (h2 : ¬ i < j) : vM j i env (some (some d)) = .ok (d, env.set i none) := by unfold vM; simp [h, h2]
@[simp] theorem get_val : Arg.get e (.val d) = some d := rfl
def gV : Option (Option D) → Option D
  | some (some d) => some d
  | _ => none
@[simp] theorem get_var : Arg.get e (.var i) = gV (e[i]?) := by
  show (match e[i]? with | some (some d) => some d | _ => none) = _
  unfold gV; rfl
@[simp] theorem gV_ok : gV (some (some d)) = some d := rfl
@[simp] theorem mLift_ok : mLift (some d) e = .ok (d, e) := rfl
@[simp] theorem mLift_no : mLift none e = .bad := rfl
def bV (g : D → D → Option D) (e : EnvD) : Option D → Option D → Res (D × EnvD)
  | some d1, some d2 => mLift (g d1 d2) e
  | _, _ => .bad
def kBin2 (g : D → D → Option D) (x : Arg) : Arg × EnvD → Res (D × EnvD) := fun (y, e) => bV g e (x.get e) (y.get e)
def kBin1 (g : D → D → Option D) (mb : EM Arg) : Arg × EnvD → Res (D × EnvD) := fun (x, e) => (mb e).bind (kBin2 g x)
@[simp] theorem e_bin {g : D → D → Option D} : mBin g ma mb env = (ma env).bind (kBin1 g mb) := by
  unfold mBin
  refine bind_ext fun x => ?_
  obtain ⟨x, e1⟩ := x
  show _ = (mb e1).bind (kBin2 g x)
  refine bind_ext fun y => ?_
  obtain ⟨y, e2⟩ := y
  show _ = bV g e2 (x.get e2) (y.get e2)
  dsimp only
  cases x.get e2 <;> cases y.get e2 <;> rfl
@[simp] theorem kBin1_ok {g : D → D → Option D} : kBin1 g mb (x, e) = (mb e).bind (kBin2 g x) := rfl
@[simp] theorem kBin2_ok {g : D → D → Option D} : kBin2 g x (y, e) = bV g e (x.get e) (y.get e) := rfl
@[simp] theorem bV_ok {g : D → D → Option D} : bV g e (some d1) (some d2) = mLift (g d1 d2) e := rfl
def uV (g : D → Option D) (e : EnvD) : Option D → Res (D × EnvD)
  | some d1 => mLift (g d1) e
  | _ => .bad
def kUn (g : D → Option D) : Arg × EnvD → Res (D × EnvD) := fun (x, e) => uV g e (x.get e)
@[simp] theorem e_un {g : D → Option D} : mUn g ma env = (ma env).bind (kUn g) := by
  unfold mUn
  refine bind_ext fun x => ?_
  obtain ⟨x, e1⟩ := x
  show _ = uV g e1 (x.get e1)
  dsimp only
  cases x.get e1 <;> rfl
@[simp] theorem kUn_ok {g : D → Option D} : kUn g (x, e) = uV g e (x.get e) := rfl
@[simp] theorem uV_ok {g : D → Option D} : uV g e (some d) = mLift (g d) e := rfl
def lV (g : List D → Option D) (e : EnvD) : Option (List D) → Res (D × EnvD)
  | some ds => mLift (g ds) e
  | _ => .bad
def kCB (g : List D → Option D) : List Arg × EnvD → Res (D × EnvD) := fun (xs, e) => lV g e (Arg.gets e xs)
@[simp] theorem e_cb {g : List D → Option D} : mCB g mas env = (mas env).bind (kCB g) := by
  unfold mCB
  refine bind_ext fun x => ?_
  obtain ⟨x, e1⟩ := x
  show _ = lV g e1 (Arg.gets e1 x)
  dsimp only
  cases Arg.gets e1 x <;> rfl
@[simp] theorem kCB_ok {g : List D → Option D} {xs : List Arg} : kCB g (xs, e) = lV g e (Arg.gets e xs) := rfl
@[simp] theorem lV_ok {g : List D → Option D} {ds : List D} : lV g e (some ds) = mLift (g ds) e := rfl
def oCons : Option D → Option (List D) → Option (List D)
  | some d, some ds => some (d :: ds)
  | _, _ => none
@[simp] theorem gets_nil : Arg.gets e [] = some [] := rfl
@[simp] theorem gets_cons {xs : List Arg} : Arg.gets e (x :: xs) = oCons (x.get e) (Arg.gets e xs) := by
  unfold oCons
  rw [Arg.gets] <;> rfl
@[simp] theorem oCons_ok {ds : List D} : oCons (some d) (some ds) = some (d :: ds) := rfl
def kA2 (x : Arg) : List Arg × EnvD → Res (List Arg × EnvD) := fun (xs, e) => .ok (x :: xs, e)
def kA1 (ms : List (EM Arg)) : Arg × EnvD → Res (List Arg × EnvD) := fun (x, e) => (mArgs ms e).bind (kA2 x)
@[simp] theorem e_args0 : mArgs [] env = .ok ([], env) := rfl
@[simp] theorem e_args {ms : List (EM Arg)} : mArgs (ma :: ms) env = (ma env).bind (kA1 ms) := rfl
@[simp] theorem kA1_ok {ms : List (EM Arg)} : kA1 ms (x, e) = (mArgs ms e).bind (kA2 x) := rfl
@[simp] theorem kA2_ok {xs : List Arg} : kA2 x (xs, e) = .ok (x :: xs, e) := rfl
/-! tests -/
@[simp] theorem bool_bl : D.bool (.bl b) = some b := rfl
@[simp] theorem mLiftT_ok : mLiftT (some b) e = .ok (b, e) := rfl
def kTB : D × EnvD → Res (Bool × EnvD) := fun (d, e) => mLiftT d.bool e
@[simp] theorem e_tb : mTB m env = (m env).bind kTB := rfl
@[simp] theorem kTB_ok : kTB (.bl b, e) = .ok (b, e) := rfl
def kNotT : Bool × EnvD → Res (Bool × EnvD) := fun (c, e) => .ok (!c, e)
@[simp] theorem e_notT : mNotT mt env = (mt env).bind kNotT := rfl
@[simp] theorem kNotT_ok : kNotT (b, e) = .ok (!b, e) := rfl
def kAndT (n : EM Bool) : Bool × EnvD → Res (Bool × EnvD) := fun (c, e) => if c = true then n e else .ok (false, e)
def kOrT (n : EM Bool) : Bool × EnvD → Res (Bool × EnvD) := fun (c, e) => if c = true then .ok (true, e) else n e
@[simp] theorem e_andT : mAndT mt nt env = (mt env).bind (kAndT nt) := rfl
@[simp] theorem e_orT : mOrT mt nt env = (mt env).bind (kOrT nt) := rfl
@[simp] theorem kAndT_t : kAndT nt (true, e) = nt e := rfl
@[simp] theorem kAndT_f : kAndT nt (false, e) = .ok (false, e) := rfl
@[simp] theorem kOrT_t : kOrT nt (true, e) = .ok (true, e) := rfl
@[simp] theorem kOrT_f : kOrT nt (false, e) = nt e := rfl
def aV (n : EM D) (e : EnvD) : Option Bool → Res (D × EnvD)
  | some true => n e
  | some false => .ok (.bl false, e)
  | none => .bad
def oV (n : EM D) (e : EnvD) : Option Bool → Res (D × EnvD)
  | some true => .ok (.bl true, e)
  | some false => n e
  | none => .bad
def kAndV (n : EM D) : D × EnvD → Res (D × EnvD) := fun (c, e) => aV n e c.bool
def kOrV (n : EM D) : D × EnvD → Res (D × EnvD) := fun (c, e) => oV n e c.bool
@[simp] theorem e_andV : mAndV m n env = (m env).bind (kAndV n) := by
  unfold mAndV
  refine bind_ext fun x => ?_
  obtain ⟨x, e1⟩ := x
  show _ = aV n e1 x.bool
  dsimp only
  rcases x.bool with _ | _ | _ <;> rfl
@[simp] theorem e_orV : mOrV m n env = (m env).bind (kOrV n) := by
  unfold mOrV
  refine bind_ext fun x => ?_
  obtain ⟨x, e1⟩ := x
  show _ = oV n e1 x.bool
  dsimp only
  rcases x.bool with _ | _ | _ <;> rfl
@[simp] theorem kAndV_t : kAndV n (.bl true, e) = n e := rfl
@[simp] theorem kAndV_f : kAndV n (.bl false, e) = .ok (.bl false, e) := rfl
@[simp] theorem kOrV_t : kOrV n (.bl true, e) = .ok (.bl true, e) := rfl
@[simp] theorem kOrV_f : kOrV n (.bl false, e) = n e := rfl
def kNotV : D × EnvD → Res (D × EnvD) := fun (c, e) => mLift (c.bool.map fun b => .bl (!b)) e
@[simp] theorem e_notV : mNotV m env = (m env).bind kNotV := by
  unfold mNotV
  refine bind_ext fun x => ?_
  obtain ⟨x, e1⟩ := x
  show _ = mLift (x.bool.map fun b => .bl (!b)) e1
  dsimp only
  cases x.bool <;> rfl
@[simp] theorem kNotV_ok : kNotV (.bl b, e) = .ok (.bl (!b), e) := rfl
def tV (e : EnvD) : Option D → Res (Bool × EnvD)
  | some d => mLiftT (truD d) e
  | none => .bad
def kTru : Arg × EnvD → Res (Bool × EnvD) := fun (x, e) => tV e (x.get e)
@[simp] theorem e_tru : mTru ma env = (ma env).bind kTru := by
  unfold mTru
  refine bind_ext fun x => ?_
  obtain ⟨x, e1⟩ := x
  show _ = tV e1 (x.get e1)
  dsimp only
  cases x.get e1 <;> rfl
@[simp] theorem kTru_ok : kTru (x, e) = tV e (x.get e) := rfl
@[simp] theorem tV_ok : tV e (some d) = mLiftT (truD d) e := rfl
@[simp] theorem e_yes : mYes env = .ok (true, env) := rfl
/-! displays -/
def dV (f : List D → D) (e : EnvD) : Option (List D) → Res (D × EnvD)
  | some ds => if fzL ds = true ∧ ds.length ≤ 1000 then .ok (f ds, e) else .bad
  | none => .bad
def kDsp (f : List D → D) : List Arg × EnvD → Res (D × EnvD) := fun (xs, e) => dV f e (Arg.gets e xs)
@[simp] theorem e_tup : mTup mas env = (mas env).bind (kDsp .tup) := by
  unfold mTup
  refine bind_ext fun x => ?_
  obtain ⟨x, e1⟩ := x
  show _ = dV .tup e1 (Arg.gets e1 x)
  dsimp only
  cases Arg.gets e1 x <;> rfl
@[simp] theorem e_lst : mLst mas env = (mas env).bind (kDsp (.lst true)) := by
  unfold mLst
  refine bind_ext fun x => ?_
  obtain ⟨x, e1⟩ := x
  show _ = dV (.lst true) e1 (Arg.gets e1 x)
  dsimp only
  cases Arg.gets e1 x <;> rfl
@[simp] theorem kDsp_ok {f : List D → D} {xs : List Arg} : kDsp f (xs, e) = dV f e (Arg.gets e xs) := rfl
@[simp] theorem dV_ok {f : List D → D} {ds : List D} : dV f e (some ds) = if fzL ds = true ∧ ds.length ≤ 1000 then .ok (f ds, e) else .bad := rfl
@[simp] theorem e_dic0 : mDic0 env = .ok (.dic true [] [], env) := rfl
def kCall (g : List D → Res (D × EnvD)) : List Arg × EnvD → Res (D × EnvD) := fun (xs, e) => mCallR g xs e
@[simp] theorem e_call {g : List D → Res (D × EnvD)} : mCall g mas env = (mas env).bind (kCall g) := rfl
def cV (xs : List Arg) (ds : List D) (e : EnvD) : Res (D × EnvD) → Res (D × EnvD)
  | .ok (d, outs) => .ok (d, putBack xs ds outs e)
  | .exc x outs => .exc x (putBack xs ds outs e)
  | .bad => .bad
theorem kCall_ok {g : List D → Res (D × EnvD)} {xs : List Arg} {ds : List D} (h : Arg.gets e xs = some ds) (h2 : (ownVars xs ds).Nodup) : kCall g (xs, e) = cV xs ds e (g ds) := by
  show mCallR g xs e = _
  unfold mCallR cV
  rw [h]; dsimp only; rw [if_pos h2] <;> rfl
@[simp] theorem cV_ok {xs : List Arg} {ds : List D} {outs : EnvD} : cV xs ds e (.ok (d, outs)) = .ok (d, putBack xs ds outs e) := rfl
@[simp] theorem cV_exc {xs : List Arg} {ds : List D} {outs : EnvD} {z : Exc} : cV xs ds e (.exc z outs) = .exc z (putBack xs ds outs e) := rfl
def gCall (g : List D → Res (D × EnvD)) (xs : List Arg) (e : EnvD) : Option (List D) → Res (D × EnvD)
  | some ds => if (ownVars xs ds).Nodup then cV xs ds e (g ds) else .bad
  | none => .bad
@[simp] theorem kCall_g {g : List D → Res (D × EnvD)} {xs : List Arg} : kCall g (xs, e) = gCall g xs e (Arg.gets e xs) := by
  show mCallR g xs e = _
  unfold mCallR gCall
  cases Arg.gets e xs with
  | none => rfl
  | some ds =>
    dsimp only
    by_cases h : (ownVars xs ds).Nodup
    · rw [if_pos h, if_pos h]; rfl
    · rw [if_neg h, if_neg h]
@[simp] theorem gCall_ok {g : List D → Res (D × EnvD)} {xs : List Arg} {ds : List D} : gCall g xs e (some ds) = if (ownVars xs ds).Nodup then cV xs ds e (g ds) else .bad := rfl
def iV (k : TyK) (e : EnvD) : Option D → Res (D × EnvD)
  | some d => mLift ((isK k d).map .bl) e
  | none => .bad
def kIsi (k : TyK) : Arg × EnvD → Res (D × EnvD) := fun (x, e) => iV k e (x.get e)
@[simp] theorem e_isi {k : TyK} : mIsi k ma env = (ma env).bind (kIsi k) := by
  unfold mIsi
  refine bind_ext fun x => ?_
  obtain ⟨x, e1⟩ := x
  show _ = iV k e1 (x.get e1)
  dsimp only
  cases x.get e1 <;> rfl
@[simp] theorem kIsi_ok {k : TyK} : kIsi k (x, e) = iV k e (x.get e) := rfl
@[simp] theorem iV_ok {k : TyK} : iV k e (some d) = mLift ((isK k d).map .bl) e := rfl
/-! chains -/
def chV3 (g' : D → D → Option D) (y : Arg) : Arg × EnvD → Res (D × EnvD) := fun (z, e) => bV g' e (y.get e) (z.get e)
def chV2 (g' : D → D → Option D) (mc : EM Arg) (y : Arg) (e : EnvD) : Option Bool → Res (D × EnvD)
  | some true => (mc e).bind (chV3 g' y)
  | some false => .ok (.bl false, e)
  | none => .bad
def chV1 (g g' : D → D → Option D) (mc : EM Arg) (y : Arg) (e : EnvD) : Option D → Option D → Res (D × EnvD)
  | some d1, some d2 => chV2 g' mc y e ((g d1 d2).bind D.bool)
  | _, _ => .bad
def kCh2 (g g' : D → D → Option D) (mc : EM Arg) (x : Arg) : Arg × EnvD → Res (D × EnvD) := fun (y, e) => chV1 g g' mc y e (x.get e) (y.get e)
def kCh1 (g g' : D → D → Option D) (mb mc : EM Arg) : Arg × EnvD → Res (D × EnvD) := fun (x, e) => (mb e).bind (kCh2 g g' mc x)
@[simp] theorem e_chain {g g' : D → D → Option D} : mChain g g' ma mb mc env = (ma env).bind (kCh1 g g' mb mc) := by
  unfold mChain
  refine bind_ext fun x => ?_
  obtain ⟨x, e1⟩ := x
  show _ = (mb e1).bind (kCh2 g g' mc x)
  refine bind_ext fun y => ?_
  obtain ⟨y, e2⟩ := y
  show _ = chV1 g g' mc y e2 (x.get e2) (y.get e2)
  dsimp only
  cases x.get e2 with
  | none => rfl
  | some d1 =>
    cases y.get e2 with
    | none => rfl
    | some d2 =>
      show _ = chV2 g' mc y e2 ((g d1 d2).bind D.bool)
      dsimp only
      rcases (g d1 d2).bind D.bool with _ | _ | _
      · rfl
      · rfl
      · show (mc e2).bind _ = (mc e2).bind (chV3 g' y)
        refine bind_ext fun z => ?_
        obtain ⟨z, e3⟩ := z
        show _ = bV g' e3 (y.get e3) (z.get e3)
        dsimp only
        cases y.get e3 <;> cases z.get e3 <;> rfl
@[simp] theorem kCh1_ok {g g' : D → D → Option D} : kCh1 g g' mb mc (x, e) = (mb e).bind (kCh2 g g' mc x) := rfl
@[simp] theorem kCh2_ok {g g' : D → D → Option D} : kCh2 g g' mc x (y, e) = chV1 g g' mc y e (x.get e) (y.get e) := rfl
@[simp] theorem chV1_ok {g g' : D → D → Option D} : chV1 g g' mc y e (some d1) (some d2) = chV2 g' mc y e ((g d1 d2).bind D.bool) := rfl
@[simp] theorem chV2_t {g' : D → D → Option D} : chV2 g' mc y e (some true) = (mc e).bind (chV3 g' y) := rfl
@[simp] theorem chV2_f {g' : D → D → Option D} : chV2 g' mc y e (some false) = .ok (.bl false, e) := rfl
@[simp] theorem chV3_ok {g' : D → D → Option D} : chV3 g' y (x, e) = bV g' e (y.get e) (x.get e) := rfl
/-! slices -/
def kSl3 (x : Arg) (lo : Option Int) : Option Int × EnvD → Res (D × EnvD) := fun (hi, e) => uV (fun d => slD d lo hi) e (x.get e)
def kSl2 (mh : EM (Option Int)) (x : Arg) : Option Int × EnvD → Res (D × EnvD) := fun (lo, e) => (mh e).bind (kSl3 x lo)
def kSl1 (ml mh : EM (Option Int)) : Arg × EnvD → Res (D × EnvD) := fun (x, e) => (ml e).bind (kSl2 mh x)
variable {ml mh : EM (Option Int)} {lo hi : Option Int}
@[simp] theorem e_sl : mSl ma ml mh env = (ma env).bind (kSl1 ml mh) := by
  unfold mSl
  refine bind_ext fun x => ?_
  obtain ⟨x, e1⟩ := x
  show _ = (ml e1).bind (kSl2 mh x)
  refine bind_ext fun y => ?_
  obtain ⟨y, e2⟩ := y
  show _ = (mh e2).bind (kSl3 x y)
  refine bind_ext fun z => ?_
  obtain ⟨z, e3⟩ := z
  show _ = uV (fun d => slD d y z) e3 (x.get e3)
  dsimp only
  cases x.get e3 <;> rfl
@[simp] theorem kSl1_ok : kSl1 ml mh (x, e) = (ml e).bind (kSl2 mh x) := rfl
@[simp] theorem kSl2_ok : kSl2 mh x (lo, e) = (mh e).bind (kSl3 x lo) := rfl
@[simp] theorem kSl3_ok : kSl3 x lo (hi, e) = uV (fun d => slD d lo hi) e (x.get e) := rfl
@[simp] theorem e_noP : mNoP env = .ok (none, env) := rfl
def kPart : D × EnvD → Res (Option Int × EnvD) := fun (d, e) => match d with
  | .int i => .ok (some i, e)
  | _ => .bad
@[simp] theorem e_part : mPart m env = (m env).bind kPart := rfl
@[simp] theorem kPart_ok {z : Int} : kPart (.int z, e) = .ok (some z, e) := rfl
/-! stores -/
def sV (j : Nat) (y : D) (e : EnvD) : Option (Option D) → Option D → Res (FlowD × EnvD)
  | some (some d), some i => oFlow ((setQ d i (frzQ y)).map fun d' => e.set j (some d'))
  | _, _ => .bad
def kSet2 (j : Nat) (y : D) : Arg × EnvD → Res (FlowD × EnvD) := fun (x, e) => sV j y e (e[j]?) (x.get e)
def kSetV (j : Nat) (mi : EM D) (y : D) (e : EnvD) : Option (Option D) → Res (FlowD × EnvD)
  | some (some _) => (mFrz mi e).bind (kSet2 j y)
  | _ => .bad
def kSet1 (j : Nat) (mi : EM D) : D × EnvD → Res (FlowD × EnvD) := fun (y, e) => kSetV j mi y e (e[j]?)
@[simp] theorem e_set : mSet j m n env = (n env).bind (kSet1 j m) := by
  unfold mSet
  refine bind_ext fun x => ?_
  obtain ⟨y, e1⟩ := x
  show _ = kSetV j m y e1 (e1[j]?)
  dsimp only
  rcases e1[j]? with _ | _ | d
  · rfl
  · rfl
  · show (mFrz m e1).bind _ = (mFrz m e1).bind (kSet2 j y)
    refine bind_ext fun z => ?_
    obtain ⟨z, e2⟩ := z
    show _ = sV j y e2 (e2[j]?) (z.get e2)
    dsimp only
    rcases e2[j]? with _ | _ | d'
    · rfl
    · rfl
    · cases z.get e2 with
      | none => rfl
      | some i =>
        show _ = oFlow ((setQ d' i (frzQ y)).map fun d'' => e2.set j (some d''))
        dsimp only
        cases setQ d' i (frzQ y) <;> rfl
@[simp] theorem kSet1_ok : kSet1 j m (d, e) = kSetV j m d e (e[j]?) := rfl
@[simp] theorem kSetV_ok : kSetV j m d1 e (some (some d)) = (mFrz m e).bind (kSet2 j d1) := rfl
@[simp] theorem kSet2_ok : kSet2 j d (x, e) = sV j d e (e[j]?) (x.get e) := rfl
@[simp] theorem sV_ok {i : D} : sV j d1 e (some (some d)) (some i) = oFlow ((setQ d i (frzQ d1)).map fun d' => e.set j (some d')) := rfl
/-! loops -/
def kFor (t : Tgt) (body : EM FlowD) : List D × EnvD → Res (FlowD × EnvD) := fun (ds, e) => if fzL ds = true then loopF t body ds e else .bad
@[simp] theorem e_for {mi : EM (List D)} {t : Tgt} : mFor mi t ms env = (mi env).bind (kFor t ms) := rfl
theorem kFor_ok {ds : List D} {t : Tgt} (h : fzL ds = true) : kFor t ms (ds, e) = loopF t ms ds e := by
  show (if fzL ds = true then _ else _) = _
  rw [if_pos h]
@[simp] theorem e_while {fuel : EnvD → Nat} : mWhile fuel mt ms env = whileF mt ms (fuel env) env := rfl
def rV (f : List D → Option (List D)) (e : EnvD) : Option (List D) → Res (List D × EnvD)
  | some ds => match f ds with
    | some l => .ok (l, e)
    | none => .bad
  | none => .bad
def kIt (f : List D → Option (List D)) : List Arg × EnvD → Res (List D × EnvD) := fun (xs, e) => rV f e (Arg.gets e xs)
@[simp] theorem e_it {f : List D → Option (List D)} : mIt mas f env = (mas env).bind (kIt f) := by
  unfold mIt
  refine bind_ext fun x => ?_
  obtain ⟨x, e1⟩ := x
  show _ = rV f e1 (Arg.gets e1 x)
  dsimp only
  cases Arg.gets e1 x <;> rfl
@[simp] theorem kIt_ok {f : List D → Option (List D)} {xs : List Arg} : kIt f (xs, e) = rV f e (Arg.gets e xs) := rfl
theorem rV_ok {f : List D → Option (List D)} {ds l : List D} (h : f ds = some l) : rV f e (some ds) = .ok (l, e) := by
  show (match f ds with | some l => _ | none => _) = _
  rw [h]
def sqV (e : EnvD) : Option D → Res (List D × EnvD)
  | some d => match seqI [d] with
    | some l => .ok (l, e)
    | none => .bad
  | none => .bad
def kIt1 : Arg × EnvD → Res (List D × EnvD) := fun (x, e) => sqV e (x.get e)
@[simp] theorem e_it1 : mIt1 ma env = (ma env).bind kIt1 := by
  unfold mIt1
  refine bind_ext fun x => ?_
  obtain ⟨x, e1⟩ := x
  show _ = sqV e1 (x.get e1)
  dsimp only
  cases x.get e1 <;> rfl
@[simp] theorem kIt1_ok : kIt1 (x, e) = sqV e (x.get e) := rfl
theorem sqV_ok {l : List D} (h : seqI [d] = some l) : sqV e (some d) = .ok (l, e) := by
  show (match seqI [d] with | some l => _ | none => _) = _
  rw [h]
def kLc2 (e : EnvD) (own : List Nat) : List D × EnvD → Res (D × EnvD) := fun (l, e') => .ok (.lst true l, restE e e' own)
def kLc (t : Tgt) (cond : EM Bool) (elt : EM D) (own : List Nat) : List D × EnvD → Res (D × EnvD) := fun (ds, e) => if fzL ds = true ∧ ds.length ≤ 100000 then (loopL t cond elt own ds [] e).bind (kLc2 e own) else .bad
@[simp] theorem e_lc {mi : EM (List D)} {t : Tgt} {own : List Nat} : mLc mi t mt m own env = (mi env).bind (kLc t mt m own) := rfl
theorem kLc_okX {ds : List D} {t : Tgt} {own : List Nat} (h1 : fzL ds = true) (h2 : ds.length ≤ 100000) : kLc t mt m own (ds, e) = (loopL t mt m own ds [] e).bind (kLc2 e own) := by
  show (if fzL ds = true ∧ ds.length ≤ 100000 then _ else _) = _
  rw [if_pos ⟨h1, h2⟩]
theorem kLc_ok {ds : List D} {t : Tgt} {own : List Nat} (h1 : fzL ds = true) (h2 : ds.length ≤ 1000) : kLc t mt m own (ds, e) = (loopL t mt m own ds [] e).bind (kLc2 e own) := kLc_okX h1 (by omega)
@[simp] theorem kLc2_ok {e' : EnvD} {own : List Nat} {l : List D} : kLc2 e own (l, e') = .ok (.lst true l, restE e e' own) := rfl
@[simp] theorem e_exc {s : Str} : mExc s env = .exc ⟨s, [], []⟩ env := rfl
def kTry (yes no : List Str) (suite : EM FlowD) : Res (FlowD × EnvD) → Res (FlowD × EnvD)
  | .exc x e => if x.cls ∈ yes then calmR (suite e) else if x.cls ∈ no then .exc x e else .bad
  | r => r
@[simp] theorem e_try {yes no : List Str} : mTry yes no ms ns env = kTry yes no ns (ms env) := by
  unfold mTry kTry
  cases ms env <;> rfl
@[simp] theorem kTry_ok {yes no : List Str} {f : FlowD × EnvD} : kTry yes no ns (.ok f) = .ok f := rfl
@[simp] theorem kTry_exc {yes no : List Str} {z : Exc} : kTry yes no ns (.exc z e) = if z.cls ∈ yes then calmR (ns e) else if z.cls ∈ no then .exc z e else .bad := rfl
@[simp] theorem calmR_ok {f : FlowD × EnvD} : calmR (.ok f) = .ok f := rfl
def kWh2 (c : EM Bool) (body : EM FlowD) (n : Nat) : FlowD × EnvD → Res (FlowD × EnvD) := fun (f, e2) => match f with
  | .next => whileF c body n e2
  | .cont => whileF c body n e2
  | .brk => .ok (.next, e2)
  | .ret d => .ok (.ret d, e2)
def kWh (c : EM Bool) (body : EM FlowD) (n : Nat) : Bool × EnvD → Res (FlowD × EnvD) := fun (b, e1) => if b = true then (body e1).bind (kWh2 c body n) else .ok (.next, e1)
theorem e_wh {n : Nat} : whileF mt ms (n + 1) env = (mt env).bind (kWh mt ms n) := rfl
@[simp] theorem kWh_t {n : Nat} : kWh mt ms n (true, e) = (ms e).bind (kWh2 mt ms n) := rfl
@[simp] theorem kWh_f {n : Nat} : kWh mt ms n (false, e) = .ok (.next, e) := rfl
@[simp] theorem kWh2_next {n : Nat} : kWh2 mt ms n (.next, e) = whileF mt ms n e := rfl
@[simp] theorem kWh2_cont {n : Nat} : kWh2 mt ms n (.cont, e) = whileF mt ms n e := rfl
@[simp] theorem kWh2_brk {n : Nat} : kWh2 mt ms n (.brk, e) = .ok (.next, e) := rfl
@[simp] theorem kWh2_ret {n : Nat} : kWh2 mt ms n (.ret d, e) = .ok (.ret d, e) := rfl
def kLp (t : Tgt) (body : EM FlowD) (ds : List D) : FlowD × EnvD → Res (FlowD × EnvD) := fun (f, e2) => match f with
  | .next => loopF t body ds e2
  | .cont => loopF t body ds e2
  | .brk => .ok (.next, e2)
  | .ret d => .ok (.ret d, e2)
def lpV (t : Tgt) (body : EM FlowD) (ds : List D) : Option EnvD → Res (FlowD × EnvD)
  | some e1 => (body e1).bind (kLp t body ds)
  | none => .bad
theorem e_lp0 {t : Tgt} : loopF t ms [] e = .ok (.next, e) := rfl
theorem e_lp {t : Tgt} {ds : List D} : loopF t ms (d :: ds) e = lpV t ms ds (mTg t d e) := by
  rw [loopF]
  cases mTg t d e <;> rfl
@[simp] theorem lpV_ok {t : Tgt} {ds : List D} : lpV t ms ds (some e) = (ms e).bind (kLp t ms ds) := rfl
@[simp] theorem kLp_next {t : Tgt} {ds : List D} : kLp t ms ds (.next, e) = loopF t ms ds e := rfl
@[simp] theorem kLp_cont {t : Tgt} {ds : List D} : kLp t ms ds (.cont, e) = loopF t ms ds e := rfl
@[simp] theorem kLp_brk {t : Tgt} {ds : List D} : kLp t ms ds (.brk, e) = .ok (.next, e) := rfl
@[simp] theorem kLp_ret {t : Tgt} {ds : List D} : kLp t ms ds (.ret d, e) = .ok (.ret d, e) := rfl
@[simp] theorem tg_nm : mTg (.nm i) d e = some (e.set i (some d)) := by simp [mTg]
/-! data -/
@[simp] theorem fz_non : fz .non = true := by simp [fz]
@[simp] theorem fz_bl : fz (.bl b) = true := by simp [fz]
@[simp] theorem fz_int {z : Int} : fz (.int z) = true := by simp [fz]
@[simp] theorem fz_str {z : Str} : fz (.str z) = true := by simp [fz]
@[simp] theorem fz_scr {z : List Int} : fz (.scr z) = true := by simp [fz]
@[simp] theorem fz_tup {l : List D} : fz (.tup l) = fzL l := by simp [fz]
@[simp] theorem fz_lst {l : List D} : fz (.lst b l) = (!b && fzL l) := by simp [fz]
@[simp] theorem fz_dic {k l : List D} : fz (.dic b k l) = (!b && (fzL k && fzL l)) := by simp [fz]
@[simp] theorem fzL_nil : fzL [] = true := by simp [fzL]
@[simp] theorem fzL_cons {l : List D} : fzL (d :: l) = (fz d && fzL l) := by simp [fzL]
theorem frzQ_fz (h : fz d = true) : frzQ d = d := by unfold frzQ; rw [if_pos h]
@[simp] theorem frzQ_non : frzQ .non = .non := rfl
@[simp] theorem frzQ_bl : frzQ (.bl b) = .bl b := rfl
@[simp] theorem frzQ_int {z : Int} : frzQ (.int z) = .int z := rfl
@[simp] theorem frzQ_str {z : Str} : frzQ (.str z) = .str z := rfl
@[simp] theorem frzQ_scr {z : List Int} : frzQ (.scr z) = .scr z := rfl
theorem frz_lstt {l : List D} (h : fzL l = true) : frzQ (.lst true l) = .lst false l := by unfold frzQ; simp [frz, frzL_fz l h]
end
end Mi
namespace Mi
open PySem PySem.Spec PyProof.Rows L2

/-! ### several except clauses -/
abbrev Hd := List Str × List Str × EM FlowD
def hdsM : List Hd → Exc → EnvD → Res (FlowD × EnvD)
  | [], x, e => .exc x e
  | (y, n, s) :: r, x, e => if x.cls ∈ y then calmR (s e) else if x.cls ∈ n then hdsM r x e else .bad
def mTryM (hs : List Hd) (body : EM FlowD) : EM FlowD := fun env => match body env with
  | .exc x e => hdsM hs x e
  | r => r
inductive HdM (X : Cx) (G : Gm) : List ExceptHandler → List Hd → List (Value × (Addr → Value → Option Addr → TS)) → Prop
  | nil : HdM X G [] [] []
  | cons {x : Str} {c : Value} {b0 : Stmt} {suite : List Stmt} {np pos' : Pos} {hds : List ExceptHandler} {hs : List Hd} {l : List (Value × (Addr → Value → Option Addr → TS))} {yes no : List Str} {ns : EM FlowD} (hc : Names X x c)
      (hy : ∀ n ∈ yes, ∀ u, G.C.mg n = some u → PySem.W.exmOne G.C.K u c = some true) (hn : ∀ n ∈ no, ∀ u, G.C.mg n = some u → PySem.W.exmOne G.C.K u c = some false)
      (hsu : ∀ (a : Addr) (pn : List (Addr × Obj)), St0 (X.suite a pn) G → PSs (X.suite a pn) (b0 :: suite) (tS G W0 ns)) (r : HdM X G hds hs l) :
      HdM X G (.ExceptHandler (some (.Name x np)) none (b0 :: suite) pos' :: hds) ((yes, no, ns) :: hs) ((c, fun _ _ _ => tS G W0 ns) :: l)
theorem HdM.hds {X : Cx} {G : Gm} {W : WX} {lv : Nat} (s : Go X G W lv) : ∀ {hds : List ExceptHandler} {hs : List Hd} {l : List (Value × (Addr → Value → Option Addr → TS))}, HdM X G hds hs l → HdsOk X hds l := fun h => by
  induction h with
  | nil => exact .nil
  | cons hc hy hn hsu r ih => exact .cons hc (fun a oe cls d pn _ _ => hsu a ((a, oe) :: pn) (s.suite a _)) ih
theorem calm_post {G : Gm} {W W' : WX} {D : Ends} {b : Wd} {r : Res (FlowD × EnvD)} (h : PostS G W D b (calmR r)) : PostS G W' D b r := by
  cases r with
  | bad => exact (show False from h).elim
  | exc x e => exact (show False from h).elim
  | ok fe => obtain ⟨f, e⟩ := fe; cases f <;> exact h
theorem HdM.many {X : Cx} {G : Gm} {W : WX} {D : Ends} {lv : Nat} (s : Go X G W lv) {x : Exc} {e : EnvD} {b : Wd} {σ : L2.St} {cls : Value} {dd : Option Addr} (rel : RelE G b σ e) (er : ExcRep G.C b x cls dd) :
    ∀ {hds : List ExceptHandler} {hs : List Hd} {l : List (Value × (Addr → Value → Option Addr → TS))}, HdM X G hds hs l → PostS G W D b (hdsM hs x e) → wMany X.K W D l cls dd σ b.H := fun h => by
  induction h with
  | nil => exact fun p => p b σ cls dd (Step.refl b) rel er
  | @cons x' c b0 suite np pos' hds hs l yes no ns hc hy hn hsu r ih =>
    intro p
    unfold hdsM at p
    by_cases h1 : x.cls ∈ yes
    · rw [if_pos h1] at p
      exact ⟨true, by rw [s.k]; exact hy _ h1 _ er.1, fun _ u _ => ⟨b, e, rfl, rel, calm_post p⟩, fun z => Bool.noConfusion z⟩
    · rw [if_neg h1] at p
      by_cases h2 : x.cls ∈ no
      · rw [if_pos h2] at p
        exact ⟨false, by rw [s.k]; exact hn _ h2 _ er.1, fun z => Bool.noConfusion z, fun _ => ih p⟩
      · rw [if_neg h2] at p
        exact (show False from p).elim
theorem rs_tryM {X : Cx} {G : Gm} {W : WX} {lv : Nat} {pos : Pos} {body : List Stmt} {h0 : ExceptHandler} {hds : List ExceptHandler} {hs : List Hd} {l : List (Value × (Addr → Value → Option Addr → TS))} {ms : EM FlowD} (s : Go X G W lv) (hst : X.stack = X.env :: X.outer) (hf : X.env.frame = some X.env.locals)
    (hb : ∀ (W' : WX) (pn : List (Addr × Obj)) (xe : Value → Shared → Prop), Go (X.tr pn xe) G W' lv → PSs (X.tr pn xe) body (tS G W' ms)) (hh : HdM X G (h0 :: hds) hs l) :
    PS X (.Try body (h0 :: hds) [] [] pos) (tS G W (mTryM hs ms)) := by
  refine (ps_try_many hst hf s.tk (fun W' pn xe tk pw => hb W' pn xe (s.tr tk pw)) (hh.hds s)).weak fun D σ H q => ?_
  obtain ⟨a, env, rfl, rel, post⟩ := q
  refine ⟨a, env, rfl, rel, ?_⟩
  unfold mTryM at post
  cases hm : ms env with
  | bad => rw [hm] at post; exact post
  | ok fe =>
    obtain ⟨f, e⟩ := fe
    rw [hm] at post
    cases f <;> exact post
  | exc y e =>
    rw [hm] at post
    exact fun b σ' cls dd st r er => HdM.many s r er hh (PostS.step st post)
def kTryM (hs : List Hd) : Res (FlowD × EnvD) → Res (FlowD × EnvD)
  | .exc x e => hdsM hs x e
  | r => r
section
variable {env e : EnvD} {ms : EM FlowD} {hs : List Hd}
@[simp] theorem e_tryM : mTryM hs ms env = kTryM hs (ms env) := by
  unfold mTryM kTryM
  cases ms env <;> rfl
@[simp] theorem kTryM_ok {f : FlowD × EnvD} : kTryM hs (.ok f) = .ok f := rfl
@[simp] theorem kTryM_exc {z : Exc} : kTryM hs (.exc z e) = hdsM hs z e := rfl
end
end Mi
namespace Mi
open PySem PySem.Spec PyProof.Rows L2

/-! ### a slot's own list, rewritten -/
theorem RelE.rewr {G : Gm} {a : Wd} {σ : L2.St} {env : EnvD} {j : Nat} {l : List D} (r : RelE G a σ env) (h : env[j]? = some (some (.lst true l))) :
    ∃ x vs, σ[j]? = some (some (.ref x)) ∧ a.H x = some (.lst vs) ∧ RepL G.C a (j + 1) [] 0 vs l ∧ ∀ (vs' : List V) (l' : List D) (s n : Nat) (q : List Nat), fzL l' = true → RepL G.C a s q n vs' l' →
      Step a ⟨a.F, upd a.H x (.lst vs'), a.t⟩ ∧ RelE G ⟨a.F, upd a.H x (.lst vs'), a.t⟩ σ (env.set j (some (.lst true l'))) := by
  obtain ⟨w, h1, h2⟩ := r.slot j _ h
  simp only [Rep] at h2
  obtain ⟨x, vs, rfl, hx, hl⟩ := h2
  rw [if_pos trivial] at hx
  obtain ⟨tx, hx⟩ := hx
  refine ⟨x, vs, h1, hx, hl, fun vs' l' s n q z hl' => ?_⟩
  have ne : ∀ {y : Addr} {t : Option Tag}, a.t y = t → t ≠ some (j + 1, []) → y ≠ x := fun e ht => by rintro rfl; rw [tx] at e; exact ht e.symm
  have fx : a.F x = none := (r.ok.own x _ tx).1
  have up : ∀ {y : Addr}, y ≠ x → upd a.H x (.lst vs') y = a.H y := fun e => upd_ne e
  have ok' : Ok ⟨a.F, upd a.H x (.lst vs'), a.t⟩ := by
    refine ⟨fun y o e => ?_, fun y t e => ?_⟩
    · have : y ≠ x := by rintro rfl; have e : a.F y = some o := e; rw [fx] at e; cases e
      show upd a.H x _ y = _
      rw [up this]; exact r.ok.sub y o e
    · obtain ⟨g1, o, g2⟩ := r.ok.own y t e
      by_cases q : y = x
      · subst q; exact ⟨g1, _, upd_same⟩
      · exact ⟨g1, o, by show upd a.H x _ y = _; rw [up q]; exact g2⟩
  have mv : ∀ {d : D} {r p} {v1 : V}, (∀ z, (r, z ++ p) ≠ (j + 1, ([] : List Nat))) → Rep G.C a r p v1 d → Rep G.C ⟨a.F, upd a.H x (.lst vs'), a.t⟩ r p v1 d := fun {d r p v1} hne h => by
    have := Rep.to (C := G.C) (a := a) (b := ⟨a.F, upd a.H x (.lst vs'), a.t⟩) (r := r) (s := r) (p := p) (q := p) (fun _ _ h => h) (fun y z o h e => ⟨h, by
      show upd a.H x _ y = _
      rw [up (ne h (by intro q; exact hne z (Option.some.inj q)))]; exact e⟩) d [] v1
    exact this h
  refine ⟨fun y o e t => ⟨by show upd a.H x _ y = _; rw [up (ne t (by simp))]; exact e, t, rfl⟩, ⟨ok', by rw [List.length_set]; exact r.len, fun i d e => ?_, r.prm⟩⟩
  by_cases ij : j = i
  · subst ij
    have hj : j < env.length := (List.getElem?_eq_some_iff.mp h).1
    rw [List.getElem?_set_self hj] at e
    cases e
    refine ⟨.ref x, h1, ?_⟩
    simp only [Rep]
    refine ⟨x, vs', rfl, ?_, ?_⟩
    · rw [if_pos trivial]; exact ⟨tx, upd_same⟩
    · exact RepL.fz (a := a) (b := ⟨a.F, upd a.H x (.lst vs'), a.t⟩) (fun _ _ h => h) l' q [] n vs' z hl'
  · rw [List.getElem?_set_ne ij] at e
    obtain ⟨w, e1, e2⟩ := r.slot i d e
    exact ⟨w, e1, mv (by intro z q; exact ij (Nat.succ.inj (congrArg Prod.fst q)).symm) e2⟩
/- a method of a slot's own list: the arguments, the answer and the list behind it -/
def mMet (j : Nat) (ma : EM (List Arg)) (f : List D → List D → Option (D × List D)) : EM D := fun env => match env[j]? with
  | some (some (.lst true _)) => (ma env).bind fun (xs, e) => match e[j]?, Arg.gets e xs with
    | some (some (.lst true l)), some ds => match f l ds with
      | some (d, l') => .ok (d, e.set j (some (.lst true l')))
      | none => .bad
    | _, _ => .bad
  | _ => .bad
/- r does to the objects what f does to the data -/
def MetOk (C : KM) (r : V → List V → Hp → VK → Prop) (f : List D → List D → Option (D × List D)) : Prop := ∀ (a : Wd) (x : Addr) (vs us : List V) (l ds : List D) (d : D) (l' : List D) (n s : Nat) (p : List Nat) (Q : VK), Ok a → a.H x = some (.lst vs) → RepL C a s p n vs l → Paired (fun d v => ∃ r, Rep C a r [] v d) ds us → f l ds = some (d, l') →
  (∀ v vs' s' n' q, fzL l' = true → RepL C a s' q n' vs' l' → (∃ s'' q'', fz d = true ∧ Rep C a s'' q'' v d) → Q v (upd a.H x (.lst vs'))) → r (.ref x) us a.H Q
theorem met_w {G : Gm} {W : WX} {σ : L2.St} {H : Hp} {Q : VK} {j : Nat} {ma : EM (List Arg)} {f : List D → List D → Option (D × List D)} {r : V → List V → Hp → VK → Prop} (ok : MetOk G.C r f) (h : tE G W (mMet j ma f) σ H Q) : tBM G.C.K "list" r (tVar j) (tArgs G W ma) σ H Q := by
  obtain ⟨a, env, rfl, rel, post⟩ := h
  unfold mMet at post
  split at post
  · rename_i l0 hj
    obtain ⟨x, vs, h1, h2, h3, _⟩ := rel.rewr hj
    refine ⟨.ref x, h1, .inl ⟨rfl, vs, SqL.of h2⟩, tArgs_of rel post fun xs e b us st r' ps p => ?_⟩
    dsimp only at p
    split at p
    · rename_i l ds hj' hg
      cases hf : f l ds with
      | none => rw [hf] at p; exact (show False from p).elim
      | some dl =>
        obtain ⟨d, l'⟩ := dl
        rw [hf] at p
        dsimp only at p
        obtain ⟨x', vs', k1, k2, k3, k4⟩ := r'.rewr hj'
        rw [h1] at k1; cases k1
        refine ok b x vs' us l ds d l' _ _ _ Q r'.ok k2 k3 (gets_rep r' ps hg) hf fun v ws s' n' q z hr ⟨s'', q'', zd, rd⟩ => ?_
        obtain ⟨st', rel'⟩ := k4 ws l' s' n' q z hr
        exact p _ st' rel' v (rd.step r'.ok st' zd)
    · exact (show False from p).elim
  · exact (show False from post).elim
def appF (l ds : List D) : Option (D × List D) := match ds with
  | [y] => if fzL l = true ∧ fz y = true ∧ l.length < 16000000 then some (.non, l ++ [y]) else none
  | _ => none
def extF (l ds : List D) : Option (D × List D) := match ds with
  | [.lst _ m] => if fzL l = true ∧ fzL m = true ∧ l.length + m.length < 16000000 then some (.non, l ++ m) else none
  | _ => none
def popF (l ds : List D) : Option (D × List D) := match ds with
  | [.int i] => if fzL l = true ∧ -(2 ^ 63) ≤ i ∧ i < 2 ^ 63 then match seqIndex? i l.length with
      | some k => (l[k]?).map fun d => (d, l.eraseIdx k)
      | none => none
    else none
  | [] => if fzL l = true then (l[l.length - 1]?).map fun d => (d, l.dropLast) else none
  | _ => none
def insF (l ds : List D) : Option (D × List D) := match ds with
  | [.int i, y] => if fzL l = true ∧ fz y = true ∧ 0 ≤ i ∧ i < 2 ^ 63 ∧ l.length < 16000000 then some (.non, l.take i.toNat ++ [y] ++ l.drop i.toNat) else none
  | _ => none
theorem szl : sizeLine = 16777216 := sizeLine_eq
section
variable {C : KM}
theorem met_app : MetOk C rAppend appF := fun a x vs us l ds d l' n s p Q k hx hl ps hf q => by
  match ds, hf, ps with
  | [y], hf, ps =>
    simp only [appF] at hf
    split at hf
    · rename_i z; cases hf
      obtain ⟨u, rfl, ru, hu⟩ := one_rep ps
      refine ⟨x, vs, u, rfl, rfl, hx, by rw [hl.len, szl]; omega, q .non _ 0 0 [] (by rw [fzL_append, z.1]; simp [fzL, z.2.1]) (RepL.appz (n := n) (s := 0) (q := []) (k := 0) z.1 (by simp [fzL, z.2.1]) hl ?_) ⟨0, [], by simp [fz], by simp [Rep]⟩⟩
      exact ⟨u, [], rfl, Rep.fz (a := a) (b := a) (fun _ _ h => h) y [] [0] u z.2.1 hu, by simp [RepL]⟩
    · cases hf
theorem met_ext : MetOk C rExtend extF := fun a x vs us l ds d l' n s p Q k hx hl ps hf q => by
  match ds, hf, ps with
  | [.lst o m], hf, ps =>
    simp only [extF] at hf
    split at hf
    · rename_i z; cases hf
      obtain ⟨u, rfl, ru, hu⟩ := one_rep ps
      obtain ⟨y, ws, rfl, h1, h2⟩ := rep_lst k hu
      exact ⟨x, y, vs, ws, rfl, rfl, hx, h1, by rw [hl.len, h2.len, szl]; omega, q .non _ 0 0 [] (by rw [fzL_append, z.1, z.2.1]; rfl) (RepL.appz (n := n) (k := 0) z.1 z.2.1 hl h2) ⟨0, [], by simp [fz], by simp [Rep]⟩⟩
    · cases hf
theorem repL_drop {a : Wd} {r : Nat} {p : List Nat} : ∀ {l : List D} {n : Nat} {vs : List V} (k : Nat), fzL l = true → RepL C a r p n vs l → RepL C a r p n (vs.eraseIdx k) (l.eraseIdx k)
  | [], n, vs, k, z, e => by simp only [RepL] at e; subst e; simp [RepL]
  | d :: l, n, vs, 0, z, ⟨v, us, e, h1, h2⟩ => by
    subst e
    simp only [fzL, Bool.and_eq_true] at z
    exact RepL.fz (a := a) (b := a) (fun _ _ h => h) l p p (n + 1) us z.2 h2
  | d :: l, n, vs, k + 1, z, ⟨v, us, e, h1, h2⟩ => by
    subst e
    simp only [fzL, Bool.and_eq_true] at z
    exact ⟨v, us.eraseIdx k, rfl, h1, repL_drop k z.2 h2⟩
theorem fzL_erase {l : List D} (h : fzL l = true) (k : Nat) : fzL (l.eraseIdx k) = true := fzL_all fun d hd => fzL_mem h d (List.mem_of_mem_eraseIdx hd)
theorem met_popAt : MetOk C (fun x vs H Q => rPopAt x vs H Q ∨ rPop x vs H Q) popF := fun a x vs us l ds d l' n s p Q k hx hl ps hf q => by
  match ds, hf, ps with
  | [.int i], hf, ps =>
    simp only [popF] at hf
    split at hf
    · rename_i z
      obtain ⟨u, rfl, ru, hu⟩ := one_rep ps
      cases rep_int hu
      cases hk : seqIndex? i l.length with
      | none => rw [hk] at hf; cases hf
      | some m =>
        rw [hk] at hf
        dsimp only at hf
        cases hm : l[m]? with
        | none => rw [hm] at hf; cases hf
        | some d0 =>
          rw [hm] at hf; cases hf
          obtain ⟨v, h1, h2⟩ := hl.get hm
          exact .inl ⟨x, vs, i, m, v, rfl, rfl, hx, z.2.1, z.2.2, by rw [hl.len]; exact hk, h1, q v _ s n p (fzL_erase z.1 m) (repL_drop m z.1 hl) ⟨s, _, fzL_mem z.1 _ (List.mem_of_getElem? hm), h2⟩⟩
    · cases hf
  | [], hf, ps =>
    simp only [popF] at hf
    split at hf
    · rename_i z
      cases ps
      cases hm : l[l.length - 1]? with
      | none => rw [hm] at hf; cases hf
      | some d0 =>
        rw [hm] at hf; cases hf
        obtain ⟨v, h1, h2⟩ := hl.get hm
        have e1 : vs.dropLast = vs.eraseIdx (vs.length - 1) := by rw [List.eraseIdx_length_sub_one]
        have e2 : l.dropLast = l.eraseIdx (l.length - 1) := by rw [List.eraseIdx_length_sub_one]
        refine .inr ⟨x, vs, v, rfl, rfl, hx, by rw [hl.len]; exact h1, ?_⟩
        rw [e1, hl.len]
        rw [e2] at q
        exact q v _ s n p (fzL_erase z _) (repL_drop _ z hl) ⟨s, _, fzL_mem z _ (List.mem_of_getElem? hm), h2⟩
    · cases hf
end
end Mi
namespace Mi
open PySem PySem.Spec PyProof.Rows L2

/-! ### rules for the methods of a slot's list -/
section
variable {X : Cx} {G : Gm} {W : WX} {lv : Nat} {a b e o : Expr} {es : List Expr} {ma : EM Arg} {mas : EM (List Arg)} {m : EM D} {apos cpos p : Pos} {x : Str}
theorem r_append (s : St0 X G) (j : Nat) (hN : X.N[j]? = some x) (hv : Vis X.env.scope x) (ha : PA X [e] (tArgs G W mas)) (hd : (x == ("__debug__" : Str)) = false := by decide) (hcd : (x == ("__classdict__" : Str)) = false := by decide)
    (hbase : attributeBase (.Name x p) "append" X.env (eval (.Name x p) X.env) = eval (.Name x p) X.env := by rfl) (hfew : ((backTo cpos (starEach [e] X.env)).all (fun x => !x.1) && (backToKw cpos (keywordEach [] X.env)).all (fun x => x.1.isSome)
      && decide ([e].length + ([] : List Keyword).length + (if ([] : List Keyword).isEmpty then 0 else 1) < 30)) = true := by rfl) (hline : (apos.endLine == cpos.line) = true := by rfl) (hs : starEach [e] X.env = (false, eval e X.env) :: starEach [] X.env := by rfl) (hplain : (backTo cpos (starEach [] X.env)).any (·.1) = false := by rfl) :
    PE X (.Call (.Attribute (.Name x p) "append" apos) [e] [] cpos) (tE G W (mMet j mas appF)) :=
  (pe_bm PySem.F.plainAttrs_list PySem.F.slot_list_append PySem.F.type_list_append mt_append (pe_var hN hv hd hcd) ha hbase hfew hline hs hplain).weak fun _ _ _ q => by
    have := met_w met_app q
    rw [s.k]; exact this
theorem r_extend (s : St0 X G) (j : Nat) (hN : X.N[j]? = some x) (hv : Vis X.env.scope x) (ha : PA X [e] (tArgs G W mas)) (hd : (x == ("__debug__" : Str)) = false := by decide) (hcd : (x == ("__classdict__" : Str)) = false := by decide)
    (hbase : attributeBase (.Name x p) "extend" X.env (eval (.Name x p) X.env) = eval (.Name x p) X.env := by rfl) (hfew : ((backTo cpos (starEach [e] X.env)).all (fun x => !x.1) && (backToKw cpos (keywordEach [] X.env)).all (fun x => x.1.isSome)
      && decide ([e].length + ([] : List Keyword).length + (if ([] : List Keyword).isEmpty then 0 else 1) < 30)) = true := by rfl) (hline : (apos.endLine == cpos.line) = true := by rfl) (hs : starEach [e] X.env = (false, eval e X.env) :: starEach [] X.env := by rfl) (hplain : (backTo cpos (starEach [] X.env)).any (·.1) = false := by rfl) :
    PE X (.Call (.Attribute (.Name x p) "extend" apos) [e] [] cpos) (tE G W (mMet j mas extF)) :=
  (pe_bm PySem.F.plainAttrs_list PySem.F.slot_list_extend PySem.F.type_list_extend mt_extend (pe_var hN hv hd hcd) ha hbase hfew hline hs hplain).weak fun _ _ _ q => by
    have := met_w met_ext q
    rw [s.k]; exact this
theorem r_popAt (s : St0 X G) (j : Nat) (hN : X.N[j]? = some x) (hv : Vis X.env.scope x) (ha : PA X [e] (tArgs G W mas)) (hd : (x == ("__debug__" : Str)) = false := by decide) (hcd : (x == ("__classdict__" : Str)) = false := by decide)
    (hbase : attributeBase (.Name x p) "pop" X.env (eval (.Name x p) X.env) = eval (.Name x p) X.env := by rfl) (hfew : ((backTo cpos (starEach [e] X.env)).all (fun x => !x.1) && (backToKw cpos (keywordEach [] X.env)).all (fun x => x.1.isSome)
      && decide ([e].length + ([] : List Keyword).length + (if ([] : List Keyword).isEmpty then 0 else 1) < 30)) = true := by rfl) (hline : (apos.endLine == cpos.line) = true := by rfl) (hs : starEach [e] X.env = (false, eval e X.env) :: starEach [] X.env := by rfl) (hplain : (backTo cpos (starEach [] X.env)).any (·.1) = false := by rfl) :
    PE X (.Call (.Attribute (.Name x p) "pop" apos) [e] [] cpos) (tE G W (mMet j mas popF)) :=
  (pe_bm PySem.F.plainAttrs_list PySem.F.slot_list_pop PySem.F.type_list_pop (MtR.or mt_popAt mt_pop) (pe_var hN hv hd hcd) ha hbase hfew hline hs hplain).weak fun _ _ _ q => by
    have := met_w met_popAt q
    rw [s.k]; exact this
theorem r_pop (s : St0 X G) (j : Nat) (hN : X.N[j]? = some x) (hv : Vis X.env.scope x) (hd : (x == ("__debug__" : Str)) = false := by decide) (hcd : (x == ("__classdict__" : Str)) = false := by decide)
    (hbase : attributeBase (.Name x p) "pop" X.env (eval (.Name x p) X.env) = eval (.Name x p) X.env := by rfl) (hline : (apos.endLine == cpos.line) = true := by rfl) :
    PE X (.Call (.Attribute (.Name x p) "pop" apos) [] [] cpos) (tE G W (mMet j (mArgs []) popF)) :=
  (pe_bm0 PySem.F.plainAttrs_list PySem.F.slot_list_pop PySem.F.type_list_pop (MtR.or mt_popAt mt_pop) (pe_var hN hv hd hcd) hbase hline).weak fun σ H Q q => by
    obtain ⟨v, h1, ty, a, env, rfl, rel, post⟩ := met_w met_popAt q
    refine ⟨v, h1, by rw [s.k]; exact ty, ?_⟩
    exact post a (Step.refl a) rel [] .nil

/-! ### texts -/
def strsOf : List D → Option (List Str)
  | [] => some []
  | .str s :: l => (strsOf l).map (s :: ·)
  | _ => none
theorem strs_rep {C : KM} {a : Wd} {r : Nat} {p : List Nat} : ∀ {l : List D} {n : Nat} {vs : List V} {ys : List Str}, strsOf l = some ys → RepL C a r p n vs l → vs = ys.map V.str
  | [], n, vs, ys, e, h => by cases e; simpa [RepL] using h
  | d :: l, n, vs, ys, e, ⟨v, us, e1, h1, h2⟩ => by
    cases d <;> simp only [strsOf] at e <;> (try (cases e; done))
    case str z =>
      cases hs : strsOf l with
      | none => rw [hs] at e; cases e
      | some zs =>
        rw [hs] at e; cases e
        cases rep_str h1
        rw [e1, strs_rep hs h2]; rfl
def joinD (s : Str) : D → Option D
  | .lst _ l => match strsOf l with
    | some ys => if (ys.map (·.length)).sum + ys.length * s.length ≤ 16777216 then some (.str (Txt.join s ys)) else none
    | none => none
  | .tup l => match strsOf l with
    | some ys => if (ys.map (·.length)).sum + ys.length * s.length ≤ 16777216 then some (.str (Txt.join s ys)) else none
    | none => none
  | _ => none
theorem r_join (s : St0 X G) {z : Str} {k : Nat} (he : PE X e (tArg G W ma)) (hs : starEach [e] X.env = [(false, eval e X.env)] := by rfl) (hbase : attributeBase (.Constant (.str z) k p) "join" X.env (eval (.Constant (.str z) k p) X.env) = eval (.Constant (.str z) k p) X.env := by rfl) (hline : (apos.endLine == cpos.line) = true := by rfl) :
    PE X (.Call (.Attribute (.Constant (.str z) k p) "join" apos) [e] [] cpos) (tE G W (mUn (joinD z) ma)) := (pe_join (pe_str) he hs hbase hline).weak fun σ H Q q => by
  refine ⟨⟨z, rfl⟩, ?_⟩
  obtain ⟨a, env, rfl, rel, post⟩ := q
  refine tArg_of rel post fun x e1 b v s1 rel1 ar1 post1 => ?_
  cases hx : x.get e1 with
  | none => simp only [hx] at post1; exact (show False from post1).elim
  | some d1 =>
    simp only [hx] at post1
    obtain ⟨d, hd, k⟩ := post1.lift rel1
    obtain ⟨r1, p1⟩ := ar1.rep rel1 hx
    cases d1 <;> simp only [joinD] at hd <;> (try (cases hd; done))
    case lst o l =>
      cases hl : strsOf l with
      | none => rw [hl] at hd; cases hd
      | some ys =>
        rw [hl] at hd
        dsimp only at hd
        split at hd
        · rename_i hz; cases hd
          obtain ⟨y, vs, rfl, h1, h2⟩ := rep_lst rel1.ok p1
          rw [strs_rep hl h2] at h1
          exact ⟨z, y, ys, rfl, rfl, .inl (SqL.of h1), hz, k b (Grow.refl b) rel1.ok _ (by simp [Rep])⟩
        · cases hd
    case tup l =>
      cases hl : strsOf l with
      | none => rw [hl] at hd; cases hd
      | some ys =>
        rw [hl] at hd
        dsimp only at hd
        split at hd
        · rename_i hz; cases hd
          obtain ⟨y, vs, rfl, h1, h2⟩ := rep_tup rel1.ok p1
          rw [strs_rep hl h2] at h1
          exact ⟨z, y, ys, rfl, rfl, .inr (by rw [s.k]; exact h1), hz, k b (Grow.refl b) rel1.ok _ (by simp [Rep])⟩
        · cases hd
end

/-! ### sorted texts -/
theorem lt_asym : ∀ {a b : List Nat}, ltCps a b = true → ltCps b a = false
  | [], [], h => by simp [ltCps] at h
  | [], _ :: _, _ => rfl
  | _ :: _, [], h => by simp [ltCps] at h
  | a :: r, b :: t, h => by
    simp only [ltCps, Bool.or_eq_true, decide_eq_true_eq, Bool.and_eq_true, beq_iff_eq] at h
    rcases h with h | ⟨rfl, h⟩
    · have e1 : ¬ b < a := by omega
      have e2 : ¬ b = a := by omega
      simp [ltCps, e1, e2]
    · simp [ltCps, lt_asym h]
theorem lt_tri : ∀ {a b : List Nat}, ltCps a b = false → ltCps b a = false → a = b
  | [], [], _, _ => rfl
  | [], _ :: _, h, _ => by simp [ltCps] at h
  | _ :: _, [], _, h => by simp [ltCps] at h
  | a :: r, b :: t, h, g => by
    simp only [ltCps, Bool.or_eq_false_iff, decide_eq_false_iff_not, Bool.and_eq_false_iff, beq_eq_false_iff_ne] at h g
    have e : a = b := by omega
    subst e
    rcases h.2 with h2 | h2
    · exact absurd rfl h2
    · rcases g.2 with g2 | g2
      · exact absurd rfl g2
      · rw [lt_tri h2 g2]
theorem le_trans' : ∀ {a b c : List Nat}, ltCps b a = false → ltCps c b = false → ltCps c a = false
  | a, b, [], h, g => by
    cases b with
    | nil => exact h
    | cons b t => simp [ltCps] at g
  | [], b, c :: u, h, g => rfl
  | a :: r, [], c :: u, h, g => by simp [ltCps] at h
  | a :: r, b :: t, c :: u, h, g => by
    simp only [ltCps, Bool.or_eq_false_iff, decide_eq_false_iff_not, Bool.and_eq_false_iff, beq_eq_false_iff_ne] at h g ⊢
    refine ⟨by omega, ?_⟩
    by_cases e : c = a
    · right
      subst e
      have e2 : b = c := by omega
      subst e2
      rcases h.2 with h2 | h2
      · exact absurd rfl h2
      · rcases g.2 with g2 | g2
        · exact absurd rfl g2
        · exact le_trans' h2 g2
    · exact .inl e
def leS (a b : Str) : Bool := !ltCps b.cps.toList a.cps.toList
def sortS (xs : List Str) : List Str := xs.mergeSort leS
theorem rising_pw : ∀ (p : Str) (l : List Str), risingS p l = true → (p :: l).Pairwise (fun a b => leS a b = true)
  | p, [], _ => by simp
  | p, x :: l, h => by
    simp only [risingS, Bool.and_eq_true] at h
    have ih := rising_pw x l h.2
    refine List.pairwise_cons.mpr ⟨fun y hy => ?_, ih⟩
    rcases List.mem_cons.mp hy with rfl | hy
    · exact h.1
    · have h2 := (List.pairwise_cons.mp ih).1 y hy
      unfold leS at h2 ⊢
      simp only [Bool.not_eq_true'] at h2 h ⊢
      exact le_trans' h.1 h2
theorem sorted_pw : ∀ {l : List Str}, sortedS l = true → l.Pairwise (fun a b => leS a b = true)
  | [], _ => .nil
  | x :: l, h => rising_pw x l h
theorem sortS_pw (xs : List Str) : (sortS xs).Pairwise (fun a b => leS a b = true) := List.pairwise_mergeSort (fun a b c h g => by
    unfold leS at h g ⊢
    simp only [Bool.not_eq_true'] at h g ⊢
    exact le_trans' h g) (fun a b => by
    unfold leS
    cases h : ltCps b.cps.toList a.cps.toList with
    | false => simp
    | true => simp [lt_asym h]) xs
theorem str_ext {a b : Str} (h : a.cps.toList = b.cps.toList) : a = b := by
  obtain ⟨⟨a⟩⟩ := a
  obtain ⟨⟨b⟩⟩ := b
  simp at h
  subst h; rfl
theorem sort_one {xs ys : List Str} (h : ys.Perm xs) (s : sortedS ys = true) : ys = sortS xs :=
  List.Perm.eq_of_pairwise (le := fun a b => leS a b = true) (fun a b _ _ h g => by
    unfold leS at h g
    simp only [Bool.not_eq_true'] at h g
    exact str_ext (lt_tri g h)) (sorted_pw s) (sortS_pw xs) (h.trans (List.mergeSort_perm xs leS).symm)
def sortD : List D → Option D
  | [.lst _ l] => match strsOf l with
    | some ys => if ys.length < 64 then some (.lst true ((sortS ys).map .str)) else none
    | none => none
  | _ => none
theorem repL_strs {C : KM} {a : Wd} {r : Nat} {p : List Nat} : ∀ (l : List Str) (n : Nat), RepL C a r p n (l.map V.str) (l.map D.str)
  | [], n => by simp [RepL]
  | x :: l, n => ⟨.str x, l.map V.str, rfl, by simp [Rep], repL_strs l (n + 1)⟩
theorem fzL_strs (l : List Str) : fzL (l.map D.str) = true := fzL_map _ (fun _ => by simp [fz]) l
theorem call_sortD {X : Cx} {C : KM} : CallR X (.builtin "sorted") (cD C sortD) := by
  intro pins s σ H xs us Q I r h
  obtain ⟨a, ds, d, rfl, k, ps, hd, q⟩ := h
  match ds, hd with
  | [.lst o l], hd =>
    simp only [sortD] at hd
    cases hl : strsOf l with
    | none => rw [hl] at hd; cases hd
    | some ys =>
      rw [hl] at hd
      dsimp only at hd
      split at hd
      · rename_i hz; cases hd
        obtain ⟨v, rfl, r1, p1⟩ := one_rep ps
        obtain ⟨y, vs, rfl, h1, h2⟩ := rep_lst k p1
        rw [strs_rep hl h2] at h1
        refine cr_sortedS pins s σ a.H _ us Q I r ⟨y, ys, rfl, SqL.of h1, hz, fun zs p hp hs hn => ?_⟩
        rw [sort_one hp hs]
        exact new_lst k (fzL_strs _) (repL_strs (C := C) (a := a) (r := 0) (p := []) _ 0) q p hn
      · cases hd
end Mi
namespace Mi
open PySem PySem.Spec PyProof.Rows L2

/-! ### dicts as lists of pairs -/
def kds : List D → List D → Option (List (Key × D))
  | [], [] => some []
  | k :: ks, w :: ws => match keyD k, kds ks ws with
    | some x, some r => some ((x, w) :: r)
    | _, _ => none
  | _, _ => none
def putG (ds : List (Key × D)) (k : Key) (d : D) : List (Key × D) :=
  if (ds.any fun p => decide (p.1 = k)) = true then ds.map (fun p => if p.1 = k then (p.1, d) else p) else ds ++ [(k, d)]
def dicG (ds : List (Key × D)) : D := .dic true (ds.map fun p => unkD p.1) (ds.map (·.2))
abbrev KVr (C : KM) (a : Wd) : List (Key × V) → List (Key × D) → Prop := Paired (fun x y => x.1 = y.1 ∧ fz y.2 = true ∧ ∃ s q, Rep C a s q x.2 y.2)
section
variable {C : KM} {a : Wd}
theorem kvr_of : ∀ {kvs : List (Key × V)} {ks ws : List D} {ds : List (Key × D)} {r s n m : Nat} {p q : List Nat}, kds ks ws = some ds → fzL ws = true → RepL C a r p n (kvs.map fun x => kV x.1) ks → RepL C a s q m (kvs.map (·.2)) ws → KVr C a kvs ds
  | [], ks, ws, ds, r, s, n, m, p, q, e, z, h, g => by
    have e1 : ks = [] := by cases ks with | nil => rfl | cons _ _ => simp only [RepL, List.map_nil] at h; obtain ⟨_, _, e, _⟩ := h; cases e
    have e2 : ws = [] := by cases ws with | nil => rfl | cons _ _ => simp only [RepL, List.map_nil] at g; obtain ⟨_, _, e, _⟩ := g; cases e
    subst e1 e2
    cases e
    exact .nil
  | x :: kvs, ks, ws, ds, r, s, n, m, p, q, e, z, h, g => by
    cases ks with
    | nil => simp only [RepL, List.map_cons] at h; cases h
    | cons k ks =>
      cases ws with
      | nil => simp only [RepL, List.map_cons] at g; cases g
      | cons w ws =>
        simp only [RepL, List.map_cons] at h g
        obtain ⟨v, us, e1, h1, h2⟩ := h
        obtain ⟨v', us', e1', g1, g2⟩ := g
        cases e1; cases e1'
        simp only [fzL, Bool.and_eq_true] at z
        simp only [kds] at e
        cases hk : keyD k with
        | none => rw [hk] at e; cases e
        | some y =>
          cases hr : kds ks ws with
          | none => rw [hk, hr] at e; cases e
          | some r' =>
            rw [hk, hr] at e; cases e
            have := rep_key h1
            subst this
            rw [keyD_unk] at hk; cases hk
            exact .cons ⟨rfl, z.1, _, _, g1⟩ (kvr_of hr z.2 h2 g2)
theorem kvr_keys : ∀ {kvs : List (Key × V)} {ds : List (Key × D)} {n : Nat}, KVr C a kvs ds → RepL C a 0 [] n (kvs.map fun x => kV x.1) (ds.map fun x => unkD x.1)
  | _, _, n, .nil => by simp [RepL]
  | x :: kvs, y :: ds, n, .cons h t => by
    refine ⟨kV x.1, _, rfl, ?_, kvr_keys t⟩
    rw [h.1]
    obtain ⟨k, d⟩ := y
    cases k <;> simp [unkD, kV, Rep]
theorem kvr_vals : ∀ {kvs : List (Key × V)} {ds : List (Key × D)} {n : Nat}, KVr C a kvs ds → RepL C a 0 [] n (kvs.map (·.2)) (ds.map (·.2))
  | _, _, n, .nil => by simp [RepL]
  | x :: kvs, y :: ds, n, .cons h t => by
    obtain ⟨h1, h2, s, q, h3⟩ := h
    exact ⟨x.2, _, rfl, Rep.fz (a := a) (b := a) (fun _ _ h => h) y.2 _ _ x.2 h2 h3, kvr_vals t⟩
theorem kvr_fz : ∀ {kvs : List (Key × V)} {ds : List (Key × D)}, KVr C a kvs ds → fzL (ds.map (·.2)) = true
  | _, _, .nil => by simp [fzL]
  | _, _, .cons h t => by simp [fzL, h.2.1, kvr_fz t]
theorem fz_keys (ds : List (Key × D)) : fzL (ds.map fun x => unkD x.1) = true := fzL_map _ (fun x => by cases x.1 <;> simp [unkD, fz]) ds
theorem kvr_any {k : Key} : ∀ {kvs : List (Key × V)} {ds : List (Key × D)}, KVr C a kvs ds → (kvs.any fun p => decide (p.1 = k)) = (ds.any fun p => decide (p.1 = k))
  | _, _, .nil => rfl
  | _, _, .cons h t => by rw [List.any_cons, List.any_cons, h.1, kvr_any t]
theorem kvr_app : ∀ {k1 k2 : List (Key × V)} {d1 d2 : List (Key × D)}, KVr C a k1 d1 → KVr C a k2 d2 → KVr C a (k1 ++ k2) (d1 ++ d2)
  | _, _, _, _, .nil, g => g
  | _, _, _, _, .cons h t, g => .cons h (kvr_app t g)
theorem kvr_map {k : Key} {v : V} {d : D} (z : fz d = true) (hr : ∃ s q, Rep C a s q v d) : ∀ {kvs : List (Key × V)} {ds : List (Key × D)}, KVr C a kvs ds → KVr C a (kvs.map fun p => if p.1 = k then (p.1, v) else p) (ds.map fun p => if p.1 = k then (p.1, d) else p)
  | _, _, .nil => .nil
  | x :: kvs, y :: ds, .cons h t => by
    refine .cons ?_ (kvr_map z hr t)
    dsimp only
    by_cases e : x.1 = k
    · have e2 : y.1 = k := by rw [← h.1]; exact e
      rw [if_pos e, if_pos e2]
      exact ⟨h.1, z, hr⟩
    · have e2 : ¬ y.1 = k := by rw [← h.1]; exact e
      rw [if_neg e, if_neg e2]
      exact h
theorem kvr_put {kvs : List (Key × V)} {ds : List (Key × D)} {k : Key} {v : V} {d : D} (h : KVr C a kvs ds) (z : fz d = true) (hr : ∃ s q, Rep C a s q v d) : KVr C a (putK kvs k v) (putG ds k d) := by
  unfold putK putG
  rw [kvr_any (k := k) h]
  split
  · exact kvr_map z hr h
  · exact kvr_app h (.cons ⟨rfl, z, hr⟩ .nil)
theorem kvr_len : ∀ {kvs : List (Key × V)} {ds : List (Key × D)}, KVr C a kvs ds → kvs.length = ds.length
  | _, _, .nil => rfl
  | _, _, .cons h t => by rw [List.length_cons, List.length_cons, kvr_len t]
end

/-! ### xs[i] = y of a slot's own list or dict -/
def setX (d i y : D) : Option D := match d, i with
  | .lst true l, .int k => (ixN l.length k).map fun n => .lst true (l.set n y)
  | .dic true ks ws, x => match kds ks ws, keyD x with
    | some ds, some k => if fzL ws = true ∧ ds.length < 16000000 then some (dicG (putG ds k y)) else none
    | _, _ => none
  | _, _ => none
theorem RelE.rewrD {G : Gm} {a : Wd} {σ : L2.St} {env : EnvD} {j : Nat} {ks ws : List D} (r : RelE G a σ env) (h : env[j]? = some (some (.dic true ks ws))) :
    ∃ x kvs, σ[j]? = some (some (.ref x)) ∧ a.H x = some (.dK kvs) ∧ RepL G.C a (j + 1) [] 0 (kvs.map fun p => kV p.1) ks ∧ RepL G.C a (j + 1) [] 0 (kvs.map (·.2)) ws ∧
      ∀ (kvs' : List (Key × V)) (ds : List (Key × D)), KVr G.C a kvs' ds → Step a ⟨a.F, upd a.H x (.dK kvs'), a.t⟩ ∧ RelE G ⟨a.F, upd a.H x (.dK kvs'), a.t⟩ σ (env.set j (some (dicG ds))) := by
  obtain ⟨w, h1, h2⟩ := r.slot j _ h
  simp only [Rep] at h2
  obtain ⟨x, ho, kv, vs, rfl, hx, dc, zk, hk, hv⟩ := h2
  rw [if_pos trivial] at hx
  obtain ⟨tx, hx⟩ := hx
  cases dc with
  | dk kvs =>
  refine ⟨x, kvs, h1, hx, hk, hv, fun kvs' ds kr => ?_⟩
  have ne : ∀ {y : Addr} {t : Option Tag}, a.t y = t → t ≠ some (j + 1, []) → y ≠ x := fun e ht => by rintro rfl; rw [tx] at e; exact ht e.symm
  have fx : a.F x = none := (r.ok.own x _ tx).1
  have up : ∀ {y : Addr}, y ≠ x → upd a.H x (.dK kvs') y = a.H y := fun e => upd_ne e
  have ok' : Ok ⟨a.F, upd a.H x (.dK kvs'), a.t⟩ := by
    refine ⟨fun y o e => ?_, fun y t e => ?_⟩
    · have : y ≠ x := by rintro rfl; have e : a.F y = some o := e; rw [fx] at e; cases e
      show upd a.H x _ y = _
      rw [up this]; exact r.ok.sub y o e
    · obtain ⟨g1, o, g2⟩ := r.ok.own y t e
      by_cases q : y = x
      · subst q; exact ⟨g1, _, upd_same⟩
      · exact ⟨g1, o, by show upd a.H x _ y = _; rw [up q]; exact g2⟩
  have mv : ∀ {d : D} {r p} {v1 : V}, (∀ z, (r, z ++ p) ≠ (j + 1, ([] : List Nat))) → Rep G.C a r p v1 d → Rep G.C ⟨a.F, upd a.H x (.dK kvs'), a.t⟩ r p v1 d := fun {d r p v1} hne h => by
    have := Rep.to (C := G.C) (a := a) (b := ⟨a.F, upd a.H x (.dK kvs'), a.t⟩) (r := r) (s := r) (p := p) (q := p) (fun _ _ h => h) (fun y z o h e => ⟨h, by
      show upd a.H x _ y = _
      rw [up (ne h (by intro q; exact hne z (Option.some.inj q)))]; exact e⟩) d [] v1
    exact this h
  refine ⟨fun y o e t => ⟨by show upd a.H x _ y = _; rw [up (ne t (by simp))]; exact e, t, rfl⟩, ⟨ok', by rw [List.length_set]; exact r.len, fun i d e => ?_, r.prm⟩⟩
  by_cases ij : j = i
  · subst ij
    have hj : j < env.length := (List.getElem?_eq_some_iff.mp h).1
    rw [List.getElem?_set_self hj] at e
    cases e
    refine ⟨.ref x, h1, ?_⟩
    simp only [dicG, Rep]
    refine ⟨x, .dK kvs', _, _, rfl, ?_, .dk kvs', fz_keys ds, ?_, ?_⟩
    · rw [if_pos trivial]; exact ⟨tx, upd_same⟩
    · exact RepL.fz (a := a) (b := ⟨a.F, upd a.H x (.dK kvs'), a.t⟩) (fun _ _ h => h) _ _ [] 0 _ (fz_keys ds) (kvr_keys (n := 0) kr)
    · exact RepL.fz (a := a) (b := ⟨a.F, upd a.H x (.dK kvs'), a.t⟩) (fun _ _ h => h) _ _ [] 0 _ (kvr_fz kr) (kvr_vals (n := 0) kr)
  · rw [List.getElem?_set_ne ij] at e
    obtain ⟨w, e1, e2⟩ := r.slot i d e
    exact ⟨w, e1, mv (by intro z q; exact ij (Nat.succ.inj (congrArg Prod.fst q)).symm) e2⟩
def mSetX (j : Nat) (mi mv : EM D) : EM FlowD := fun env => (mv env).bind fun (y, e1) =>
  match e1[j]? with
  | some (some _) => (mFrz mi e1).bind fun (x, e2) => match e2[j]?, x.get e2 with
    | some (some d), some i => match setX d i (frzQ y) with
      | some d' => .ok (.next, e2.set j (some d'))
      | none => .bad
    | _, _ => .bad
  | _ => .bad
theorem setX_w {G : Gm} {W : WX} {σ : L2.St} {H : Hp} {j : Nat} {mi mv : EM D} {D : Ends} (h : tS G W (mSetX j mi mv) D σ H) : tAsg (tE G W mv) (gSub (tVar j) (tE G W mi) (fun o i v H Q => rSetL o i v H Q ∨ rSetD o i v H Q)) D σ H := by
  obtain ⟨a, env, rfl, rel, post⟩ := h
  refine tE_ofS rel post fun y e1 b v st r1 rv p1 => ?_
  dsimp only at p1
  split at p1
  · rename_i dj hj0
    obtain ⟨zy, ry⟩ := frzQ_rep (s := 0) (q := []) r1.ok rv
    have r1' := r1.frz0
    obtain ⟨w, hw, _⟩ := r1.slot j _ hj0
    refine ⟨w, hw, ?_⟩
    show tE G W mi σ (frzW b 0).H _
    refine (frz_w (m := mi) (Q := fun i H2 => (rSetL w i v H2 fun H3 => D.nx σ H3) ∨ (rSetD w i v H2 fun H3 => D.nx σ H3)) ?_)
    refine tArg_ofS r1' (PostS.step frzW_step p1) fun x e2 c u s2 r2 ar p2 => ?_
    dsimp only at p2
    split at p2
    · rename_i d i hj hi
      cases hs : setX d i (frzQ y) with
      | none => rw [hs] at p2; exact (show False from p2).elim
      | some d' =>
        rw [hs] at p2
        dsimp only at p2
        obtain ⟨ri, pi⟩ := ar.rep r2 hi
        unfold setX at hs
        split at hs
        · rename_i l k
          cases rep_int pi
          cases hk : ixN l.length k with
          | none => rw [hk] at hs; cases hs
          | some n =>
            rw [hk] at hs; cases hs
            obtain ⟨xx, vs, g1, g2, g3, g4, g5⟩ := r2.put (n := n) (s := 0) (q := []) hj zy (ry.step r1'.ok s2 zy)
            rw [hw] at g1; cases g1
            exact .inl ⟨xx, vs, k, n, rfl, rfl, g2, by rw [g3]; exact hk, p2 _ σ g4 g5⟩
        · rename_i x' ks ws
          cases hd : kds ks ws with
          | none => rw [hd] at hs; cases hs
          | some ds =>
            cases hk : keyD i with
            | none => rw [hd, hk] at hs; cases hs
            | some k =>
              rw [hd, hk] at hs
              dsimp only at hs
              split at hs
              · rename_i z; cases hs
                obtain ⟨xx, kvs, g1, g2, g3, g4, g5⟩ := r2.rewrD hj
                rw [hw] at g1; cases g1
                have kr := kvr_of hd z.1 g3 g4
                obtain ⟨s3, r3⟩ := g5 _ _ (kvr_put (k := k) (v := v) kr zy ⟨0, [], ry.step r1'.ok s2 zy⟩)
                exact .inr ⟨xx, _, rfl, .inl ⟨kvs, k, g2, keyD_rep hk pi, by rw [kvr_len kr, szl]; omega, rfl⟩, p2 _ σ s3 r3⟩
              · cases hs
        · cases hs
    · exact (show False from p2).elim
  · exact (show False from p1).elim
theorem PSet.or {X : Cx} {t u : TSet} (h : PSet X t) (g : PSet X u) : PSet X (fun o i v H Q => t o i v H Q ∨ u o i v H Q) := by
  intro pins s σ H o i v ov iv w Q I ro ri rv q
  rcases q with q | q
  · exact h pins s σ H o i v ov iv w Q I ro ri rv q
  · exact g pins s σ H o i v ov iv w Q I ro ri rv q
theorem rs_putX {X : Cx} {G : Gm} {W : WX} {a e : Expr} {m n : EM D} {pos p : Pos} {x : Str} (s : St0 X G) (j : Nat) {pos' : Pos} (hN : X.N[j]? = some x) (hv : Vis X.env.scope x) (hi : PE X a (tE G W n)) (he : PE X e (tE G W m)) (hs : swapsWithSole [.Subscript (.Name x p) a pos'] e pos.line X.env = pure false := by rfl) (hw : swappedStores [.Subscript (.Name x p) a pos'] e X.env = pure none := by rfl)
    (h1 : (assignEach [.Subscript (.Name x p) a pos'] X.env).map (·.2) = [assign (.Subscript (.Name x p) a pos') X.env] := by rfl)
    (ha : ∀ v, assign (.Subscript (.Name x p) a pos') X.env v = (do
      let ov ← holding [v] (eval (.Name x p) X.env)
      let iv ← holding [v, ov] (eval a X.env)
      standAt pos'
      holding [v, ov, iv] (setItem ov iv v)
      release [v, ov, iv] []) := by intro _; rfl) (hd : (x == ("__debug__" : Str)) = false := by decide) (hcd : (x == ("__classdict__" : Str)) = false := by decide) : PS X (.Assign [.Subscript (.Name x p) a pos'] e pos) (tS G W (mSetX j n m)) :=
  (ps_asg he (pg_sub (pe_var hN hv hd hcd) hi (PSet.or set_list (set_dict (by have := s.u; omega))) ha) hs hw h1).weak fun _ _ _ q => setX_w q
end Mi
namespace Mi
open PySem PySem.Spec PyProof.Rows L2

/-! ### dict(..) -/
section
variable {X : Cx} {pins : List (Addr × Obj)} {σ : L2.St} {H : Hp} {s : Shared}
theorem plain_of (I : Inv X pins σ H s) {x : Addr} {vs : List V} (h : XT X.K H x vs) : ∃ its : List Value, Vals vs its ∧ PySem.PlainSeq "tuple" s.heap x its.toArray ∧ vs.length ≤ sizeLine := by
  rcases h with ⟨ob, h, hd, hc⟩ | ⟨o, its, n, hk, hc, hd, hs, hz, r⟩
  · obtain ⟨e, z, its, r, o', e', _, n, dt⟩ := (show ObjOk X.prog X.w H s.heap x (.frz ob (.tup vs)) from I.hok x _ h)
    rw [e] at e'; cases e'
    exact ⟨its, r, ⟨ob, n, e, hc, hd, dt⟩, z⟩
  · refine ⟨its.toList, r, ⟨o, n, I.kIn x o hk, hc, hd, by simpa using hs⟩, ?_⟩
    have e := r.length
    simp only [Array.length_toList] at e
    omega
theorem pairsV (I : Inv X pins σ H s) : ∀ {ps : List Addr} {kvs : List (Key × V)}, Paired (fun p kv => SqT X.K H p [kV kv.1, kv.2]) ps kvs →
    ∃ (prs : List (Key × Value)) (zs : List (Value × Value)), KV kvs prs ∧ prs.length = ps.length ∧ zs.length = ps.length ∧ ∀ (j : Nat) (k v : Value), zs[j]? = some (k, v) → ∃ (b : Addr) (key : Key), ps[j]? = some b ∧ IsTup s.heap b #[k, v] ∧ prs[j]? = some (key, v) ∧ keyIs key k = true
  | _, _, .nil => ⟨[], [], .nil, rfl, rfl, fun j k v e => by simp at e⟩
  | _, _, .cons (a := p) (b := kv) h t => by
    obtain ⟨prs, zs, r, hl, hz, hp⟩ := pairsV I t
    obtain ⟨its, rv, ht, _⟩ := I.tuple h
    obtain ⟨u, y, ei, ru, ry⟩ := vals2 rv
    subst ei
    refine ⟨(kv.1, y) :: prs, (u, y) :: zs, .cons ⟨rfl, ry⟩ r, by simp [hl], by simp [hz], fun j k v e => ?_⟩
    cases j with
    | zero =>
      have e' : (u, y) = (k, v) := Option.some.inj e
      cases e'
      exact ⟨p, kv.1, rfl, ht, rfl, kV_is (P := X.prog) (w := X.w) ru⟩
    | succ j =>
      obtain ⟨b, key, e1, e2, e3, e4⟩ := hp j k v (by simpa using e)
      exact ⟨b, key, by simpa using e1, e2, by simpa using e3, e4⟩
/- dict(t) of a tuple of pairs -/
theorem call_dictT (hcalm : X.calm = true) : CallR X (.type "dict") (fun xs H Q => ∃ (a : Addr) (ps : List Addr) (kvs : List (Key × V)), xs = [.ref a] ∧ XT X.K H a (ps.map V.ref) ∧ Paired (fun p kv => SqT X.K H p [kV kv.1, kv.2]) ps kvs ∧
    ∀ p, H p = none → Q (.ref p) (upd H p (.dK (mergeK [] kvs)))) := by
  intro pins s σ H xs us Q I r q
  obtain ⟨a, ps, kvs, rfl, hq, hp, q⟩ := q
  obtain ⟨u, rfl, rx⟩ := vals1 r
  cases rx
  obtain ⟨its, rv, pl, hz⟩ := plain_of I hq
  obtain rfl := refs_at rv
  rw [List.length_map] at hz
  obtain ⟨prs, zs, rel, hl, hzl, hpr⟩ := pairsV I hp
  have hit : PySem.PairItems s.heap (ps.map Value.ref).toArray (fun j => (ps[j]?).getD 0) zs := by
    refine ⟨by simp [hzl], fun j k v e => ?_⟩
    obtain ⟨b, key, e1, e2, _, _⟩ := hpr j k v e
    refine ⟨by simp [e1], ?_⟩
    simp only [e1, Option.getD_some]
    exact .inl e2
  refine PySem.call_dict_pairs (knd := mixKind X.prog X.w) (kvs := prs) (PySem.PairArg.tuple a (ps.map Value.ref).toArray (fun j => (ps[j]?).getD 0) zs) (I.ok.hd hcalm) ⟨pl, hit⟩ ⟨by rw [hl, hzl], fun i k v e => ?_⟩ (by rw [hzl]; exact hz) fun h' tk hd' k => ?_
  · obtain ⟨b, key, _, _, e3, e4⟩ := hpr i k v e
    exact ⟨key, e3, e4⟩
  · have hm : (s.heap.objs.size == sysModules) = false := beq_eq_false_iff_ne.mpr (Nat.ne_of_gt I.big)
    have hlen : (mergeK [] kvs).length ≤ sizeLine := Nat.le_trans (length_mergeK kvs []) (by rw [List.length_nil, Nat.zero_add, rel.length, hl]; exact hz)
    exact ⟨.ref s.heap.objs.size, upd H s.heap.objs.size (.dK (mergeK [] kvs)), I.laid (t' := tk) (fun b o e => k b o (by simp) e) (Nat.le_refl _) (show ObjOk X.prog X.w _ _ _ (.dK (mergeK [] kvs)) from ⟨hlen, hm, merged [] prs, KV.merge rel .nil, hd'⟩), rfl, q _ (I.hok.fresh (Nat.le_refl _))⟩
end
def pairsD : List D → Option (List (Key × D))
  | [] => some []
  | .tup [k, w] :: r => match keyD k, pairsD r with
    | some x, some ds => if fz w = true then some ((x, w) :: ds) else none
    | _, _ => none
  | _ => none
def mergeG (ds : List (Key × D)) (acc : List (Key × D)) : List (Key × D) := ds.foldl (fun acc p => putG acc p.1 p.2) acc
theorem kvr_merge {C : KM} {a : Wd} : ∀ {kvs : List (Key × V)} {ds : List (Key × D)} {k0 : List (Key × V)} {d0 : List (Key × D)}, KVr C a kvs ds → KVr C a k0 d0 → KVr C a (mergeK k0 kvs) (mergeG ds d0)
  | _, _, _, _, .nil, g => g
  | x :: kvs, y :: ds, k0, d0, .cons h t, g => by
    obtain ⟨h1, h2, h3⟩ := h
    have := kvr_put (k := y.1) g h2 h3
    rw [← h1] at this
    show KVr C a (mergeK (putK k0 x.1 x.2) kvs) (mergeG ds (putG d0 y.1 y.2))
    rw [← h1]
    exact kvr_merge t this
theorem pairs_rep {C : KM} {a : Wd} {r : Nat} {p : List Nat} (ok : Ok a) : ∀ {l : List D} {n : Nat} {vs : List V} {ds : List (Key × D)}, pairsD l = some ds → RepL C a r p n vs l →
    ∃ (ps : List Addr) (kvs : List (Key × V)), vs = ps.map V.ref ∧ Paired (fun p kv => SqT C.K a.H p [kV kv.1, kv.2]) ps kvs ∧ KVr C a kvs ds
  | [], n, vs, ds, e, h => by cases e; simp only [RepL] at h; subst h; exact ⟨[], [], rfl, .nil, .nil⟩
  | d :: l, n, vs, ds, e, ⟨v, us, e1, h1, h2⟩ => by
    match d, e, h1 with
    | .tup [k, w], e, h1 =>
      simp only [pairsD] at e
      cases hk : keyD k with
      | none => rw [hk] at e; cases e
      | some x =>
        cases hr : pairsD l with
        | none => rw [hk, hr] at e; cases e
        | some ds' =>
          rw [hk, hr] at e
          dsimp only at e
          split at e
          · rename_i z; cases e
            obtain ⟨ps, kvs, rfl, g1, g2⟩ := pairs_rep ok hr h2
            obtain ⟨y, ws, rfl, t1, t2⟩ := rep_tup ok h1
            simp only [RepL] at t2
            obtain ⟨v1, u1, rfl, q1, v2, u2, rfl, q2, rfl⟩ := t2
            have := keyD_rep hk q1
            subst this
            exact ⟨y :: ps, (x, v2) :: kvs, by rw [e1]; rfl, .cons t1 g1, .cons ⟨rfl, z, _, _, q2⟩ g2⟩
          · cases e
def dictD : List D → Option D
  | [.dic _ ks ws] => if fzL ws = true then some (.dic true ks ws) else none
  | [.tup l] => (pairsD l).map fun ds => dicG (mergeG ds [])
  | [.lst _ l] => (pairsD l).map fun ds => dicG (mergeG ds [])
  | _ => none
theorem new_dicG {C : KM} {a : Wd} {Q : VK} {kvs : List (Key × V)} {ds : List (Key × D)} (k : Ok a) (h : KVr C a kvs ds) (q : ∀ z b, Grow a b → Ok b → Rep C b 0 [] z (dicG ds) → Q z b.H) : ∀ x, a.H x = none → Q (.ref x) (upd a.H x (.dK kvs)) :=
  new_dic (C := C) (r := 0) (p := []) k (fz_keys ds) (kvr_fz h) (kvr_keys (n := 0) h) (kvr_vals (n := 0) h) q
theorem call_dictDD {X : Cx} {C : KM} (hC : C.K = X.K) (hc : X.calm = true) : CallR X (.type "dict") (cD C dictD) := by
  intro pins s σ H xs us Q I r h
  obtain ⟨a, ds, d, rfl, k, ps, hd, q⟩ := h
  match ds, hd with
  | [.dic o ks ws], hd =>
    simp only [dictD] at hd
    split at hd
    · rename_i z; cases hd
      obtain ⟨v, rfl, r1, p1⟩ := one_rep ps
      obtain ⟨x, u, kv, vs, rfl, h1, h2, h3, h4, h5⟩ := rep_dic k p1
      cases h2
      exact call_dictD pins s σ a.H _ us Q I r ⟨x, _, rfl, .inl h1, new_dic k h3 z h4 h5 q⟩
    · cases hd
  | [.tup l], hd =>
    simp only [dictD] at hd
    cases hp : pairsD l with
    | none => rw [hp] at hd; cases hd
    | some ds =>
      rw [hp] at hd; cases hd
      obtain ⟨v, rfl, r1, p1⟩ := one_rep ps
      have p1' := p1
      simp only [Rep] at p1'
      obtain ⟨x, vs, rfl, hx, hl⟩ := p1'
      obtain ⟨as, kvs, rfl, g1, g2⟩ := pairs_rep k hp hl
      rw [hC] at hx g1
      exact call_dictT hc pins s σ a.H _ us Q I r ⟨x, as, kvs, rfl, xt_mono k.sub hx, g1, new_dicG k (kvr_merge g2 .nil) q⟩
  | [.lst o l], hd =>
    simp only [dictD] at hd
    cases hp : pairsD l with
    | none => rw [hp] at hd; cases hd
    | some ds =>
      rw [hp] at hd; cases hd
      obtain ⟨v, rfl, r1, p1⟩ := one_rep ps
      obtain ⟨x, vs, rfl, hx, hl⟩ := rep_lst k p1
      obtain ⟨as, kvs, rfl, g1, g2⟩ := pairs_rep k hp hl
      rw [hC] at g1
      exact call_dictP hc pins s σ a.H _ us Q I r ⟨x, as, kvs, rfl, SqL.of hx, g1, new_dicG k (kvr_merge g2 .nil) q⟩
/- list(..), of a dict too -/
def listX : List D → Option D
  | [.dic _ ks _] => if fzL ks = true then some (.lst true ks) else none
  | ds => listD ds
theorem call_listX {X : Cx} {C : KM} (hC : C.K = X.K) (hc : X.calm = true) : CallR X (.type "list") (cD C listX) := by
  intro pins s σ H xs us Q I r h
  obtain ⟨a, ds, d, rfl, k, ps, hd, q⟩ := h
  match ds, hd, ps with
  | [.dic o ks ws], hd, ps =>
    simp only [listX] at hd
    split at hd
    · rename_i z; cases hd
      obtain ⟨v, rfl, r1, p1⟩ := one_rep ps
      obtain ⟨x, u, kv, vs, rfl, h1, h2, h3, h4, h5⟩ := rep_dic k p1
      cases h2
      exact call_list_dK hc pins s σ a.H _ us Q I r ⟨x, _, rfl, h1, new_lst k z h4 q⟩
    · cases hd
  | [.lst o l], hd, ps => exact call_listD hC pins s σ a.H xs us Q I r ⟨a, _, d, rfl, k, ps, hd, q⟩
  | [.tup l], hd, ps => exact call_listD hC pins s σ a.H xs us Q I r ⟨a, _, d, rfl, k, ps, hd, q⟩
  | [.scr l], hd, ps => exact call_listD hC pins s σ a.H xs us Q I r ⟨a, _, d, rfl, k, ps, hd, q⟩
end Mi
namespace Mi
open PySem PySem.Spec PyProof.Rows L2

/-! ### dict comprehensions -/
def loopDc (t : Tgt) (cond : EM Bool) (ek : EM Arg) (ev : EM D) (own : List Nat) : List D → List (Key × D) → EnvD → Res (List (Key × D) × EnvD)
  | [], acc, e => .ok (acc, e)
  | d :: ds, acc, e => match mTg t d (wipeE e own) with
    | none => .bad
    | some e1 => match cond e1 with
      | .ok (true, e2) => match ek e2 with
        | .ok (x, e3) => match ev e3 with
          | .ok (y, e4) => match (x.get e4).bind keyD with
            | some k => loopDc t cond ek ev own ds (putG acc k (frzQ y)) e4
            | none => .bad
          | _ => .bad
        | _ => .bad
      | .ok (false, e2) => loopDc t cond ek ev own ds acc e2
      | _ => .bad
def mDc (mi : EM (List D)) (t : Tgt) (cond : EM Bool) (ek : EM Arg) (ev : EM D) (own : List Nat) : EM D := fun env => (mi env).bind fun (ds, e) =>
  if fzL ds = true ∧ ds.length ≤ 1000 then (loopDc t cond ek ev own ds [] e).bind fun (l, e') => .ok (dicG l, restE e e' own) else .bad
structure GrowX (C : KM) (b c : Wd) (A : Addr) (acc : List (Key × D)) : Prop where
  st : Step b c
  ok : Ok c
  f : c.F A = none
  t : c.t A = none
  h : ∃ kvs, c.H A = some (.dK kvs) ∧ KVr C c kvs acc
theorem kvr_step {C : KM} {a b : Wd} (k : Ok a) (st : Step a b) : ∀ {kvs : List (Key × V)} {ds : List (Key × D)}, KVr C a kvs ds → KVr C b kvs ds
  | _, _, .nil => .nil
  | _, _, .cons h t => .cons ⟨h.1, h.2.1, 0, [], let ⟨s, q, r⟩ := h.2.2; r.step k st h.2.1⟩ (kvr_step k st t)
theorem GrowX.next {C : KM} {b c c' : Wd} {A : Addr} {acc : List (Key × D)} (g : GrowX C b c A acc) (st : Step c c') (ok : Ok c') : GrowX C b c' A acc := by
  obtain ⟨vs, h1, h2⟩ := g.h
  obtain ⟨k1, k2, k3⟩ := st A _ h1 g.t
  exact ⟨g.st.trans st, ok, k3.trans g.f, k2, ⟨vs, k1, kvr_step g.ok st h2⟩⟩
theorem kvr_put_A {C : KM} {c : Wd} {A : Addr} {o : HO} : ∀ {kvs : List (Key × V)} {ds : List (Key × D)}, KVr C c kvs ds → KVr C (putA c A o) kvs ds
  | _, _, .nil => .nil
  | _, y :: _, .cons h t => .cons ⟨h.1, h.2.1, 0, [], let ⟨s, q, r⟩ := h.2.2; Rep.fz (a := c) (b := putA c A o) (fun _ _ h => h) y.2 _ _ _ h.2.1 r⟩ (kvr_put_A t)
theorem GrowX.push {C : KM} {b c : Wd} {A : Addr} {acc : List (Key × D)} {kvs : List (Key × V)} {k : Key} {v : V} {y : D} {r : Nat} {p : List Nat} (g : GrowX C b c A acc) (hA : b.H A = none) (h : c.H A = some (.dK kvs)) (zy : fz y = true) (rp : Rep C c r p v y) :
    GrowX C b (putA c A (.dK (putK kvs k v))) A (putG acc k y) := by
  obtain ⟨us, h1, h2⟩ := g.h
  rw [h] at h1; cases h1
  refine ⟨fun x o e t => ?_, putA_ok g.ok g.f, g.f, g.t, ⟨_, upd_same, kvr_put_A (kvr_put h2 zy ⟨r, p, rp⟩)⟩⟩
  obtain ⟨g1, g2, g3⟩ := g.st x o e t
  have ne : x ≠ A := by rintro rfl; rw [hA] at e; cases e
  exact ⟨by show upd c.H A _ x = _; rw [upd_ne ne]; exact g1, g2, g3⟩
theorem putG_len (ds : List (Key × D)) (k : Key) (d : D) : (putG ds k d).length ≤ ds.length + 1 := by
  unfold putG
  split
  · rw [List.length_map]; omega
  · rw [List.length_append]; simp
section
variable {G : Gm} {W : WX} {σ : L2.St} {H : Hp} {Q : VK}
theorem dc_w {mi : EM (List D)} {t : Tgt} {cond : EM Bool} {ek : EM Arg} {ev : EM D} {own : List Nat} (hf : Tgt.off G.io t) (ho : ∀ i ∈ G.io, i ∉ own) (hown : Tgt.ins own t)
    (h : tE G W (mDc mi t cond ek ev own) σ H Q) : tDc (tI G W mi) (gT G.C.K t) (tT G W0 cond) (tArg G W0 ek) (tE G W0 ev) own σ H Q := by
  obtain ⟨a, env, rfl, rel, post⟩ := h
  refine ⟨a, env, rfl, rel, post.bind.imp fun ds e b st r p => ?_⟩
  dsimp only at p
  split at p
  · rename_i z
    refine ⟨z.1, fun J hJ A hA => ?_⟩
    have fA : b.F A = none := by
      cases q : b.F A with
      | none => rfl
      | some u => have := r.ok.sub A u q; rw [hA] at this; cases this
    have tA : b.t A = none := by
      cases q : b.t A with
      | none => rfl
      | some u => obtain ⟨_, u, h⟩ := r.ok.own A u q; rw [hA] at h; cases h
    let K : List (Key × D) × EnvD → Res (D × EnvD) := fun (l, e') => .ok (dicG l, restE e e' own)
    refine ⟨fun i m H => m = ds.length - i ∧ i ≤ ds.length ∧ ∃ c acc e1, c.H = H ∧ GrowX G.C b c A acc ∧ acc.length ≤ i ∧ e1.length = e.length ∧ RelE G c (wipe σ own) (wipeE e1 own) ∧
      PostR G W σ b ((loopDc t cond ek ev own (ds.drop i) acc e1).bind K) fun d _ b => ∀ v, Rep G.C b 0 [] v d → Q v b.H, ⟨_, rfl, Nat.zero_le _, putA b A (.dK []), [], e, rfl, ?_, Nat.zero_le _, rfl, ?_, p⟩, ?_⟩
    · refine ⟨fun x o h t => ?_, putA_ok r.ok fA, fA, tA, ⟨[], upd_same, .nil⟩⟩
      have ne : x ≠ A := by rintro rfl; rw [hA] at h; cases h
      exact ⟨by show upd b.H A _ x = _; rw [upd_ne ne]; exact h, t, rfl⟩
    · exact putA_rel (r.wiped ho) fA tA
    · rintro i m H ⟨rfl, hi, c, acc, e1, rfl, gl, hacc, hel, rc, pc⟩
      obtain ⟨hgo, hstop⟩ := hJ c gl.ok gl.st
      by_cases hlt : i < ds.length
      · obtain ⟨d, hd⟩ : ∃ d, ds[i]? = some d := ⟨_, List.getElem?_eq_getElem hlt⟩
        obtain ⟨h1, h2⟩ := hgo i d hd
        have hdrop : ds.drop i = d :: ds.drop (i + 1) := by
          rw [List.drop_eq_getElem_cons hlt]
          rw [List.getElem?_eq_getElem hlt] at hd
          cases hd; rfl
        rw [hdrop] at pc
        simp only [loopDc] at pc
        refine .inr ⟨h1, fun H' => ∃ c acc e1, c.H = H' ∧ GrowX G.C b c A acc ∧ acc.length ≤ i + 1 ∧ e1.length = e.length ∧ RelE G c (wipe σ own) (wipeE e1 own) ∧
          PostR G W σ b ((loopDc t cond ek ev own (ds.drop (i + 1)) acc e1).bind K) fun d _ b => ∀ v, Rep G.C b 0 [] v d → Q v b.H, fun H' q => ⟨ds.length - (i + 1), by omega, rfl, hlt, q⟩, fun x H' y => ?_⟩
        obtain ⟨c1, rfl, gr, ok1, rp⟩ := h2 x H' y
        cases ht : mTg t d (wipeE e1 own) with
        | none => rw [ht] at pc; exact (show False from pc).elim
        | some e2 =>
          rw [ht] at pc
          dsimp only at pc
          have gl1 := gl.next gr.step ok1
          refine gT_mono t (ins_w t hown _ x c1.H (fun σ2 H2 => H2 = c1.H ∧ RelE G c1 σ2 e2) (tg_w t hf (rc.grow gr ok1) (fzL_mem z.1 d (List.mem_of_getElem? hd)) rp ht fun σ2 r2 => ⟨rfl, r2⟩)) fun σ2 H2 ⟨hw, hH, r2⟩ => ?_
          subst hH
          rw [wipe_wipe] at hw
          refine ⟨hw, c1, e2, rfl, r2, ?_⟩
          have hlen : ∀ {c : Wd} {e' : EnvD}, RelE G c σ2 e' → e'.length = e.length := fun {c e'} r' => by
            have := congrArg List.length hw
            rw [wipe_length, wipe_length] at this
            rw [r'.len, this, r.len]
          cases hc : cond e2 with
          | bad => rw [hc] at pc; exact (show False from pc).elim
          | exc x e3 => rw [hc] at pc; exact (show False from pc).elim
          | ok be =>
            obtain ⟨bb, e3⟩ := be
            rw [hc] at pc
            intro c2 st2 r3
            cases bb with
            | false =>
              rw [if_neg Bool.false_ne_true]
              exact ⟨c2, acc, e3, rfl, gl1.next st2 r3.ok, Nat.le_succ_of_le hacc, hlen r3, r3.rewiped hw ho, pc⟩
            | true =>
              rw [if_pos rfl]
              refine ⟨c2, e3, rfl, r3, ?_⟩
              dsimp only at pc
              cases hk : ek e3 with
              | bad => rw [hk] at pc; exact (show False from pc).elim
              | exc x e4 => rw [hk] at pc; exact (show False from pc).elim
              | ok xe =>
                obtain ⟨xa, e4⟩ := xe
                rw [hk] at pc
                intro c3 st3 r4 vk ark
                refine ⟨c3, e4, rfl, r4, ?_⟩
                dsimp only at pc
                cases he : ev e4 with
                | bad => rw [he] at pc; exact (show False from pc).elim
                | exc x e5 => rw [he] at pc; exact (show False from pc).elim
                | ok ye =>
                  obtain ⟨y, e5⟩ := ye
                  rw [he] at pc
                  intro c4 st4 r5 v rv
                  dsimp only at pc
                  have ark := ark.step r4.ok st4
                  cases hx : xa.get e5 with
                  | none => simp only [hx, Option.bind_none] at pc; exact (show False from pc).elim
                  | some dk =>
                    cases hkk : keyD dk with
                    | none => simp only [hx, Option.bind_some, hkk] at pc; exact (show False from pc).elim
                    | some key =>
                      simp only [hx, Option.bind_some, hkk] at pc
                      obtain ⟨rk, pk⟩ := ark.rep r5 hx
                      have ev2 := keyD_rep hkk pk
                      have gl4 := ((gl1.next st2 r3.ok).next st3 r4.ok).next st4 r5.ok
                      obtain ⟨kvs, k1, k2⟩ := gl4.h
                      obtain ⟨zy, rq⟩ := frzQ_rep (s := 0) (q := []) r5.ok rv
                      have gl5 := (gl4.next (frzW_step (r := 0)) (frzW_ok r5.ok)).push (k := key) hA k1 zy rq
                      refine ⟨kvs, key, ev2, k1, ?_, putA (frzW c4 0) A (.dK (putK kvs key v)), putG acc key (frzQ y), e5, rfl, gl5, ?_, hlen r5, ?_, pc⟩
                      · rw [kvr_len k2]; exact small1000 (by omega)
                      · exact Nat.le_trans (putG_len _ _ _) (by omega)
                      · exact putA_rel ((r5.rewiped hw ho).frz0) (gl4.next (frzW_step (r := 0)) (frzW_ok r5.ok)).f (gl4.next (frzW_step (r := 0)) (frzW_ok r5.ok)).t
      · have e2 : i = ds.length := by omega
        subst e2
        rw [List.drop_length] at pc
        refine .inl ⟨hstop, ?_⟩
        obtain ⟨kvs, k1, k2⟩ := gl.h
        have pc : ∀ b', Step b b' → RelE G b' σ (restE e e1 own) → ∀ v, Rep G.C b' 0 [] v (dicG acc) → Q v b'.H := pc
        have rel' := r.unwiped rc gl.st hel
        refine pc (tagA c A) (fun x o h t => ?_) ?_ (.ref A) ?_
        · obtain ⟨g1, g2, g3⟩ := gl.st x o h t
          have ne : x ≠ A := by rintro rfl; rw [hA] at h; cases h
          exact ⟨g1, by show (if x = A then some (0, []) else c.t x) = none; rw [if_neg ne]; exact g2, g3⟩
        · exact ⟨tagA_ok gl.ok gl.f k1, rel'.len, fun i d h => let ⟨v, e, q⟩ := rel'.slot i d h; ⟨v, e, tagA_to gl.t q⟩, rel'.prm⟩
        · simp only [dicG, Rep]
          refine ⟨A, .dK kvs, _, _, rfl, ?_, .dk kvs, fz_keys acc, ?_, ?_⟩
          · rw [if_pos trivial]
            exact ⟨by show (if A = A then some (0, []) else c.t A) = _; rw [if_pos rfl], k1⟩
          · exact RepL.fz (a := c) (b := tagA c A) (fun _ _ h => h) _ _ [] 0 _ (fz_keys acc) (kvr_keys (n := 0) k2)
          · exact RepL.fz (a := c) (b := tagA c A) (fun _ _ h => h) _ _ [] 0 _ (kvr_fz k2) (kvr_vals (n := 0) k2)
  · exact (show False from p).elim
theorem r_dc {X : Cx} {lv : Nat} {e tg kx vx : Expr} {mi : EM (List D)} {mt : EM Bool} {ek : EM Arg} {m : EM D} {ifs : List Expr} {scope : Scope} {pos : Pos} (s : Go X G W lv) (own : List (Str × Nat)) (t : Tgt) (hio : Tgt.off G.io t) (hio2 : ∀ i ∈ G.io, i ∉ own.map (·.2)) (hown : Tgt.ins (own.map (·.2)) t) (hi : PI X tg e (tI G W mi)) (ok : BlkOk X.N X.env.scope scope own)
    (hg : ∀ (s : Shared) (H : Hp) (C : Addr) (cl : List (Str × Addr)) (fp : List Addr), PG (X.blk s H scope (compEnvC scope cl C X.env) fp) tg (gT G.C.K t))
    (ht : ∀ (s : Shared) (H : Hp) (C : Addr) (cl : List (Str × Addr)) (fp : List Addr), Go (X.blk s H scope (compEnvC scope cl C X.env) fp) G W0 lv → PTs (X.blk s H scope (compEnvC scope cl C X.env) fp) ifs (tT G W0 mt))
    (hk : ∀ (s : Shared) (H : Hp) (C : Addr) (cl : List (Str × Addr)) (fp : List Addr), Go (X.blk s H scope (compEnvC scope cl C X.env) fp) G W0 lv → PE (X.blk s H scope (compEnvC scope cl C X.env) fp) kx (tArg G W0 ek))
    (he : ∀ (s : Shared) (H : Hp) (C : Addr) (cl : List (Str × Addr)) (fp : List Addr), Go (X.blk s H scope (compEnvC scope cl C X.env) fp) G W0 lv → PE (X.blk s H scope (compEnvC scope cl C X.env) fp) vx (tE G W0 m)) (hs : ∀ x, foldedSetIterable e X.env x = pure x := by intro _; rfl) :
    PE X (.DictComp kx vx [⟨tg, e, ifs, 0⟩] scope pos) (tE G W (mDc mi t mt ek m (own.map (·.2)))) :=
  (pe_dc s.cm s.n hi ok hg (fun s0 H C cl fp => ht s0 H C cl fp (s.blk ..)) (fun s0 H C cl fp => hk s0 H C cl fp (s.blk ..)) (fun s0 H C cl fp => he s0 H C cl fp (s.blk ..)) hs).weak fun _ _ _ q => dc_w hio hio2 hown q
end
end Mi
namespace Mi
open PySem PySem.Spec PyProof.Rows L2

/-! ### fields of instances -/
structure FldOk (C : KM) (c f : Str) : Prop where
  ex : ∃ u, C.mg c = some (.ref u) ∧ Cls C.K u ∧ NoAttr C.K u f
def fldD : List Str → List D → Str → Option D
  | g :: ns, w :: ws, f => if f = g then some w else fldD ns ws f
  | _, _, _ => none
def fldG (cs : List Str) (f : Str) : D → Option D
  | .ins _ c ns ws => if c ∈ cs then pick (fldD ns ws f) else none
  | _ => none
theorem fld_rep {C : KM} {a : Wd} {r : Nat} {p : List Nat} {f : Str} : ∀ {ns : List Str} {ws : List D} {vs : List V} {n : Nat} {d : D}, fldD ns ws f = some d → RepL C a r p n vs ws → ∃ v j, (ns.zip vs).lookup f = some v ∧ Rep C a r (j :: p) v d
  | [], ws, vs, n, d, e, h => by simp [fldD] at e
  | g :: ns, [], vs, n, d, e, h => by simp [fldD] at e
  | g :: ns, w :: ws, vs, n, d, e, ⟨v, us, e1, h1, h2⟩ => by
    subst e1
    simp only [fldD] at e
    by_cases q : f = g
    · rw [if_pos q] at e; cases e
      subst q
      exact ⟨v, n, by simp [List.lookup], h1⟩
    · rw [if_neg q] at e
      obtain ⟨v', j, g1, g2⟩ := fld_rep e h2
      have qb : (f == g) = false := by simpa using q
      exact ⟨v', j, by simp only [List.zip_cons_cons, List.lookup, qb]; exact g1, g2⟩
theorem rep_ins {C : KM} {a : Wd} {r : Nat} {p : List Nat} {v : V} {o : Bool} {c : Str} {ns : List Str} {ws : List D} (k : Ok a) (h : Rep C a r p v (.ins o c ns ws)) :
    ∃ x u dx vs, v = .ref x ∧ C.mg c = some (.ref u) ∧ vs.length = ns.length ∧ a.H x = some (.ins u dx (ns.zip vs)) ∧ RepL C a r p 0 vs ws := by
  simp only [Rep] at h
  obtain ⟨x, u, dx, vs, e, hm, hl, c, h⟩ := h
  refine ⟨x, u, dx, vs, e, hm, hl, ?_, h⟩
  cases o with
  | true => rw [if_pos rfl] at c; exact c.2
  | false => rw [if_neg Bool.false_ne_true] at c; exact k.sub _ _ c.1
section
variable {X : Cx} {G : Gm} {W : WX} {lv : Nat} {e : Expr} {ma : EM Arg} {m : EM D} {pos p pos' : Pos} {x f : Str}
theorem r_fld (s : St0 X G) (cs : List Str) (hc : ∀ c ∈ cs, FldOk G.C c f) (ha : PE X e (tArg G W ma)) (hb : attributeBase e f X.env (eval e X.env) = eval e X.env := by rfl) : PE X (.Attribute e f pos) (tE G W (mUn (fldG cs f) ma)) :=
  (pe_fld ha hb).weak fun σ H Q q => by
    obtain ⟨a, env, rfl, rel, post⟩ := q
    refine tArg_of rel post fun x e1 b v s1 rel1 ar1 post1 => ?_
    cases hx : x.get e1 with
    | none => simp only [hx] at post1; exact (show False from post1).elim
    | some d1 =>
      simp only [hx] at post1
      obtain ⟨d, hd, k⟩ := post1.lift rel1
      obtain ⟨r1, p1⟩ := ar1.rep rel1 hx
      cases d1 <;> simp only [fldG] at hd <;> (try (cases hd; done))
      case ins o c ns ws =>
        split at hd
        · rename_i hin
          obtain ⟨h1, h2⟩ := pick_eq hd
          obtain ⟨y, u, dx, vs, rfl, hm, hl, hH, hr⟩ := rep_ins rel1.ok p1
          obtain ⟨v, j, g1, g2⟩ := fld_rep h1 hr
          obtain ⟨u', hm', cl, na⟩ := (hc c hin).ex
          rw [hm] at hm'; cases hm'
          rw [← s.k] at cl na
          exact ⟨y, u, dx, _, v, rfl, hH, cl, na, g1, k b (Grow.refl b) rel1.ok v (g2.step rel1.ok (Step.refl b) h2)⟩
        · cases hd
end
/-! ### self.f = e -/
def putW (f : Str) (y : D) : List Str → List D → List Str × List D
  | g :: ns, x :: ws => if g = f then (g :: ns, y :: ws) else (g :: (putW f y ns ws).1, x :: (putW f y ns ws).2)
  | _, _ => ([f], [y])
theorem put_rep {C : KM} {a : Wd} {f : Str} {y : D} {v : V} (zy : fz y = true) (hy : ∃ s q, Rep C a s q v y) : ∀ {ns : List Str} {ws : List D} {vs : List V} {r n : Nat} {p : List Nat}, fzL ws = true → vs.length = ns.length → RepL C a r p n vs ws →
    ∃ vs', putF f v (ns.zip vs) = (putW f y ns ws).1.zip vs' ∧ vs'.length = (putW f y ns ws).1.length ∧ fzL (putW f y ns ws).2 = true ∧ RepL C a 0 [] n vs' (putW f y ns ws).2
  | [], ws, vs, r, n, p, z, hl, h => by
    have e : vs = [] := List.length_eq_zero_iff.mp hl
    subst e
    obtain ⟨s, q, hy⟩ := hy
    cases ws with
    | nil => exact ⟨[v], rfl, rfl, by simp [putW, fzL, zy], v, [], rfl, Rep.fz (a := a) (b := a) (fun _ _ h => h) y _ _ v zy hy, by simp [RepL]⟩
    | cons w ws => obtain ⟨_, _, e, _⟩ := h; cases e
  | g :: ns, [], vs, r, n, p, z, hl, h => by
    simp only [RepL] at h
    subst h
    simp at hl
  | g :: ns, w :: ws, vs, r, n, p, z, hl, ⟨u, us, e1, h1, h2⟩ => by
    subst e1
    simp only [fzL, Bool.and_eq_true] at z
    simp only [List.length_cons, Nat.add_right_cancel_iff] at hl
    by_cases q : g = f
    · subst q
      obtain ⟨s, q, hy⟩ := hy
      refine ⟨v :: us, by simp [putF, putW], by simp [putW, hl], by simp [putW, fzL, zy, z.2], ?_⟩
      simp only [putW, if_true]
      exact ⟨v, us, rfl, Rep.fz (a := a) (b := a) (fun _ _ h => h) y _ _ v zy hy, RepL.fz (a := a) (b := a) (fun _ _ h => h) ws _ _ _ us z.2 h2⟩
    · obtain ⟨vs', g1, g2, g3, g4⟩ := put_rep (f := f) zy hy (n := n + 1) z.2 hl h2
      refine ⟨u :: vs', ?_, ?_, ?_, ?_⟩
      · simp only [List.zip_cons_cons, putF, putW, if_neg q, g1]
      · simp [putW, if_neg q, g2]
      · simp [putW, if_neg q, fzL, z.1, g3]
      · simp only [putW, if_neg q]
        exact ⟨u, vs', rfl, Rep.fz (a := a) (b := a) (fun _ _ h => h) w _ _ u z.1 h1, g4⟩
def fsetG (cs : List Str) (f : Str) (d y : D) : Option D := match d with
  | .ins true c ns ws => if c ∈ cs ∧ fzL ws = true ∧ ns.length < 900 then some (.ins true c (putW f y ns ws).1 (putW f y ns ws).2) else none
  | _ => none
def mFSet (j : Nat) (cs : List Str) (f : Str) (mv : EM D) : EM FlowD := fun env => (mv env).bind fun (y, e) => match e[j]? with
  | some (some d) => match fsetG cs f d (frzQ y) with
    | some d' => .ok (.next, e.set j (some d'))
    | none => .bad
  | _ => .bad
theorem RelE.rewrI {G : Gm} {a : Wd} {σ : L2.St} {env : EnvD} {j : Nat} {c : Str} {ns : List Str} {ws : List D} (r : RelE G a σ env) (h : env[j]? = some (some (.ins true c ns ws))) :
    ∃ x u dx vs, σ[j]? = some (some (.ref x)) ∧ G.C.mg c = some (.ref u) ∧ vs.length = ns.length ∧ a.H x = some (.ins u dx (ns.zip vs)) ∧ RepL G.C a (j + 1) [] 0 vs ws ∧
      ∀ (ns' : List Str) (ws' : List D) (vs' : List V) (s n : Nat) (q : List Nat), vs'.length = ns'.length → fzL ws' = true → RepL G.C a s q n vs' ws' →
        Step a ⟨a.F, upd a.H x (.ins u dx (ns'.zip vs')), a.t⟩ ∧ RelE G ⟨a.F, upd a.H x (.ins u dx (ns'.zip vs')), a.t⟩ σ (env.set j (some (.ins true c ns' ws'))) := by
  obtain ⟨w, h1, h2⟩ := r.slot j _ h
  simp only [Rep] at h2
  obtain ⟨x, u, dx, vs, rfl, hm, hl, hx, hr⟩ := h2
  rw [if_pos trivial] at hx
  obtain ⟨tx, hx⟩ := hx
  refine ⟨x, u, dx, vs, h1, hm, hl, hx, hr, fun ns' ws' vs' s n q hl' z hr' => ?_⟩
  have ne : ∀ {y : Addr} {t : Option Tag}, a.t y = t → t ≠ some (j + 1, []) → y ≠ x := fun e ht => by rintro rfl; rw [tx] at e; exact ht e.symm
  have fx : a.F x = none := (r.ok.own x _ tx).1
  have up : ∀ {y : Addr}, y ≠ x → upd a.H x (.ins u dx (ns'.zip vs')) y = a.H y := fun e => upd_ne e
  have ok' : Ok ⟨a.F, upd a.H x (.ins u dx (ns'.zip vs')), a.t⟩ := by
    refine ⟨fun y o e => ?_, fun y t e => ?_⟩
    · have : y ≠ x := by rintro rfl; have e : a.F y = some o := e; rw [fx] at e; cases e
      show upd a.H x _ y = _
      rw [up this]; exact r.ok.sub y o e
    · obtain ⟨g1, o, g2⟩ := r.ok.own y t e
      by_cases q : y = x
      · subst q; exact ⟨g1, _, upd_same⟩
      · exact ⟨g1, o, by show upd a.H x _ y = _; rw [up q]; exact g2⟩
  have mv : ∀ {d : D} {r p} {v1 : V}, (∀ z, (r, z ++ p) ≠ (j + 1, ([] : List Nat))) → Rep G.C a r p v1 d → Rep G.C ⟨a.F, upd a.H x (.ins u dx (ns'.zip vs')), a.t⟩ r p v1 d := fun {d r p v1} hne h => by
    have := Rep.to (C := G.C) (a := a) (b := ⟨a.F, upd a.H x (.ins u dx (ns'.zip vs')), a.t⟩) (r := r) (s := r) (p := p) (q := p) (fun _ _ h => h) (fun y z o h e => ⟨h, by
      show upd a.H x _ y = _
      rw [up (ne h (by intro q; exact hne z (Option.some.inj q)))]; exact e⟩) d [] v1
    exact this h
  refine ⟨fun y o e t => ⟨by show upd a.H x _ y = _; rw [up (ne t (by simp))]; exact e, t, rfl⟩, ⟨ok', by rw [List.length_set]; exact r.len, fun i d e => ?_, r.prm⟩⟩
  by_cases ij : j = i
  · subst ij
    have hj : j < env.length := (List.getElem?_eq_some_iff.mp h).1
    rw [List.getElem?_set_self hj] at e
    cases e
    refine ⟨.ref x, h1, ?_⟩
    simp only [Rep]
    refine ⟨x, u, dx, vs', rfl, hm, hl', ?_, ?_⟩
    · rw [if_pos trivial]; exact ⟨tx, upd_same⟩
    · exact RepL.fz (a := a) (b := ⟨a.F, upd a.H x (.ins u dx (ns'.zip vs')), a.t⟩) (fun _ _ h => h) ws' q [] n vs' z hr'
  · rw [List.getElem?_set_ne ij] at e
    obtain ⟨w, e1, e2⟩ := r.slot i d e
    exact ⟨w, e1, mv (by intro z q; exact ij (Nat.succ.inj (congrArg Prod.fst q)).symm) e2⟩
section
variable {X : Cx} {G : Gm} {W : WX} {e : Expr} {m : EM D} {pos p pos' : Pos} {x f : Str}
theorem rs_fld (s : St0 X G) (j : Nat) (cs : List Str) (hc : ∀ c ∈ cs, FldOk G.C c f) (hN : X.N[j]? = some x) (hv : Vis X.env.scope x) (he : PE X e (tE G W m)) (hs : swapsWith e (some (.Attribute (.Name x p) f pos')) pos.line X.env = pure false := by rfl)
    (hd : (x == ("__debug__" : Str)) = false := by decide) (hcd : (x == ("__classdict__" : Str)) = false := by decide) : PS X (.Assign [.Attribute (.Name x p) f pos'] e pos) (tS G W (mFSet j cs f m)) :=
  (ps_fld (pe_var hN hv hd hcd) he hs).weak fun D σ H q => by
    obtain ⟨a, env, rfl, rel, post⟩ := q
    refine tE_ofS rel post fun y e1 b v st r1 rv p1 => ?_
    dsimp only at p1
    split at p1
    · rename_i d hj
      obtain ⟨zy, ry⟩ := frzQ_rep (s := 0) (q := []) r1.ok rv
      cases hf : fsetG cs f d (frzQ y) with
      | none => rw [hf] at p1; exact (show False from p1).elim
      | some d' =>
        rw [hf] at p1
        dsimp only at p1
        unfold fsetG at hf
        split at hf
        · rename_i c ns ws
          split at hf
          · rename_i z; cases hf
            obtain ⟨xx, u, dx, vs, h1, hm, hl, hH, hr, k⟩ := r1.frz0.rewrI hj
            obtain ⟨u', hm', cl, na⟩ := (hc c z.1).ex
            rw [hm] at hm'; cases hm'
            rw [← s.k] at cl na
            obtain ⟨vs', g1, g2, g3, g4⟩ := put_rep (f := f) zy ⟨0, [], ry⟩ (n := 0) z.2.1 hl hr
            obtain ⟨k1, k2⟩ := k _ _ vs' 0 0 [] g2 g3 g4
            refine ⟨.ref xx, h1, xx, u, dx, _, rfl, hH, cl, na, ?_, ?_⟩
            · rw [List.length_zip]; omega
            · rw [g1]
              exact p1 _ σ (frzW_step.trans k1) k2
          · cases hf
        · cases hf
    · exact (show False from p1).elim
end
end Mi
namespace Mi
open PySem PySem.Spec PyProof.Rows L2

/-! ### a new instance: C(..), __init__ is a def g of the instance and the arguments -/
def makeR (c : Str) (g : List D → Res (D × EnvD)) (xs : List Arg) (e : EnvD) : Res (D × EnvD) := match mCallR g (.var e.length :: xs) (e ++ [some (.ins true c [] [])]) with
  | .ok (.non, e') => match e'[e.length]? with
    | some (some d) => .ok (d, e'.take e.length)
    | _ => .bad
  | .exc x e' => .exc x (e'.take e.length)
  | _ => .bad
def mMake (c : Str) (g : List D → Res (D × EnvD)) (ma : EM (List Arg)) : EM D := fun env => (ma env).bind fun (xs, e) => makeR c g xs e
/- the world with the new instance in a slot behind the frame's -/
def insW (b : Wd) (x dx u : Addr) (j : Nat) : Wd := ⟨b.F, upd (upd b.H dx (.own x)) x (.ins u dx []), fun y => if y = x then some (j + 1, []) else b.t y⟩
theorem RelE.cut {G : Gm} {a : Wd} {σ : L2.St} {w : Option V} {e : EnvD} (r : RelE G a (σ ++ [w]) e) (hp : ∀ i ∈ G.io, ∀ v, G.vs0[i]? = some v → σ[i]? = some (some v)) : RelE G a σ (e.take σ.length) := by
  have hl : e.length = σ.length + 1 := by rw [r.len]; simp
  refine ⟨r.ok, by rw [List.length_take]; omega, fun i d h => ?_, hp⟩
  have hi : i < σ.length := by
    have := (List.getElem?_eq_some_iff.mp h).1
    rw [List.length_take] at this; omega
  rw [List.getElem?_take_of_lt hi] at h
  obtain ⟨v, e1, q⟩ := r.slot i d h
  rw [List.getElem?_append_left hi] at e1
  exact ⟨v, e1, q⟩
theorem make_sp {G : Gm} {W : WX} {σ : L2.St} {b : Wd} {e : EnvD} {xs : List Arg} {vs : List V} {c : Str} {g : List D → Res (D × EnvD)} {Q : VK} {u x dx : Addr} (rel : RelE G b σ e) (hm : G.C.mg c = some (.ref u)) (ps : Paired (ArgRep G.C b σ) xs vs) (hx : b.H x = none) (hdx : b.H dx = none) (hne : dx ≠ x)
    (post : PostR G W σ b (makeR c g xs e) fun d _ b => ∀ v, Rep G.C b 0 [] v d → Q v b.H) :
    spD G.C g (.ref x :: vs) (upd (upd b.H dx (.own x)) x (.ins u dx [])) (fun v H2 => v = .non ∧ Q (.ref x) H2) (fun cls dd H' => W cls dd σ H') := by
  have fx : b.F x = none := by
    cases q : b.F x with
    | none => rfl
    | some o => have := rel.ok.sub x o q; rw [hx] at this; cases this
  have tx : b.t x = none := by
    cases q : b.t x with
    | none => rfl
    | some o => obtain ⟨_, o, h⟩ := rel.ok.own x o q; rw [hx] at h; cases h
  have kp : ∀ y o, b.H y = some o → (insW b x dx u e.length).H y = some o ∧ (insW b x dx u e.length).t y = b.t y := fun y o h => by
    have n1 : y ≠ x := by rintro rfl; rw [hx] at h; cases h
    have n2 : y ≠ dx := by rintro rfl; rw [hdx] at h; cases h
    exact ⟨by show upd (upd b.H dx _) x _ y = _; rw [upd_ne n1, upd_ne n2]; exact h, if_neg n1⟩
  have gr : Grow b (insW b x dx u e.length) := ⟨fun y o h => ⟨(kp y o h).1, (kp y o h).2, rfl⟩⟩
  have ok1 : Ok (insW b x dx u e.length) := by
    refine ⟨fun y o h => (kp y o (rel.ok.sub y o h)).1, fun y t h => ?_⟩
    have h : (if y = x then some (e.length + 1, []) else b.t y) = some t := h
    by_cases q : y = x
    · subst q; exact ⟨fx, _, upd_same⟩
    · rw [if_neg q] at h
      obtain ⟨h1, o, h2⟩ := rel.ok.own y t h
      exact ⟨h1, o, (kp y o h2).1⟩
  have rel1 := rel.grow gr ok1
  have hle : e.length = σ.length := rel.len
  have rel2 : RelE G (insW b x dx u e.length) (σ ++ [some (.ref x)]) (e ++ [some (.ins true c [] [])]) := by
    refine ⟨ok1, by simp [rel.len], fun i d h => ?_, fun i hi v hv => ?_⟩
    · by_cases q : i < e.length
      · rw [List.getElem?_append_left q] at h
        obtain ⟨v, e1, r⟩ := rel1.slot i d h
        exact ⟨v, by rw [List.getElem?_append_left (by omega)]; exact e1, r⟩
      · have e1 : i = e.length := by
          have := (List.getElem?_eq_some_iff.mp h).1
          simp at this; omega
        subst e1
        rw [List.getElem?_append_right (Nat.le_refl _)] at h
        simp at h
        subst h
        refine ⟨.ref x, by rw [List.getElem?_append_right (by omega)]; simp [hle], ?_⟩
        simp only [Rep]
        refine ⟨x, u, dx, [], rfl, hm, rfl, ?_, by simp [RepL]⟩
        rw [if_pos trivial]
        exact ⟨if_pos rfl, upd_same⟩
    · have := rel.prm i hi v hv
      have hl := (List.getElem?_eq_some_iff.mp this).1
      rw [List.getElem?_append_left hl]; exact this
  have ps2 : Paired (ArgRep G.C (insW b x dx u e.length) (σ ++ [some (.ref x)])) (.var e.length :: xs) (.ref x :: vs) := by
    refine .cons (show (σ ++ [some (V.ref x)])[e.length]? = some (some (.ref x)) by rw [List.getElem?_append_right (by omega)]; simp [hle]) ?_
    clear post
    induction ps with
    | nil => exact .nil
    | @cons y w ys ws h t ih =>
      refine .cons ?_ ih
      cases y with
      | val d => exact ⟨h.1, h.2.step rel.ok gr.step h.1⟩
      | var i =>
        have h : σ[i]? = some (some w) := h
        have hl := (List.getElem?_eq_some_iff.mp h).1
        show (σ ++ [some (V.ref x)])[i]? = _
        rw [List.getElem?_append_left hl]; exact h
  have key := call_sp (W := fun cls dd _ H' => W cls dd σ H') (Q := fun v H2 => v = .non ∧ Q (.ref x) H2) (g := g) rel2 ps2 ?_
  · exact key
  · unfold makeR at post
    cases hr : mCallR g (.var e.length :: xs) (e ++ [some (.ins true c [] [])]) with
    | bad => rw [hr] at post; exact (show False from post).elim
    | exc y e' =>
      rw [hr] at post
      intro b' cls dd st r er
      have := (r.cut rel.prm)
      rw [← hle] at this
      exact post b' cls dd (gr.step.trans st) this er
    | ok de =>
      obtain ⟨d0, e'⟩ := de
      rw [hr] at post
      cases d0 <;> dsimp only at post <;> first | exact (show False from post).elim | skip
      split at post
      · rename_i d hd
        intro b' st r v rv
        cases rep_non rv
        obtain ⟨w, e1, rw1⟩ := r.slot _ d hd
        rw [List.getElem?_append_right (by omega)] at e1
        simp [hle] at e1
        subst e1
        refine ⟨rfl, ?_⟩
        have r2 := r.cut rel.prm
        rw [← hle] at r2
        refine post (mvW b' (e.length + 1) 0) (gr.step.trans (st.trans mvW_step)) ?_ (.ref x) (mvW_rep rw1)
        refine ⟨mvW_ok r2.ok, r2.len, fun i d h => ?_, r2.prm⟩
        obtain ⟨v, h1, h2⟩ := r2.slot i d h
        have hi : i < e.length := by
          have := (List.getElem?_eq_some_iff.mp h).1
          rw [List.length_take] at this; omega
        exact ⟨v, h1, mvW_else (by omega) h2⟩
      · exact (show False from post).elim
/- a class that may be made -/
structure MkOk (C : KM) (k : Nat) (c : Str) (g : List D → Res (D × EnvD)) : Prop where
  ex : ∃ (u f : Addr) (fd : FuncData) (ps : List Str), C.mg c = some (.ref u) ∧ Mk C.K u f ∧ Binds C.K fd ps [] ∧ ∀ base : Heap, C.K.In base → base.Ns mainGlobals C.mg → FnOk C.P C.w C.K C.mg base (L2.CX C.P C.w) k f fd ps (spD C g)
section
variable {X : Cx} {G : Gm} {W : WX} {lv j : Nat} {e : Expr} {es : List Expr} {mas : EM (List Arg)} {pos p : Pos} {x : Str} {g : List D → Res (D × EnvD)}
theorem run_makeS {CX : CXT} {k : Nat} {f C : Addr} {fd : FuncData} {ps : List Str} {sp : Sp} {E : L2.St → XK} {pins : List (Addr × Obj)} {σ : L2.St} {H : Hp} {s : Shared} {Q : VK} {us : List Value} {vs : List V} (M : Mk X.K C f) (F : FnOk X.prog X.w X.K X.mg X.base CX k f fd ps sp) (hr : Room (k + 1) X.A) (hb : Binds X.K fd ps [])
    (hx : PassesAt CX X σ (E σ)) (I : Inv X pins σ H s) (r : Vals vs us)
    (h : ∀ x dx, H x = none → H dx = none → dx ≠ x → sp (.ref x :: vs) (upd (upd H dx (.own x)) x (.ins C dx [])) (fun v H2 => v = .non ∧ Q (.ref x) H2) (E σ)) :
    wpAny (model X.prog X.w) X.A (call (.ref C) us) (EP X pins σ Q) X.xe s := by
  have hq := h (s.heap.objs.size + 1) s.heap.objs.size (I.hok.fresh (Nat.le_succ _)) (I.hok.fresh (Nat.le_refl _)) (Nat.ne_of_lt (Nat.lt_succ_self _))
  have I2 := Inv.made (C := C) I
  have r2 : Vals (V.ref (s.heap.objs.size + 1) :: vs) (Value.ref (s.heap.objs.size + 1) :: us) := .cons rfl r
  have hl : (Value.ref (s.heap.objs.size + 1) :: us).length = ps.length := by rw [← r2.length]; exact F.len _ _ _ _ hq
  have b2 := hb _ (Value.ref (s.heap.objs.size + 1) :: us) I2.kIn (by rw [List.append_nil]; exact hl)
  rw [List.append_nil] at b2
  refine wpAny_call (make_map (f := f) I.kIn M.makes M.init (beq_iff_eq.mp M.fn) (codeAny_mono (F.run _ X.stack _ _ ⟨Value.ref (s.heap.objs.size + 1) :: us, []⟩ (Value.ref (s.heap.objs.size + 1) :: us) _ _ (E σ) (hr.make C us []) (I2.env0.make C us []) b2 r2 hq) fun r s' hq' => ?_))
  cases r with
  | error e => exact hx pins _ _ e s' I2 hq'
  | ok fl =>
    cases fl with
    | ret u =>
      obtain ⟨v, H', I3, rv, ev, q3⟩ := I2.after hq'
      subst ev
      exact ⟨rv, ⟨V.ref (s.heap.objs.size + 1), H', I3, rfl, q3⟩⟩
    | next => exact False.elim hq'
    | brk => exact False.elim hq'
    | cont => exact False.elim hq'
theorem r_make (s : Go X G W lv) (F : MkOk G.C j x g) (hj : j + 1 ≤ lv) (hg : Gl X x) (ha : PA X (e :: es) (tArgs G W mas)) (hdb : (x == ("__debug__" : Str)) = false := by decide) (he : starEach (e :: es) X.env = (false, eval e X.env) :: starEach es X.env := by rfl)
    (hpl : (backTo pos (starEach es X.env)).any (·.1) = false := by rfl) : PE X (.Call (.Name x p) (e :: es) [] pos) (tE G W (mMake x g mas)) := by
  obtain ⟨u, f, fd, ps, h1, h2, h3, h4⟩ := F.ex
  refine ⟨fun pins s0 σ H Q I h => ?_⟩
  have hk : G.C.K.In X.base := by rw [← s.k]; exact I.ok.mod.kin
  have hb : X.base.Ns mainGlobals G.C.mg := by rw [← s.m]; exact I.ok.mod.glob
  have F' := h4 X.base hk hb
  have e1 := s.p; have e2 := s.w; have e3 := s.k; have e4 := s.m
  rw [← e1, ← e2, ← e3, ← e4] at F'
  have M' : Mk X.K u f := by rw [e3]; exact h2
  have B' : Binds X.K fd ps [] := by rw [e3]; exact h3
  refine wpAny_Call_Name_kw (ld_glob I hg (by rw [e4]; exact h1) ?_ hdb)
  obtain ⟨a, env, rfl, rel, post⟩ := h
  have hA : tArgs G W mas σ a.H (fun vs H1 => ∀ y dy, H1 y = none → H1 dy = none → dy ≠ y → spD G.C g (.ref y :: vs) (upd (upd H1 dy (.own y)) y (.ins u dy [])) (fun v H2 => v = .non ∧ Q (.ref y) H2) (fun cls dd H' => W cls dd σ H')) :=
    tArgs_of rel post fun xs e1 b vs s1 r ps p y dy hy hdy hne => make_sp r h1 ps hy hdy hne p
  refine PySem.W.callWith_K (h₀ := X.base) I.ok.mod.kin M'.kp (thn (ha.run pos pins s0 σ _ _ I hA) fun us s1 ⟨vs, H1, I1, r, q⟩ => ⟨I1.kIn, ?_⟩) he hpl
  exact run_makeS (E := WE W) M' F' (s.rm.mono hj) B' (passAt s.tk σ) I1 r q
end
end Mi
namespace Mi
open PySem PySem.Spec PyProof.Rows L2

/-! ### what is never reached -/
def mBad : EM FlowD := fun _ => .bad
theorem rs_bad {X : Cx} {G : Gm} {W : WX} {st : Stmt} : PS X st (tS G W mBad) := ⟨fun _ _ _ _ _ _ h => by
  obtain ⟨_, _, _, _, p⟩ := h
  exact (show False from p).elim⟩
/-! ### max, min of a list -/
def maxX : List D → Option D
  | [.lst _ l] => match intsOf l with
    | some (n :: ns) => some (.int (ns.foldl (fun a b => if b > a then b else a) n))
    | _ => none
  | ds => maxD ds
theorem max_fold : ∀ (ns : List Int) (n : Int), (ns.foldl (fun a b => if b > a then b else a) n ∈ n :: ns) ∧ ∀ y ∈ n :: ns, y ≤ ns.foldl (fun a b => if b > a then b else a) n
  | [], n => by simp
  | m :: ns, n => by
    rw [List.foldl_cons]
    obtain ⟨h1, h2⟩ := max_fold ns (if m > n then m else n)
    have h0 : n ≤ (if m > n then m else n) ∧ m ≤ (if m > n then m else n) := by split <;> omega
    have hb := h2 (if m > n then m else n) List.mem_cons_self
    refine ⟨?_, fun y hy => ?_⟩
    · rcases List.mem_cons.mp h1 with e | e
      · rw [e]; split <;> simp
      · exact List.mem_cons_of_mem _ (List.mem_cons_of_mem _ e)
    · rcases List.mem_cons.mp hy with rfl | hy
      · omega
      · rcases List.mem_cons.mp hy with rfl | hy
        · omega
        · exact h2 y (List.mem_cons_of_mem _ hy)
theorem call_maxX {X : Cx} {C : KM} (hc : X.calm = true) : CallR X (.builtin "max") (cD C maxX) := by
  intro pins s σ H xs us Q I r h
  obtain ⟨a, ds, d, rfl, k, ps, hd, q⟩ := h
  match ds, hd, ps with
  | [.lst o l], hd, ps =>
    simp only [maxX] at hd
    split at hd
    · rename_i n ns hi
      cases hd
      obtain ⟨v, rfl, r1, p1⟩ := one_rep ps
      obtain ⟨x, vs, rfl, h1, h2⟩ := rep_lst k p1
      have e := ints_rep hi h2
      subst e
      obtain ⟨m1, m2⟩ := max_fold ns n
      refine cr_max hc pins s σ a.H _ us Q I r ⟨x, n :: ns, rfl, SqL.of h1, by simp, fun m hm hu => ?_⟩
      have e : m = ns.foldl (fun a b => if b > a then b else a) n := Int.le_antisymm (m2 m hm) (hu _ m1)
      subst e
      exact q _ a (Grow.refl a) k (by simp [Rep])
    · cases hd
  | [.int i, .int j], hd, ps => exact call_maxD hc pins s σ a.H xs us Q I r ⟨a, _, d, rfl, k, ps, hd, q⟩
/-! ### a def, a method -/
theorem fn_okQ {C : KM} {N ps : List Str} {st : Stmt} {x qual : Str} {f : Addr} {fd : FuncData} {lv : Nat} (io : List Nat) (m : EM FlowD) (F : Fun C.K x qual st f fd) (S : FnScope N ps (defScope st)) (base : Heap)
    (body : ∀ (base : Heap) (cdv : Value) (A : Around) (outer : List Env) (s : Shared) (H : Hp) (E : XK) (vs : List V) (W : WX), Go (CxD C base N qual (defScope st) f cdv A outer s H E) ⟨C, vs, io⟩ W lv → PSs (CxD C base N qual (defScope st) f cdv A outer s H E) (defBody st) (tS ⟨C, vs, io⟩ W m)) :
    FnOk C.P C.w C.K C.mg base (L2.CX C.P C.w) (lv + 1) f fd ps (spD C (runD ps.length N.length io m)) := by
  have hpl : ps.length ≤ N.length := by have := congrArg List.length S.pre; rw [List.length_take] at this; omega
  refine F.okX S (fun vs H Q E h => ?_) fun cdv A outer s H vs Q E hr h => ?_
  · obtain ⟨a, ds, _, _, hl, _, h⟩ := h
    unfold runD at h
    by_cases z : ds.length = ps.length ∧ ownOk io ds 0 = true
    · rw [← hl, z.1]
    · rw [if_neg z] at h; exact h.elim
  · obtain ⟨a, ds, rfl, ok, hl, hrep, h⟩ := h
    have go : Go (CxD C base N qual (defScope st) f cdv A outer s a.H E) ⟨C, vs, io⟩ (fun cls d _ H => E cls d H) lv :=
      { p := rfl, w := rfl, k := rfl, m := rfl, n := S.nd, u := by have := hr.un; show (A.deeper _).units + 64 < cLine; omega, tk := takes_of rfl rfl rfl rfl, pw := passes_of rfl, rm := hr, cm := rfl }
    refine ⟨_, body base cdv A outer s a.H E vs _ go, ?_⟩
    unfold runD at h
    by_cases z : ds.length = ps.length ∧ ownOk io ds 0 = true
    · rw [if_pos z] at h
      have hlen : vs.length = ps.length := by rw [← hl, z.1]
      refine ⟨a, ds.map some ++ List.replicate (N.length - ps.length) none, rfl, ⟨ok, ?_, fun i d e => ?_, fun i hi v hv => ?_⟩, ?_⟩
      · unfold L2.start
        rw [List.length_append, List.length_append, List.length_map, List.length_map, List.length_replicate, List.length_replicate, z.1, hlen]
      · have hi : i < ds.length := by
          by_cases hi : i < ds.length
          · exact hi
          · rw [List.getElem?_append_right (by simpa using hi), List.getElem?_replicate] at e
            split at e <;> cases e
        have e2 : ds[i]? = some d := by
          rw [List.getElem?_append_left (by simpa using hi), List.getElem?_map] at e
          cases q : ds[i]? with
          | none => rw [q] at e; cases e
          | some d' => rw [q] at e; cases e; rfl
        obtain ⟨v, h1, h2⟩ := hrep i d e2
        refine ⟨v, ?_, h2⟩
        unfold L2.start
        rw [List.getElem?_append_left (by rw [List.length_map]; exact (List.getElem?_eq_some_iff.mp h1).1), List.getElem?_map, h1]; rfl
      · have hv : vs[i]? = some v := hv
        unfold L2.start
        rw [List.getElem?_append_left (by rw [List.length_map]; exact (List.getElem?_eq_some_iff.mp hv).1), List.getElem?_map, hv]; rfl
      · cases hm : m (ds.map some ++ List.replicate (N.length - ps.length) none) with
        | bad => rw [hm] at h; exact h.elim
        | exc y e => rw [hm] at h; exact fun b σ cls dd st r er => h b cls dd st r.ok (outs_rep r (Nat.le_of_eq hlen.symm)) er
        | ok fe =>
          obtain ⟨fl, e⟩ := fe
          rw [hm] at h
          cases fl with
          | next => exact fun b σ st r => h b .non st r.ok (outs_rep r (Nat.le_of_eq hlen.symm)) (by simp [Rep])
          | ret d => exact fun b σ v st r rp => h b v st r.ok (outs_rep r (Nat.le_of_eq hlen.symm)) rp
          | brk => exact h.elim
          | cont => exact h.elim
    · rw [if_neg z] at h; exact h.elim
theorem mk_def {C : KM} {N ps : List Str} {st : Stmt} {c qual : Str} {f u : Addr} {fd : FuncData} {lv : Nat} (io : List Nat) (m : EM FlowD) (F : Fun C.K "__init__" qual st f fd) (S : FnScope N ps (defScope st)) (hb : Binds C.K fd ps []) (hm : C.mg c = some (.ref u)) (M : Mk C.K u f)
    (body : ∀ (base : Heap) (cdv : Value) (A : Around) (outer : List Env) (s : Shared) (H : Hp) (E : XK) (vs : List V) (W : WX), Go (CxD C base N qual (defScope st) f cdv A outer s H E) ⟨C, vs, io⟩ W lv → PSs (CxD C base N qual (defScope st) f cdv A outer s H E) (defBody st) (tS ⟨C, vs, io⟩ W m)) :
    MkOk C (lv + 1) c (runD ps.length N.length io m) := ⟨u, f, fd, ps, hm, M, hb, fun base _ _ => fn_okQ io m F S base body⟩
end Mi
namespace Mi
open PySem PySem.Spec PyProof.Rows L2

/-! ### rows for simp, the later mirrors -/
section
variable {e env : EnvD} {m n : EM D} {ma mb : EM Arg} {mas : EM (List Arg)} {mt : EM Bool} {d d1 : D} {x y : Arg} {j : Nat} {c fl : Str} {cs : List Str} {xs : List Arg} {l ds : List D}
/-! a method of a slot's list -/
def metV (j : Nat) (f : List D → List D → Option (D × List D)) (e : EnvD) : Option (Option D) → Option (List D) → Res (D × EnvD)
  | some (some (.lst true l)), some ds => match f l ds with
    | some (d, l') => .ok (d, e.set j (some (.lst true l')))
    | none => .bad
  | _, _ => .bad
def kMet (j : Nat) (f : List D → List D → Option (D × List D)) : List Arg × EnvD → Res (D × EnvD) := fun (xs, e) => metV j f e (e[j]?) (Arg.gets e xs)
def met0 (j : Nat) (mas : EM (List Arg)) (f : List D → List D → Option (D × List D)) (env : EnvD) : Option (Option D) → Res (D × EnvD)
  | some (some (.lst true _)) => (mas env).bind (kMet j f)
  | _ => .bad
variable {f : List D → List D → Option (D × List D)}
@[simp] theorem e_met : mMet j mas f env = met0 j mas f env (env[j]?) := by
  unfold mMet met0
  rcases env[j]? with _ | _ | d
  · rfl
  · rfl
  · cases d <;> rfl
@[simp] theorem met0_ok : met0 j mas f env (some (some (.lst true l))) = (mas env).bind (kMet j f) := rfl
@[simp] theorem kMet_ok : kMet j f (xs, e) = metV j f e (e[j]?) (Arg.gets e xs) := rfl
def metR (j : Nat) (e : EnvD) : Option (D × List D) → Res (D × EnvD)
  | some (d, l') => .ok (d, e.set j (some (.lst true l')))
  | none => .bad
@[simp] theorem metV_ok : metV j f e (some (some (.lst true l))) (some ds) = metR j e (f l ds) := rfl
@[simp] theorem metR_ok : metR j e (some (d, l)) = .ok (d, e.set j (some (.lst true l))) := rfl
/-! stores -/
def sxV (j : Nat) (y : D) (e : EnvD) : Option (Option D) → Option D → Res (FlowD × EnvD)
  | some (some d), some i => oFlow ((setX d i (frzQ y)).map fun d' => e.set j (some d'))
  | _, _ => .bad
def kSx2 (j : Nat) (y : D) : Arg × EnvD → Res (FlowD × EnvD) := fun (x, e) => sxV j y e (e[j]?) (x.get e)
def kSxV (j : Nat) (mi : EM D) (y : D) (e : EnvD) : Option (Option D) → Res (FlowD × EnvD)
  | some (some _) => (mFrz mi e).bind (kSx2 j y)
  | _ => .bad
def kSx1 (j : Nat) (mi : EM D) : D × EnvD → Res (FlowD × EnvD) := fun (y, e) => kSxV j mi y e (e[j]?)
@[simp] theorem e_setX : mSetX j m n env = (n env).bind (kSx1 j m) := by
  unfold mSetX
  refine bind_ext fun z => ?_
  obtain ⟨y, e1⟩ := z
  show _ = kSxV j m y e1 (e1[j]?)
  dsimp only
  rcases e1[j]? with _ | _ | d
  · rfl
  · rfl
  · show (mFrz m e1).bind _ = (mFrz m e1).bind (kSx2 j y)
    refine bind_ext fun z => ?_
    obtain ⟨z, e2⟩ := z
    show _ = sxV j y e2 (e2[j]?) (z.get e2)
    dsimp only
    rcases e2[j]? with _ | _ | d'
    · rfl
    · rfl
    · cases z.get e2 with
      | none => rfl
      | some i =>
        show _ = oFlow ((setX d' i (frzQ y)).map fun d'' => e2.set j (some d''))
        dsimp only
        cases setX d' i (frzQ y) <;> rfl
@[simp] theorem kSx1_ok : kSx1 j m (d, e) = kSxV j m d e (e[j]?) := rfl
@[simp] theorem kSxV_ok : kSxV j m d1 e (some (some d)) = (mFrz m e).bind (kSx2 j d1) := rfl
@[simp] theorem kSx2_ok : kSx2 j d (x, e) = sxV j d e (e[j]?) (x.get e) := rfl
@[simp] theorem sxV_ok {i : D} : sxV j d1 e (some (some d)) (some i) = oFlow ((setX d i (frzQ d1)).map fun d' => e.set j (some d')) := rfl
def fsV (j : Nat) (cs : List Str) (fl : Str) (y : D) (e : EnvD) : Option (Option D) → Res (FlowD × EnvD)
  | some (some d) => oFlow ((fsetG cs fl d (frzQ y)).map fun d' => e.set j (some d'))
  | _ => .bad
def kFSet (j : Nat) (cs : List Str) (fl : Str) : D × EnvD → Res (FlowD × EnvD) := fun (y, e) => fsV j cs fl y e (e[j]?)
@[simp] theorem e_fset : mFSet j cs fl m env = (m env).bind (kFSet j cs fl) := by
  unfold mFSet
  refine bind_ext fun z => ?_
  obtain ⟨y, e⟩ := z
  show _ = fsV j cs fl y e (e[j]?)
  dsimp only
  rcases e[j]? with _ | _ | d
  · rfl
  · rfl
  · show _ = oFlow ((fsetG cs fl d (frzQ y)).map fun d' => e.set j (some d'))
    dsimp only
    cases fsetG cs fl d (frzQ y) <;> rfl
@[simp] theorem kFSet_ok : kFSet j cs fl (d, e) = fsV j cs fl d e (e[j]?) := rfl
@[simp] theorem fsV_ok : fsV j cs fl d1 e (some (some d)) = oFlow ((fsetG cs fl d (frzQ d1)).map fun d' => e.set j (some d')) := rfl
/-! a new instance -/
def mkV2 (n : Nat) (e' : EnvD) : Option (Option D) → Res (D × EnvD)
  | some (some d) => .ok (d, e'.take n)
  | _ => .bad
def mkV (n : Nat) : Res (D × EnvD) → Res (D × EnvD)
  | .ok (.non, e') => mkV2 n e' (e'[n]?)
  | .exc x e' => .exc x (e'.take n)
  | _ => .bad
def kMake (c : Str) (g : List D → Res (D × EnvD)) : List Arg × EnvD → Res (D × EnvD) := fun (xs, e) => mkV e.length (gCall g (.var e.length :: xs) (e ++ [some (.ins true c [] [])]) (Arg.gets (e ++ [some (.ins true c [] [])]) (.var e.length :: xs)))
variable {g : List D → Res (D × EnvD)}
@[simp] theorem e_make : mMake c g mas env = (mas env).bind (kMake c g) := by
  unfold mMake
  refine bind_ext fun z => ?_
  obtain ⟨xs, e⟩ := z
  show makeR c g xs e = mkV e.length _
  have hk := kCall_g (g := g) (xs := .var e.length :: xs) (e := e ++ [some (.ins true c [] [])])
  have hk : mCallR g (.var e.length :: xs) (e ++ [some (.ins true c [] [])]) = gCall g (.var e.length :: xs) (e ++ [some (.ins true c [] [])]) (Arg.gets (e ++ [some (.ins true c [] [])]) (.var e.length :: xs)) := hk
  unfold makeR
  rw [← hk]
  cases mCallR g (.var e.length :: xs) (e ++ [some (.ins true c [] [])]) with
  | bad => rfl
  | exc x e' => rfl
  | ok de =>
    obtain ⟨d0, e'⟩ := de
    cases d0 <;> first | rfl | skip
@[simp] theorem kMake_ok : kMake c g (xs, e) = mkV e.length (gCall g (.var e.length :: xs) (e ++ [some (.ins true c [] [])]) (Arg.gets (e ++ [some (.ins true c [] [])]) (.var e.length :: xs))) := rfl
@[simp] theorem mkV_ok {n : Nat} : mkV n (.ok (.non, e)) = mkV2 n e (e[n]?) := rfl
@[simp] theorem mkV_exc {n : Nat} {z : Exc} : mkV n (.exc z e) = .exc z (e.take n) := rfl
@[simp] theorem mkV2_ok {n : Nat} : mkV2 n e (some (some d)) = .ok (d, e.take n) := rfl
/-! dict comprehensions -/
def kDc2 (e : EnvD) (own : List Nat) : List (Key × D) × EnvD → Res (D × EnvD) := fun (l, e') => .ok (dicG l, restE e e' own)
def kDc (t : Tgt) (cond : EM Bool) (ek : EM Arg) (ev : EM D) (own : List Nat) : List D × EnvD → Res (D × EnvD) := fun (ds, e) => if fzL ds = true ∧ ds.length ≤ 1000 then (loopDc t cond ek ev own ds [] e).bind (kDc2 e own) else .bad
@[simp] theorem e_dc {mi : EM (List D)} {t : Tgt} {own : List Nat} : mDc mi t mt ma m own env = (mi env).bind (kDc t mt ma m own) := rfl
theorem kDc_ok {t : Tgt} {own : List Nat} (h1 : fzL ds = true) (h2 : ds.length ≤ 1000) : kDc t mt ma m own (ds, e) = (loopDc t mt ma m own ds [] e).bind (kDc2 e own) := by
  show (if fzL ds = true ∧ ds.length ≤ 1000 then _ else _) = _
  rw [if_pos ⟨h1, h2⟩]
@[simp] theorem kDc2_ok {e' : EnvD} {own : List Nat} {l : List (Key × D)} : kDc2 e own (l, e') = .ok (dicG l, restE e e' own) := rfl
end
/-! data -/
@[simp] theorem addD_i {i j : Int} : addD (.int i) (.int j) = some (.int (i + j)) := rfl
@[simp] theorem subD_i {i j : Int} : subD (.int i) (.int j) = some (.int (i - j)) := rfl
@[simp] theorem negD_i {i : Int} : negD (.int i) = some (.int (-i)) := rfl
@[simp] theorem intD_i {i : Int} : intD [.int i] = some (.int i) := rfl
@[simp] theorem ltD_i {i j : Int} : ltD (.int i) (.int j) = some (.bl (decide (i < j))) := rfl
@[simp] theorem leD_i {i j : Int} : leD (.int i) (.int j) = some (.bl (decide (i ≤ j))) := rfl
@[simp] theorem gtD_i {i j : Int} : gtD (.int i) (.int j) = some (.bl (decide (j < i))) := rfl
@[simp] theorem geD_i {i j : Int} : geD (.int i) (.int j) = some (.bl (decide (j ≤ i))) := rfl
@[simp] theorem eqD_i {i j : Int} : eqD (.int i) (.int j) = some (.bl (decide (i = j))) := by show some (D.bl (i == j)) = _; by_cases h : i = j <;> simp [h]
@[simp] theorem neD_i {i j : Int} : neD (.int i) (.int j) = some (.bl (!decide (i = j))) := by show some (D.bl (!(i == j))) = _; by_cases h : i = j <;> simp [h]
@[simp] theorem nisD_b {a b : Bool} : nisD (.bl a) (.bl b) = some (.bl (!(a == b))) := rfl
@[simp] theorem isD_b {a b : Bool} : isD (.bl a) (.bl b) = some (.bl (a == b)) := rfl
@[simp] theorem eqD_b {a b : Bool} : eqD (.bl a) (.bl b) = some (.bl (a == b)) := rfl
@[simp] theorem neD_s {a b : Str} : neD (.str a) (.str b) = some (.bl (!(a == b))) := rfl
@[simp] theorem eqD_s {a b : Str} : eqD (.str a) (.str b) = some (.bl (a == b)) := rfl
@[simp] theorem lenD_l {b : Bool} {l : List D} : lenD [.lst b l] = some (.int l.length) := rfl
@[simp] theorem lenD_t {l : List D} : lenD [.tup l] = some (.int l.length) := rfl
@[simp] theorem lenD_scr {l : List Int} : lenD [.scr l] = some (.int l.length) := rfl
@[simp] theorem lenD_d {b : Bool} {k w : List D} : lenD [.dic b k w] = some (.int k.length) := rfl
theorem modD_i {i j : Int} (h : 0 < j) : modD (.int i) (.int j) = some (.int (i % j)) := by simp [modD, h]
theorem fdivD_i {i j : Int} (h : 0 < j) (h2 : j.natAbs.log2 < 9000) : fdivD (.int i) (.int j) = some (.int (i / j)) := by simp [fdivD, h, h2]
theorem mulD_i {i j : Int} (h : j.natAbs < 18446744073709551616 ∨ i.natAbs < 18446744073709551616) : mulD (.int i) (.int j) = some (.int (i * j)) := by
  unfold mulD
  dsimp only
  rcases h with h | h <;> simp [h]
theorem ixD_lst {l : List D} {r : Int} {o : Bool} (h : 0 ≤ r) (h2 : r < l.length) (z : fzL l = true) : ∃ d ∈ l, ixD (.lst o l) (.int r) = some d := by
  have e : r.toNat < l.length := by omega
  have m : l[r.toNat] ∈ l := List.getElem_mem e
  exact ⟨l[r.toNat], m, by simp [ixD, atI, ixN, h, h2, pick, e, fzL_mem z _ m]⟩
end Mi
namespace Mi
open PySem PySem.Spec PyProof.Rows L2

/-! ### comprehensions whose turns change nothing -/
theorem set_none_idem {e : EnvD} {k : Nat} {o : Option D} : (e.set k o).set k none = e.set k none := by rw [List.set_set]
/- f the element, p the test, by the item -/
theorem loop_pure {k : Nat} {cond : EM Bool} {elt : EM D} {f : D → D} {p : D → Bool} {e0 : EnvD} (h0 : e0.set k none = e0) : ∀ (ds acc : List D) (e : EnvD), e.set k none = e0 →
    (∀ d ∈ ds, cond (e0.set k (some d)) = .ok (p d, e0.set k (some d))) → (∀ d ∈ ds, p d = true → elt (e0.set k (some d)) = .ok (f d, e0.set k (some d))) →
    ∃ e', loopL (.nm k) cond elt [k] ds acc e = .ok (acc ++ (ds.filter p).map (fun d => frzQ (f d)), e') ∧ e'.set k none = e0
  | [], acc, e, he, _, _ => ⟨e, by simp [loopL], he⟩
  | d :: ds, acc, e, he, hc, hf => by
    have w : wipeE e [k] = e0 := by simp only [wipeE]; exact he
    have hs : (e0.set k (some d)).set k none = e0 := by rw [set_none_idem]; exact h0
    have c1 := hc d List.mem_cons_self
    simp only [loopL, w, tg_nm, c1]
    cases hp : p d with
    | false =>
      obtain ⟨e', g1, g2⟩ := loop_pure h0 ds acc (e0.set k (some d)) hs (fun x hx => hc x (List.mem_cons_of_mem _ hx)) (fun x hx => hf x (List.mem_cons_of_mem _ hx))
      refine ⟨e', ?_, g2⟩
      rw [List.filter_cons_of_neg (by simp [hp])]
      exact g1
    | true =>
      have f1 := hf d List.mem_cons_self hp
      obtain ⟨e', g1, g2⟩ := loop_pure h0 ds (acc ++ [frzQ (f d)]) (e0.set k (some d)) hs (fun x hx => hc x (List.mem_cons_of_mem _ hx)) (fun x hx => hf x (List.mem_cons_of_mem _ hx))
      refine ⟨e', ?_, g2⟩
      rw [List.filter_cons_of_pos (by simp [hp]), List.map_cons]
      simp only [f1]
      rw [g1]
      simp
theorem lc_pureX {k : Nat} {elt : EM D} (f : D → D) {e : EnvD} {ds : List D} (hz : fzL ds = true) (hl : ds.length ≤ 100000) (hf : ∀ d ∈ ds, elt (e.set k (some d)) = .ok (f d, e.set k (some d))) :
    kLc (.nm k) mYes elt [k] (ds, e) = .ok (.lst true (ds.map fun d => frzQ (f d)), e.set k (restV e k)) := by
  rw [kLc_okX hz hl]
  have e0 : (e.set k none).set k none = e.set k none := set_none_idem
  have s1 : ∀ d, (e.set k none).set k (some d) = e.set k (some d) := fun d => by rw [List.set_set]
  obtain ⟨e', g1, g2⟩ := loop_pure (cond := mYes) (elt := elt) (f := f) (p := fun _ => true) e0 ds [] e rfl (fun d _ => by simp) (fun d hd _ => by rw [s1]; exact hf d hd)
  rw [g1, show ds.filter (fun _ => true) = ds from List.filter_eq_self.mpr fun _ _ => rfl]
  simp only [bind_ok, kLc2_ok, List.nil_append, restE]
  rw [show e'.set k (restV e k) = (e'.set k none).set k (restV e k) by rw [List.set_set], g2, List.set_set]
theorem lc_pure {k : Nat} {elt : EM D} (f : D → D) {e : EnvD} {ds : List D} (hz : fzL ds = true) (hl : ds.length ≤ 1000) (hf : ∀ d ∈ ds, elt (e.set k (some d)) = .ok (f d, e.set k (some d))) :
    kLc (.nm k) mYes elt [k] (ds, e) = .ok (.lst true (ds.map fun d => frzQ (f d)), e.set k (restV e k)) := lc_pureX f hz (by omega) hf
theorem lc_filterX {k : Nat} {cond : EM Bool} {elt : EM D} (f : D → D) (p : D → Bool) {e : EnvD} {ds : List D} (hz : fzL ds = true) (hl : ds.length ≤ 100000) (hc : ∀ d ∈ ds, cond (e.set k (some d)) = .ok (p d, e.set k (some d))) (hf : ∀ d ∈ ds, p d = true → elt (e.set k (some d)) = .ok (f d, e.set k (some d))) :
    kLc (.nm k) cond elt [k] (ds, e) = .ok (.lst true ((ds.filter p).map fun d => frzQ (f d)), e.set k (restV e k)) := by
  rw [kLc_okX hz hl]
  have e0 : (e.set k none).set k none = e.set k none := set_none_idem
  have s1 : ∀ d, (e.set k none).set k (some d) = e.set k (some d) := fun d => by rw [List.set_set]
  obtain ⟨e', g1, g2⟩ := loop_pure (cond := cond) (elt := elt) (f := f) (p := p) e0 ds [] e rfl (fun d hd => by rw [s1]; exact hc d hd) (fun d hd hp => by rw [s1]; exact hf d hd hp)
  rw [g1]
  simp only [bind_ok, kLc2_ok, List.nil_append, restE]
  rw [show e'.set k (restV e k) = (e'.set k none).set k (restV e k) by rw [List.set_set], g2, List.set_set]
theorem lc_filter {k : Nat} {cond : EM Bool} {elt : EM D} (f : D → D) (p : D → Bool) {e : EnvD} {ds : List D} (hz : fzL ds = true) (hl : ds.length ≤ 1000) (hc : ∀ d ∈ ds, cond (e.set k (some d)) = .ok (p d, e.set k (some d))) (hf : ∀ d ∈ ds, p d = true → elt (e.set k (some d)) = .ok (f d, e.set k (some d))) :
    kLc (.nm k) cond elt [k] (ds, e) = .ok (.lst true ((ds.filter p).map fun d => frzQ (f d)), e.set k (restV e k)) := lc_filterX f p hz (by omega) hc hf
theorem loop_dpure {k : Nat} {ek : EM Arg} {ev : EM D} {kf : D → Key} {f : D → D} {e0 : EnvD} (h0 : e0.set k none = e0) : ∀ (ds : List D) (acc : List (Key × D)) (e : EnvD), e.set k none = e0 →
    (∀ d ∈ ds, ∃ x, ek (e0.set k (some d)) = .ok (x, e0.set k (some d)) ∧ (x.get (e0.set k (some d))).bind keyD = some (kf d)) → (∀ d ∈ ds, ev (e0.set k (some d)) = .ok (f d, e0.set k (some d))) →
    ∃ e', loopDc (.nm k) mYes ek ev [k] ds acc e = .ok (mergeG (ds.map fun d => (kf d, frzQ (f d))) acc, e') ∧ e'.set k none = e0
  | [], acc, e, he, _, _ => ⟨e, by simp [loopDc, mergeG], he⟩
  | d :: ds, acc, e, he, hk, hf => by
    have w : wipeE e [k] = e0 := by simp only [wipeE]; exact he
    have hs : (e0.set k (some d)).set k none = e0 := by rw [set_none_idem]; exact h0
    obtain ⟨x, k1, k2⟩ := hk d List.mem_cons_self
    have f1 := hf d List.mem_cons_self
    obtain ⟨e', g1, g2⟩ := loop_dpure h0 ds (putG acc (kf d) (frzQ (f d))) (e0.set k (some d)) hs (fun x hx => hk x (List.mem_cons_of_mem _ hx)) (fun x hx => hf x (List.mem_cons_of_mem _ hx))
    refine ⟨e', ?_, g2⟩
    simp only [loopDc, w, tg_nm, e_yes, k1, f1, k2]
    rw [g1]; rfl
theorem dc_pure {k : Nat} {ek : EM Arg} {ev : EM D} (kf : D → Key) (f : D → D) {e : EnvD} {ds : List D} (hz : fzL ds = true) (hl : ds.length ≤ 1000) (hk : ∀ d ∈ ds, ∃ x, ek (e.set k (some d)) = .ok (x, e.set k (some d)) ∧ (x.get (e.set k (some d))).bind keyD = some (kf d)) (hf : ∀ d ∈ ds, ev (e.set k (some d)) = .ok (f d, e.set k (some d))) :
    kDc (.nm k) mYes ek ev [k] (ds, e) = .ok (dicG (mergeG (ds.map fun d => (kf d, frzQ (f d))) []), e.set k (restV e k)) := by
  rw [kDc_ok hz hl]
  have e0 : (e.set k none).set k none = e.set k none := set_none_idem
  have s1 : ∀ d, (e.set k none).set k (some d) = e.set k (some d) := fun d => by rw [List.set_set]
  obtain ⟨e', g1, g2⟩ := loop_dpure (ek := ek) (ev := ev) (kf := kf) (f := f) e0 ds [] e rfl (fun d hd => by rw [s1]; exact hk d hd) (fun d hd => by rw [s1]; exact hf d hd)
  rw [g1]
  simp only [bind_ok, kDc2_ok, restE]
  rw [show e'.set k (restV e k) = (e'.set k none).set k (restV e k) by rw [List.set_set], g2, List.set_set]
/-! keys that come once -/
theorem putG_new {ds : List (Key × D)} {k : Key} {d : D} (h : k ∉ ds.map (·.1)) : putG ds k d = ds ++ [(k, d)] := by
  unfold putG
  rw [if_neg]
  intro z
  rw [List.any_eq_true] at z
  obtain ⟨x, hx, hk⟩ := z
  exact h (List.mem_map.mpr ⟨x, hx, by simpa using hk⟩)
theorem mergeG_new : ∀ (ds acc : List (Key × D)), (acc.map (·.1) ++ ds.map (·.1)).Nodup → mergeG ds acc = acc ++ ds
  | [], acc, _ => by simp [mergeG]
  | x :: ds, acc, h => by
    have hx : x.1 ∉ acc.map (·.1) := by
      intro z
      rw [List.nodup_append] at h
      exact h.2.2 x.1 z x.1 (by simp) rfl
    show mergeG ds (putG acc x.1 x.2) = _
    rw [putG_new hx]
    rw [mergeG_new ds (acc ++ [(x.1, x.2)]) (by simpa using h)]
    simp
theorem allD_true {b : Bool} {l : List D} (h : ∀ d ∈ l, d = .bl true) : allD [.lst b l] = some (.bl true) := by
  have : blsOf l = some (List.replicate l.length true) := by
    clear b
    induction l with
    | nil => rfl
    | cons d l ih =>
      rw [h d List.mem_cons_self, blsOf, ih fun x hx => h x (List.mem_cons_of_mem _ hx)]
      rfl
  simp only [allD, this, Option.map_some]
  congr 2
  simp
end Mi
namespace Mi
open PySem PySem.Spec PyProof.Rows L2

/-! ### comprehensions with two generators, the second over a list or a tuple -/
abbrev FM (a c : Wd) : Prop := ∀ x o, a.F x = some o → c.F x = some o
def ItF (C : KM) (a : Wd) (ds : List D) (J : It) : Prop := ∀ c, Ok c → FM a c → (∀ i d, ds[i]? = some d → J.go i c.H ∧ ∀ x H', J.yld i c.H x H' → H' = c.H ∧ Rep C c 0 [] x d) ∧ J.stop ds.length c.H
theorem itF_lst {C : KM} {a : Wd} {l : List D} {x : Addr} {vs : List V} {r n : Nat} {p : List Nat} (k : Ok a) (z : fzL l = true) (hx : a.F x = some (.lst vs)) (h : RepL C a r p n vs l) : ItF C a l (Itl C.K x) := fun c ok st => by
  have hc : SqL C.K c.H x vs := SqL.of (ok.sub _ _ (st _ _ hx))
  refine ⟨fun i d e => ?_, ⟨vs, hc, by rw [h.len]; exact Nat.le_refl _⟩⟩
  obtain ⟨v, h1, h2⟩ := h.get e
  refine ⟨⟨vs, v, hc, h1⟩, fun y H' q => ?_⟩
  obtain ⟨rfl, q⟩ := q
  have e2 := q vs hc
  rw [h1] at e2; cases e2
  exact ⟨rfl, Rep.fz st d _ _ v (fzL_mem z d (List.mem_of_getElem? e)) h2⟩
theorem itF_tup {C : KM} {a : Wd} {l : List D} {x : Addr} {vs : List V} {r n : Nat} {p : List Nat} (k : Ok a) (z : fzL l = true) (hx : SqT C.K a.F x vs) (h : RepL C a r p n vs l) : ItF C a l (Itt C.K x) := fun c ok st => by
  have hc : SqT C.K c.H x vs := sqt_mono (fun y o h => ok.sub _ _ (st _ _ h)) hx
  refine ⟨fun i d e => ?_, ⟨vs, hc, by rw [h.len]; exact Nat.le_refl _⟩⟩
  obtain ⟨v, h1, h2⟩ := h.get e
  refine ⟨⟨vs, v, hc, h1⟩, fun y H' q => ?_⟩
  obtain ⟨rfl, q⟩ := q
  have e2 := q vs hc
  rw [h1] at e2; cases e2
  exact ⟨rfl, Rep.fz st d _ _ v (fzL_mem z d (List.mem_of_getElem? e)) h2⟩
def seq2 : D → Option (List D)
  | .lst false l => if fzL l = true then some l else none
  | .tup l => if fzL l = true then some l else none
  | _ => none
def loopL2 (t : Tgt) (cond : EM Bool) (ma1 : EM Arg) (t1 : Tgt) (cond1 : EM Bool) (elt : EM D) (own own1 : List Nat) : List D → List D → EnvD → Res (List D × EnvD)
  | [], acc, e => .ok (acc, e)
  | d :: ds, acc, e => match mTg t d (wipeE e own) with
    | none => .bad
    | some e1 => match cond e1 with
      | .ok (true, e2) => match ma1 e2 with
        | .ok (x, e3) => match (x.get e3).bind seq2 with
          | some ds1 => if acc.length + ds1.length ≤ 100000 then (loopL t1 cond1 elt own1 ds1 acc e3).bind fun (acc', e4) => loopL2 t cond ma1 t1 cond1 elt own own1 ds acc' e4 else .bad
          | none => .bad
        | _ => .bad
      | .ok (false, e2) => loopL2 t cond ma1 t1 cond1 elt own own1 ds acc e2
      | _ => .bad
def mLc2 (mi : EM (List D)) (t : Tgt) (cond : EM Bool) (ma1 : EM Arg) (t1 : Tgt) (cond1 : EM Bool) (elt : EM D) (own own1 : List Nat) : EM D := fun env => (mi env).bind fun (ds, e) =>
  if fzL ds = true then (loopL2 t cond ma1 t1 cond1 elt own own1 ds [] e).bind fun (l, e') => .ok (.lst true l, restE e e' own) else .bad
theorem res_assoc {α β γ : Type} (r : Res α) (f : α → Res β) (g : β → Res γ) : (r.bind f).bind g = r.bind fun x => (f x).bind g := by cases r <;> rfl
theorem wipe_sub (σ : L2.St) {own : List Nat} : ∀ vs : List Nat, (∀ i ∈ vs, i ∈ own) → wipe (wipe σ vs) own = wipe σ own
  | [], _ => rfl
  | v :: vs, h => by
    show wipe ((wipe σ vs).set v none) own = _
    rw [wipe_set (h v (by simp)), wipe_sub σ vs fun i hi => h i (by simp [hi])]
theorem wipeE_set {e : EnvD} {i : Nat} {v : Option D} : ∀ {own : List Nat}, i ∈ own → wipeE (e.set i v) own = wipeE e own
  | k :: vs, h => by
    unfold wipeE
    by_cases q : k = i
    · subst q
      by_cases hm : k ∈ vs
      · rw [wipeE_set hm]
      · have : ∀ {vs : List Nat}, k ∉ vs → wipeE (e.set k v) vs = (wipeE e vs).set k v := fun {vs} => by
          induction vs with
          | nil => intro _; rfl
          | cons u us ih =>
            intro h
            simp only [List.mem_cons, not_or] at h
            unfold wipeE
            rw [ih h.2, List.set_comm _ _ h.1]
        rw [this hm, List.set_set]
    · rw [wipeE_set (by
        rcases List.mem_cons.mp h with h | h
        · exact absurd h.symm q
        · exact h)]
theorem wipeE_sub (e : EnvD) {own : List Nat} : ∀ vs : List Nat, (∀ i ∈ vs, i ∈ own) → wipeE (wipeE e vs) own = wipeE e own
  | [], _ => rfl
  | v :: vs, h => by
    show wipeE ((wipeE e vs).set v none) own = _
    rw [wipeE_set (h v (by simp)), wipeE_sub e vs fun i hi => h i (by simp [hi])]
theorem small100k {n : Nat} (h : n < 100001) : n < sizeLine := by rw [show sizeLine = 16777216 from sizeLine_eq]; omega
section
variable {G : Gm} {W : WX} {σ : L2.St} {H : Hp} {Q : VK}
theorem lc2_w {mi : EM (List D)} {t t1 : Tgt} {cond cond1 : EM Bool} {ma1 : EM Arg} {elt : EM D} {own own1 : List Nat} (hf : Tgt.off G.io t) (hf1 : Tgt.off G.io t1) (ho : ∀ i ∈ G.io, i ∉ own) (hown : Tgt.ins own t) (hown1 : Tgt.ins own1 t1) (hsub : ∀ i ∈ own1, i ∈ own)
    (h : tE G W (mLc2 mi t cond ma1 t1 cond1 elt own own1) σ H Q) :
    tLc2 (tI G W mi) (gT G.C.K t) (tT G W0 cond) (fun σ H R => iList G.C.K (tArg G W0 ma1) σ H R ∨ iTup G.C.K (tArg G W0 ma1) σ H R) (gT G.C.K t1) (tT G W0 cond1) (tE G W0 elt) own own1 σ H Q := by
  have ho1 : ∀ i ∈ G.io, i ∉ own1 := fun i hi hm => ho i hi (hsub i hm)
  obtain ⟨a, env, rfl, rel, post⟩ := h
  refine ⟨a, env, rfl, rel, post.bind.imp fun ds e b st r p => ?_⟩
  dsimp only at p
  split at p
  · rename_i z
    refine ⟨z, fun J hJ A hA => ?_⟩
    have fA : b.F A = none := by
      cases q : b.F A with
      | none => rfl
      | some u => have := r.ok.sub A u q; rw [hA] at this; cases this
    have tA : b.t A = none := by
      cases q : b.t A with
      | none => rfl
      | some u => obtain ⟨_, u, h⟩ := r.ok.own A u q; rw [hA] at h; cases h
    let K : List D × EnvD → Res (D × EnvD) := fun (l, e') => .ok (.lst true l, restE e e' own)
    let L : List D → List D → EnvD → Res (List D × EnvD) := loopL2 t cond ma1 t1 cond1 elt own own1
    refine ⟨fun i m H => m = ds.length - i ∧ i ≤ ds.length ∧ ∃ c acc e1, c.H = H ∧ GrowL G.C b c A acc ∧ e1.length = e.length ∧ RelE G c (wipe σ own) (wipeE e1 own) ∧
      PostR G W σ b ((L (ds.drop i) acc e1).bind K) fun d _ b => ∀ v, Rep G.C b 0 [] v d → Q v b.H, ⟨_, rfl, Nat.zero_le _, putA b A (.lst []), [], e, rfl, ?_, rfl, ?_, p⟩, ?_⟩
    · refine ⟨fun x o h t => ?_, putA_ok r.ok fA, fA, tA, ⟨[], upd_same, by simp [RepL]⟩, rfl⟩
      have ne : x ≠ A := by rintro rfl; rw [hA] at h; cases h
      exact ⟨by show upd b.H A _ x = _; rw [upd_ne ne]; exact h, t, rfl⟩
    · exact putA_rel (r.wiped ho) fA tA
    · rintro i m H ⟨rfl, hi, c, acc, e1, rfl, gl, hel, rc, pc⟩
      obtain ⟨hgo, hstop⟩ := hJ c gl.ok gl.st
      by_cases hlt : i < ds.length
      · obtain ⟨d, hd⟩ : ∃ d, ds[i]? = some d := ⟨_, List.getElem?_eq_getElem hlt⟩
        obtain ⟨h1, h2⟩ := hgo i d hd
        have hdrop : ds.drop i = d :: ds.drop (i + 1) := by
          rw [List.drop_eq_getElem_cons hlt]
          rw [List.getElem?_eq_getElem hlt] at hd
          cases hd; rfl
        have pc : PostR G W σ b ((loopL2 t cond ma1 t1 cond1 elt own own1 (ds.drop i) acc e1).bind K) fun d _ b => ∀ v, Rep G.C b 0 [] v d → Q v b.H := pc
        rw [hdrop] at pc
        simp only [loopL2] at pc
        refine .inr ⟨h1, fun H' => ∃ c acc e1, c.H = H' ∧ GrowL G.C b c A acc ∧ e1.length = e.length ∧ RelE G c (wipe σ own) (wipeE e1 own) ∧
          PostR G W σ b ((L (ds.drop (i + 1)) acc e1).bind K) fun d _ b => ∀ v, Rep G.C b 0 [] v d → Q v b.H, fun H' q => ⟨ds.length - (i + 1), by omega, rfl, hlt, q⟩, fun x H' y => ?_⟩
        obtain ⟨c1, rfl, gr, ok1, rp⟩ := h2 x H' y
        cases ht : mTg t d (wipeE e1 own) with
        | none => rw [ht] at pc; exact (show False from pc).elim
        | some e2 =>
          rw [ht] at pc
          dsimp only at pc
          have gl1 := gl.next gr.step ok1
          refine gT_mono t (ins_w t hown _ x c1.H (fun σ2 H2 => H2 = c1.H ∧ RelE G c1 σ2 e2) (tg_w t hf (rc.grow gr ok1) (fzL_mem z d (List.mem_of_getElem? hd)) rp ht fun σ2 r2 => ⟨rfl, r2⟩)) fun σ2 H2 ⟨hw, hH, r2⟩ => ?_
          subst hH
          rw [wipe_wipe] at hw
          refine ⟨hw, c1, e2, rfl, r2, ?_⟩
          have hlen : ∀ {c : Wd} {e' : EnvD}, RelE G c σ2 e' → e'.length = e.length := fun {c e'} r' => by
            have := congrArg List.length hw
            rw [wipe_length, wipe_length] at this
            rw [r'.len, this, r.len]
          cases hc : cond e2 with
          | bad => rw [hc] at pc; exact (show False from pc).elim
          | exc x e3 => rw [hc] at pc; exact (show False from pc).elim
          | ok be =>
            obtain ⟨bb, e3⟩ := be
            rw [hc] at pc
            intro c2 st2 r3
            cases bb with
            | false =>
              rw [if_neg Bool.false_ne_true]
              exact ⟨c2, acc, e3, rfl, gl1.next st2 r3.ok, hlen r3, r3.rewiped hw ho, pc⟩
            | true =>
              rw [if_pos rfl]
              dsimp only at pc
              cases hm : ma1 e3 with
              | bad => rw [hm] at pc; exact (show False from pc).elim
              | exc x e4 => rw [hm] at pc; exact (show False from pc).elim
              | ok xe =>
                obtain ⟨y, e4⟩ := xe
                rw [hm] at pc
                dsimp only at pc
                cases hs : (y.get e4).bind seq2 with
                | none => rw [hs] at pc; exact (show False from pc).elim
                | some ds1 =>
                  rw [hs] at pc
                  dsimp only at pc
                  split at pc
                  · rename_i hbd
                    rw [res_assoc] at pc
                    -- the inner loop
                    have inner : ∀ (c3 : Wd) (J1 : It), Step c2 c3 → RelE G c3 σ2 e4 → fzL ds1 = true → ItF G.C c3 ds1 J1 → ∃ W1 : Nat → Nat → Hp → Prop, (∃ m, W1 0 m c3.H) ∧ ∀ j k H, W1 j k H →
                        (J1.stop j H ∧ ∃ c acc e1, c.H = H ∧ GrowL G.C b c A acc ∧ e1.length = e.length ∧ RelE G c (wipe σ own) (wipeE e1 own) ∧ PostR G W σ b ((L (ds.drop (i + 1)) acc e1).bind K) fun d _ b => ∀ v, Rep G.C b 0 [] v d → Q v b.H) ∨
                        (J1.go j H ∧ ∃ Nx1 : Hp → Prop, (∀ H', Nx1 H' → ∃ k', k' < k ∧ W1 (j + 1) k' H') ∧ ∀ x H', J1.yld j H x H' → gT G.C.K t1 x (wipe σ2 own1) H' fun σ3 H5 => wipe σ3 own1 = wipe σ2 own1 ∧ tT G W0 cond1 σ3 H5 fun b H6 =>
                          if b = true then tE G W0 elt σ3 H6 fun y H7 => ∃ acc, H7 A = some (.lst acc) ∧ acc.length < sizeLine ∧ Nx1 (upd H7 A (.lst (acc ++ [y]))) else Nx1 H6) := by
                      intro c3 J1 st3 r4 z1 hJ1
                      have gl3 := (gl1.next st2 r3.ok).next st3 r4.ok
                      refine ⟨fun j k H => k = ds1.length - j ∧ j ≤ ds1.length ∧ ∃ c' acc' e', c'.H = H ∧ GrowL G.C b c' A acc' ∧ acc'.length ≤ acc.length + j ∧ e'.length = e.length ∧ FM c3 c' ∧ RelE G c' (wipe σ2 own1) (wipeE e' own1) ∧
                        PostR G W σ b ((loopL t1 cond1 elt own1 (ds1.drop j) acc' e').bind fun x => (L (ds.drop (i + 1)) x.1 x.2).bind K) fun d _ b => ∀ v, Rep G.C b 0 [] v d → Q v b.H,
                        ⟨_, rfl, Nat.zero_le _, c3, acc, e4, rfl, gl3, Nat.le_refl _, hlen r4, fun _ _ h => h, r4.wiped ho1, pc⟩, ?_⟩
                      rintro j k H ⟨rfl, hj, c', acc', e', rfl, gl', hacc', hel', fm, rc', pc'⟩
                      obtain ⟨hgo1, hstop1⟩ := hJ1 c' gl'.ok fm
                      by_cases hlt1 : j < ds1.length
                      · obtain ⟨d1, hd1⟩ : ∃ d, ds1[j]? = some d := ⟨_, List.getElem?_eq_getElem hlt1⟩
                        obtain ⟨k1, k2⟩ := hgo1 j d1 hd1
                        have hdrop1 : ds1.drop j = d1 :: ds1.drop (j + 1) := by
                          rw [List.drop_eq_getElem_cons hlt1]
                          rw [List.getElem?_eq_getElem hlt1] at hd1
                          cases hd1; rfl
                        rw [hdrop1] at pc'
                        simp only [loopL] at pc'
                        refine .inr ⟨k1, fun H' => ∃ c' acc' e', c'.H = H' ∧ GrowL G.C b c' A acc' ∧ acc'.length ≤ acc.length + (j + 1) ∧ e'.length = e.length ∧ FM c3 c' ∧ RelE G c' (wipe σ2 own1) (wipeE e' own1) ∧
                          PostR G W σ b ((loopL t1 cond1 elt own1 (ds1.drop (j + 1)) acc' e').bind fun x => (L (ds.drop (i + 1)) x.1 x.2).bind K) fun d _ b => ∀ v, Rep G.C b 0 [] v d → Q v b.H,
                          fun H' q => ⟨ds1.length - (j + 1), by omega, rfl, hlt1, q⟩, fun x H' y => ?_⟩
                        obtain ⟨rfl, rp1⟩ := k2 x H' y
                        cases ht1 : mTg t1 d1 (wipeE e' own1) with
                        | none => rw [ht1] at pc'; exact (show False from pc').elim
                        | some e5 =>
                          rw [ht1] at pc'
                          dsimp only at pc'
                          refine gT_mono t1 (ins_w t1 hown1 _ x c'.H (fun σ3 H2 => H2 = c'.H ∧ RelE G c' σ3 e5) (tg_w t1 hf1 rc' (fzL_mem z1 d1 (List.mem_of_getElem? hd1)) rp1 ht1 fun σ3 r2 => ⟨rfl, r2⟩)) fun σ3 H2 ⟨hw1, hH, r5⟩ => ?_
                          subst hH
                          rw [wipe_wipe] at hw1
                          refine ⟨hw1, c', e5, rfl, r5, ?_⟩
                          have hlen1 : ∀ {c : Wd} {e' : EnvD}, RelE G c σ3 e' → e'.length = e.length := fun {c e'} r' => by
                            have q1 := congrArg List.length hw1
                            have q2 := congrArg List.length hw
                            rw [wipe_length, wipe_length] at q1 q2
                            rw [r'.len, q1, q2, r.len]
                          cases hc1 : cond1 e5 with
                          | bad => rw [hc1] at pc'; exact (show False from pc').elim
                          | exc x e3 => rw [hc1] at pc'; exact (show False from pc').elim
                          | ok be =>
                            obtain ⟨b1, e6⟩ := be
                            rw [hc1] at pc'
                            intro c4 st4 r6
                            have fm4 : FM c3 c4 := fun x o h => st4.f gl'.ok (fm x o h)
                            cases b1 with
                            | false =>
                              show if false = true then _ else _
                              rw [if_neg Bool.false_ne_true]
                              exact ⟨c4, acc', e6, rfl, gl'.next st4 r6.ok, by omega, hlen1 r6, fm4, r6.rewiped hw1 ho1, pc'⟩
                            | true =>
                              show if true = true then _ else _
                              rw [if_pos rfl]
                              refine ⟨c4, e6, rfl, r6, ?_⟩
                              dsimp only at pc'
                              cases he : elt e6 with
                              | bad => rw [he] at pc'; exact (show False from pc').elim
                              | exc x e4 => rw [he] at pc'; exact (show False from pc').elim
                              | ok ye =>
                                obtain ⟨yy, e7⟩ := ye
                                rw [he] at pc'
                                intro c5 st5 r7 v rv
                                have gl5 := (gl'.next st4 r6.ok).next st5 r7.ok
                                obtain ⟨vs, q1, q2⟩ := gl5.h
                                obtain ⟨zy, rq⟩ := frzQ_rep (s := 0) (q := []) r7.ok rv
                                have glf := gl5.next (frzW_step (r := 0)) (frzW_ok r7.ok)
                                have gl6 := glf.push (vs := vs) hA q1 zy rq
                                refine ⟨vs, q1, ?_, putA (frzW c5 0) A (.lst (vs ++ [v])), acc' ++ [frzQ yy], e7, rfl, gl6, ?_, hlen1 r7, ?_, ?_, pc'⟩
                                · rw [q2.len]; exact small100k (by omega)
                                · rw [List.length_append]; simp only [List.length_cons, List.length_nil]; omega
                                · intro x o h
                                  have h5 : c5.F x = some o := st5.f r6.ok (fm4 x o h)
                                  exact (frzW_step (r := 0)).f r7.ok h5
                                · exact putA_rel ((r7.rewiped hw1 ho1).frz0) glf.f glf.t
                      · have e2 : j = ds1.length := by omega
                        subst e2
                        rw [List.drop_length] at pc'
                        refine .inl ⟨hstop1, c', acc', e', rfl, gl', hel', ?_, pc'⟩
                        have := rc'.wiped ho
                        rw [wipe_sub σ2 own1 hsub, wipeE_sub e' own1 hsub, hw] at this
                        exact this
                    cases hy : y.get e4 with
                    | none => rw [hy] at hs; cases hs
                    | some dd =>
                      rw [hy] at hs
                      have hs : seq2 dd = some ds1 := hs
                      match dd, hy, hs with
                      | .lst false l, hy, hs =>
                        simp only [seq2] at hs
                        split at hs
                        · rename_i z1; cases hs
                          refine .inl ⟨c2, e3, rfl, r3, ?_⟩
                          rw [hm]
                          intro c3 st3 r4 v ar
                          obtain ⟨r1, p1⟩ := ar.rep r4 hy
                          have p1' := p1
                          simp only [Rep] at p1'
                          obtain ⟨x2, vs, rfl, hx2, hl⟩ := p1'
                          rw [if_neg Bool.false_ne_true] at hx2
                          exact ⟨x2, rfl, ⟨_, SqL.of (r4.ok.sub _ _ hx2.1)⟩, inner c3 _ st3 r4 z1 (itF_lst r4.ok z1 hx2.1 hl)⟩
                        · cases hs
                      | .tup l, hy, hs =>
                        simp only [seq2] at hs
                        split at hs
                        · rename_i z1; cases hs
                          refine .inr ⟨c2, e3, rfl, r3, ?_⟩
                          rw [hm]
                          intro c3 st3 r4 v ar
                          obtain ⟨r1, p1⟩ := ar.rep r4 hy
                          have p1' := p1
                          simp only [Rep] at p1'
                          obtain ⟨x2, vs, rfl, hx2, hl⟩ := p1'
                          exact ⟨x2, rfl, ⟨_, sqt_mono r4.ok.sub hx2.sq⟩, inner c3 _ st3 r4 z1 (itF_tup r4.ok z1 hx2.sq hl)⟩
                        · cases hs
                  · exact (show False from pc).elim
      · have e2 : i = ds.length := by omega
        subst e2
        have pc : PostR G W σ b ((loopL2 t cond ma1 t1 cond1 elt own own1 (ds.drop ds.length) acc e1).bind K) fun d _ b => ∀ v, Rep G.C b 0 [] v d → Q v b.H := pc
        rw [List.drop_length] at pc
        refine .inl ⟨hstop, ?_⟩
        obtain ⟨vs, k1, k2⟩ := gl.h
        have pc : ∀ b', Step b b' → RelE G b' σ (restE e e1 own) → ∀ v, Rep G.C b' 0 [] v (.lst true acc) → Q v b'.H := pc
        have rel' := r.unwiped rc gl.st hel
        refine pc (tagA c A) (fun x o h t => ?_) ?_ (.ref A) ?_
        · obtain ⟨g1, g2, g3⟩ := gl.st x o h t
          have ne : x ≠ A := by rintro rfl; rw [hA] at h; cases h
          exact ⟨g1, by show (if x = A then some (0, []) else c.t x) = none; rw [if_neg ne]; exact g2, g3⟩
        · exact ⟨tagA_ok gl.ok gl.f k1, rel'.len, fun i d h => let ⟨v, e, q⟩ := rel'.slot i d h; ⟨v, e, tagA_to gl.t q⟩, rel'.prm⟩
        · simp only [Rep]
          refine ⟨A, vs, rfl, ?_, ?_⟩
          · rw [if_pos trivial]
            exact ⟨by show (if A = A then some (0, []) else c.t A) = _; rw [if_pos rfl], k1⟩
          · exact repL_to (fun d j v _ h => tagA_to gl.t h) gl.z k2
  · exact (show False from p).elim
end
end Mi
namespace Mi
open PySem PySem.Spec PyProof.Rows L2
/-! ### rules: two generators -/
section
variable {X : Cx} {G : Gm} {W : WX} {lv : Nat} {e tg tg1 iter1 : Expr} {m : EM D} {ma1 : EM Arg} {mt mt1 : EM Bool} {mi : EM (List D)} {pos p : Pos} {x : Str}
theorem ri_seq2 (s : St0 X G) (ha : PE X e (tArg G W ma1)) : PI X tg e (fun σ H R => iList G.C.K (tArg G W ma1) σ H R ∨ iTup G.C.K (tArg G W ma1) σ H R) := by
  have := pi_or (tg := tg) (pi_list ha) (pi_tup ha)
  rw [s.k] at this
  exact this
theorem r_lc2 {elt : Expr} {ifs ifs1 : List Expr} {scope : Scope} (s : Go X G W lv) (own : List (Str × Nat)) (own1 : List Nat) (t t1 : Tgt) (hio : Tgt.off G.io t) (hio1 : Tgt.off G.io t1) (hio2 : ∀ i ∈ G.io, i ∉ own.map (·.2)) (hown : Tgt.ins (own.map (·.2)) t) (hown1 : Tgt.ins own1 t1) (hsub : ∀ i ∈ own1, i ∈ own.map (·.2))
    (hi : PI X tg e (tI G W mi)) (ok : BlkOk X.N X.env.scope scope own)
    (hg : ∀ (s : Shared) (H : Hp) (C : Addr) (cl : List (Str × Addr)) (fp : List Addr), PG (X.blk s H scope (compEnvC scope cl C X.env) fp) tg (gT G.C.K t))
    (ht : ∀ (s : Shared) (H : Hp) (C : Addr) (cl : List (Str × Addr)) (fp : List Addr), Go (X.blk s H scope (compEnvC scope cl C X.env) fp) G W0 lv → PTs (X.blk s H scope (compEnvC scope cl C X.env) fp) ifs (tT G W0 mt))
    (hi1 : ∀ (s : Shared) (H : Hp) (C : Addr) (cl : List (Str × Addr)) (fp : List Addr), Go (X.blk s H scope (compEnvC scope cl C X.env) fp) G W0 lv → PE (X.blk s H scope (compEnvC scope cl C X.env) fp) iter1 (tArg G W0 ma1))
    (hg1 : ∀ (s : Shared) (H : Hp) (C : Addr) (cl : List (Str × Addr)) (fp : List Addr), PG (X.blk s H scope (compEnvC scope cl C X.env) fp) tg1 (gT G.C.K t1))
    (ht1 : ∀ (s : Shared) (H : Hp) (C : Addr) (cl : List (Str × Addr)) (fp : List Addr), Go (X.blk s H scope (compEnvC scope cl C X.env) fp) G W0 lv → PTs (X.blk s H scope (compEnvC scope cl C X.env) fp) ifs1 (tT G W0 mt1))
    (he : ∀ (s : Shared) (H : Hp) (C : Addr) (cl : List (Str × Addr)) (fp : List Addr), Go (X.blk s H scope (compEnvC scope cl C X.env) fp) G W0 lv → PE (X.blk s H scope (compEnvC scope cl C X.env) fp) elt (tE G W0 m)) (hs : ∀ x, foldedSetIterable e X.env x = pure x := by intro _; rfl) (hs1 : ∀ env x, foldedSetIterable iter1 env x = pure x := by intro _ _; rfl) :
    PE X (.ListComp elt [⟨tg, e, ifs, 0⟩, ⟨tg1, iter1, ifs1, 0⟩] scope pos) (tE G W (mLc2 mi t mt ma1 t1 mt1 m (own.map (·.2)) own1)) :=
  (pe_lc2 s.cm s.n hi ok hsub hg (fun s0 H C cl fp => ht s0 H C cl fp (s.blk ..)) (fun s0 H C cl fp => ri_seq2 (s.blk ..).toSt0 (hi1 s0 H C cl fp (s.blk ..))) hg1 (fun s0 H C cl fp => ht1 s0 H C cl fp (s.blk ..)) (fun s0 H C cl fp => he s0 H C cl fp (s.blk ..)) hs hs1).weak fun _ _ _ q => lc2_w hio hio1 hio2 hown hown1 hsub q
theorem rs_lc2 {elt : Expr} {ifs ifs1 : List Expr} {scope : Scope} {py : Pos} (s : Go X G W lv) (i : Nat) (own : List (Str × Nat)) (own1 : List Nat) (t t1 : Tgt) (hioi : i ∉ G.io) (hio : Tgt.off G.io t) (hio1 : Tgt.off G.io t1) (hio2 : ∀ i ∈ G.io, i ∉ own.map (·.2)) (hown : Tgt.ins (own.map (·.2)) t) (hown1 : Tgt.ins own1 t1) (hsub : ∀ i ∈ own1, i ∈ own.map (·.2))
    (hy : X.N[i]? = some x) (hyl : X.env.scope.names.lookup x = some .local) (hsw : swapsWith (.ListComp elt [⟨tg, e, ifs, 0⟩, ⟨tg1, iter1, ifs1, 0⟩] scope p) (some (.Name x py)) pos.line X.env = pure true) (hi : PI X tg e (tI G W mi)) (ok : BlkOk X.N X.env.scope scope own)
    (hg : ∀ (s : Shared) (H : Hp) (C : Addr) (cl : List (Str × Addr)) (fp : List Addr), PG (X.blk s H scope (compEnvC scope cl C X.env) fp) tg (gT G.C.K t))
    (ht : ∀ (s : Shared) (H : Hp) (C : Addr) (cl : List (Str × Addr)) (fp : List Addr), Go (X.blk s H scope (compEnvC scope cl C X.env) fp) G W0 lv → PTs (X.blk s H scope (compEnvC scope cl C X.env) fp) ifs (tT G W0 mt))
    (hi1 : ∀ (s : Shared) (H : Hp) (C : Addr) (cl : List (Str × Addr)) (fp : List Addr), Go (X.blk s H scope (compEnvC scope cl C X.env) fp) G W0 lv → PE (X.blk s H scope (compEnvC scope cl C X.env) fp) iter1 (tArg G W0 ma1))
    (hg1 : ∀ (s : Shared) (H : Hp) (C : Addr) (cl : List (Str × Addr)) (fp : List Addr), PG (X.blk s H scope (compEnvC scope cl C X.env) fp) tg1 (gT G.C.K t1))
    (ht1 : ∀ (s : Shared) (H : Hp) (C : Addr) (cl : List (Str × Addr)) (fp : List Addr), Go (X.blk s H scope (compEnvC scope cl C X.env) fp) G W0 lv → PTs (X.blk s H scope (compEnvC scope cl C X.env) fp) ifs1 (tT G W0 mt1))
    (he : ∀ (s : Shared) (H : Hp) (C : Addr) (cl : List (Str × Addr)) (fp : List Addr), Go (X.blk s H scope (compEnvC scope cl C X.env) fp) G W0 lv → PE (X.blk s H scope (compEnvC scope cl C X.env) fp) elt (tE G W0 m)) (hs : ∀ x, foldedSetIterable e X.env x = pure x := by intro _; rfl) (hs1 : ∀ env x, foldedSetIterable iter1 env x = pure x := by intro _ _; rfl) :
    PS X (.Assign [.Name x py] (.ListComp elt [⟨tg, e, ifs, 0⟩, ⟨tg1, iter1, ifs1, 0⟩] scope p) pos) (tS G W (mAsg i (mLc2 mi t mt ma1 t1 mt1 m (own.map (·.2)) own1))) :=
  (ps_setLc2 s.cm s.n hy hyl hsw hi ok hsub hg (fun s0 H C cl fp => ht s0 H C cl fp (s.blk ..)) (fun s0 H C cl fp => ri_seq2 (s.blk ..).toSt0 (hi1 s0 H C cl fp (s.blk ..))) hg1 (fun s0 H C cl fp => ht1 s0 H C cl fp (s.blk ..)) (fun s0 H C cl fp => he s0 H C cl fp (s.blk ..)) hs hs1).weak fun D σ H q => by
    obtain ⟨a, env, h1, rel, post⟩ := asg_w hioi q
    exact lc2_w hio hio1 hio2 hown hown1 hsub ⟨a, env, h1, rel, post⟩
end
end Mi
namespace Mi
open PySem PySem.Spec PyProof.Rows L2
/-! ### more of lists: sorted of a tuple, list of a text, reverse, insert, isinstance of two types, xs[::-1] -/
section
variable {X : Cx}
theorem call_sortedTup : CallR X (.builtin "sorted") (fun xs H Q => ∃ (a : Addr) (ks : List Str), xs = [.ref a] ∧ SqT X.K H a (ks.map V.str) ∧ ks.length < 64 ∧
    ∀ ys p, ys.Perm ks → sortedS ys = true → H p = none → Q (.ref p) (upd H p (.lst (ys.map V.str)))) := by
  intro pins s σ H xs us Q I r q
  obtain ⟨a, ks, ex, hd, h64, q⟩ := q
  subst ex
  obtain ⟨u, eu, rx⟩ := vals1 r
  subst eu
  cases rx
  obtain ⟨its, rv, pl, hz⟩ := I.tuple hd
  obtain ⟨o, ho, hc, n, hdt⟩ := pl
  have hlen0 := rv.length
  rw [List.length_map] at hlen0
  refine Calls.call_function_entry PyProof.Rows.kind_sorted PyProof.Rows.plain_sorted PyProof.Rows.entry_sorted (PyProof.Rows.args_sorted1 _) ?_
  unfold Builtin.«sorted»
  refine wpAny_bind (m := checkCount "sorted" 1 1 _) (wpAny_pure ?_)
  refine wpAny_bind (wpAny_collect_seq a (.inr rfl) ho hc hdt (fun h' hk => ?_) (by rw [List.size_toArray, ← hlen0, sizeLine_eq]; omega))
  have hS : StrsAre its ks := rv.strs
  have hal : its.length = ks.length := hlen0.symm
  have I1 : Inv X pins σ H { s with heap := h' } := I.kept (t' := s.toks) hk
  rw [show its.toArray.toList = its from rfl]
  refine wpAny_bind (wpAny_newList ?_ (by rw [hal, sizeLine_eq]; omega))
  have hoL : (h'.push (seqObj "list" its.toArray 0)).get? h'.objs.size = some (seqObj "list" its.toArray 0) := Heap.get?_push_size _ rfl
  show wpAny _ _ _ _ _ { s with heap := h'.push (seqObj "list" its.toArray 0) }
  refine wpAny_bind (wpAny_holding (wpAny_call_entry PyProof.Rows.slot_list_sort ⟨_, hoL, rfl⟩ PyProof.Rows.entry_list_sort
    (PyProof.Rows.list_sort_treeK PyProof.Rows.strKind_oneLt (s := { s with heap := h'.push (seqObj "list" its.toArray 0) }) hoL hS.keysOf (fun v₁ v₂ rest e => PyProof.Rows.keyKind_strs (by rw [← e]; exact hS)) (by rw [hal]; exact h64) fun st' hp hs => ⟨_, rfl, ?_⟩)
    (PyProof.Rows.args_list_sort _)))
  obtain ⟨ys, g1, g2, g3⟩ := PyProof.Rows.sorted_out_str hS hp hs
  obtain ⟨e', he'⟩ := PyProof.Rows.sortedHeap_at (vs := its) (out := (PyProof.Rows.arrOf st').map (·.2)) hoL
  have hlen : (ys.map V.str).length ≤ sizeLine := by
    rw [List.length_map, g2.length_eq, sizeLine_eq]; omega
  refine wpAny_pure ⟨_, rfl, .ref h'.objs.size, upd H h'.objs.size (.lst (ys.map V.str)), I1.laid (t' := s.toks) (fun b u e => ?_) (Nat.le_refl _)
    (show ObjOk X.prog X.w _ _ _ (.lst (ys.map V.str)) from ⟨hlen, ((PyProof.Rows.arrOf st').map (·.2)).toList, e', vals_of_strs g1, by rw [Array.toArray_toList]; exact he'⟩), rfl, q ys _ g2 g3 (I1.hok.fresh (Nat.le_refl _))⟩
  have hb : b < h'.objs.size := Heap.lt_size e
  rw [PyProof.Rows.sortedHeap_old (Nat.ne_of_lt hb) (by rw [PyProof.Rows.size_push']; exact Nat.lt_succ_of_lt hb)]
  exact Heap.get?_push_of_some _ e
theorem vals_signs {x : Str} {acc : Array Value} (h : ItemsOf (SignAt x) acc x.cps.size) : Vals (x.cps.toList.map fun c => V.str ⟨#[c]⟩) acc.toList := by
  have gen : ∀ (l : List Nat) (m : List Value), l.length = m.length → (∀ (j : Nat) (v : Value), m[j]? = some v → ∃ (c : Nat) (u : Tok), l[j]? = some c ∧ v = Value.str ⟨#[c]⟩ u) → Vals (l.map fun c => V.str ⟨#[c]⟩) m := by
    intro l
    induction l with
    | nil => intro m hl _; cases m with
      | nil => exact .nil
      | cons _ _ => simp at hl
    | cons c l ih =>
      intro m hl hm
      cases m with
      | nil => simp at hl
      | cons v m =>
        obtain ⟨c', u, e1, e2⟩ := hm 0 v rfl
        cases e1
        rw [List.map_cons]
        refine .cons ⟨u, e2⟩ (ih m (by simpa using hl) fun j v hj => ?_)
        obtain ⟨c', u, e1, e2⟩ := hm (j + 1) v (by simpa using hj)
        exact ⟨c', u, by simpa using e1, e2⟩
  refine gen _ _ (by simp [h.1]) fun j v hj => ?_
  obtain ⟨c, u, e1, e2⟩ := h.2 j v (by simpa using hj)
  exact ⟨c, u, by simpa using e1, e2⟩
theorem call_listSt (hc : X.calm = true) : CallR X (.type "list") (fun xs H Q => ∃ z : Str, xs = [.str z] ∧ z.length ≤ 1000 ∧ ∀ p, H p = none → Q (.ref p) (upd H p (.lst (z.cps.toList.map fun c => V.str ⟨#[c]⟩)))) := by
  intro pins s σ H xs us Q I r q
  obtain ⟨z, ex, hz, q⟩ := q
  subst ex
  obtain ⟨u, eu, t, rfl⟩ := vals1 r
  subst eu
  have hz' : z.cps.size ≤ 1000 := hz
  refine PySem.call_list_str (I.ok.hd hc) z t (fun h' tk acc' c' hk ho hi => ?_) (by rw [sizeLine_eq]; omega)
  have hv := vals_signs hi
  refine ⟨.ref s.heap.objs.size, upd H s.heap.objs.size (.lst (z.cps.toList.map fun c => V.str ⟨#[c]⟩)), I.laid (t' := tk) hk (Nat.le_refl _)
    (show ObjOk X.prog X.w _ _ _ (.lst _) from ⟨by rw [List.length_map, Array.length_toList, sizeLine_eq]; omega, acc'.toList, c', hv, by rw [Array.toArray_toList]; exact ho⟩), rfl, q _ (I.hok.fresh (Nat.le_refl _))⟩
end
def sortX : List D → Option D
  | [.tup l] => match strsOf l with
    | some ys => if ys.length < 64 then some (.lst true ((sortS ys).map .str)) else none
    | none => none
  | ds => sortD ds
theorem call_sortX {X : Cx} {C : KM} (hC : C.K = X.K) : CallR X (.builtin "sorted") (cD C sortX) := by
  intro pins s σ H xs us Q I r h
  obtain ⟨a, ds, d, rfl, k, ps, hd, q⟩ := h
  match ds, hd, ps with
  | [.tup l], hd, ps =>
    simp only [sortX] at hd
    cases hl : strsOf l with
    | none => rw [hl] at hd; cases hd
    | some ys =>
      rw [hl] at hd
      dsimp only at hd
      split at hd
      · rename_i hz; cases hd
        obtain ⟨v, rfl, r1, p1⟩ := one_rep ps
        obtain ⟨y, vs, rfl, h1, h2⟩ := rep_tup k p1
        rw [strs_rep hl h2, hC] at h1
        refine call_sortedTup pins s σ a.H _ us Q I r ⟨y, ys, rfl, h1, hz, fun zs p hp hs hn => ?_⟩
        rw [sort_one hp hs]
        exact new_lst k (fzL_strs _) (repL_strs (C := C) (a := a) (r := 0) (p := []) _ 0) q p hn
      · cases hd
  | [.lst o l], hd, ps => exact call_sortD pins s σ a.H xs us Q I r ⟨a, _, d, rfl, k, ps, hd, q⟩
def listY : List D → Option D
  | [.str s] => if s.length ≤ 1000 then some (.lst true (s.cps.toList.map fun c => .str ⟨#[c]⟩)) else none
  | ds => listX ds
theorem repL_signs {C : KM} {a : Wd} {r : Nat} {p : List Nat} : ∀ (l : List Nat) (n : Nat), RepL C a r p n (l.map fun c => V.str ⟨#[c]⟩) (l.map fun c => D.str ⟨#[c]⟩)
  | [], n => by simp [RepL]
  | c :: l, n => ⟨.str ⟨#[c]⟩, l.map fun c => V.str ⟨#[c]⟩, rfl, by simp [Rep], repL_signs l (n + 1)⟩
theorem call_listY {X : Cx} {C : KM} (hC : C.K = X.K) (hc : X.calm = true) : CallR X (.type "list") (cD C listY) := by
  intro pins s σ H xs us Q I r h
  obtain ⟨a, ds, d, rfl, k, ps, hd, q⟩ := h
  match ds, hd, ps with
  | [.str z], hd, ps =>
    simp only [listY] at hd
    split at hd
    · rename_i hz; cases hd
      obtain ⟨v, rfl, r1, p1⟩ := one_rep ps
      cases rep_str p1
      exact call_listSt hc pins s σ a.H _ us Q I r ⟨z, rfl, hz, new_lst k (fzL_map _ (fun _ => by simp [fz]) _) (repL_signs (C := C) (a := a) (r := 0) (p := []) _ 0) q⟩
    · cases hd
  | [.lst o l], hd, ps => exact call_listX hC hc pins s σ a.H xs us Q I r ⟨a, _, d, rfl, k, ps, hd, q⟩
  | [.tup l], hd, ps => exact call_listX hC hc pins s σ a.H xs us Q I r ⟨a, _, d, rfl, k, ps, hd, q⟩
  | [.scr l], hd, ps => exact call_listX hC hc pins s σ a.H xs us Q I r ⟨a, _, d, rfl, k, ps, hd, q⟩
  | [.dic o l m], hd, ps => exact call_listX hC hc pins s σ a.H xs us Q I r ⟨a, _, d, rfl, k, ps, hd, q⟩
end Mi
namespace Mi
open PySem PySem.Spec PyProof.Rows L2
/-! ### reverse, insert -/
theorem repL_of {C : KM} {a : Wd} {r : Nat} {p : List Nat} : ∀ {l : List D} {n : Nat} {vs : List V}, fzL l = true → vs.length = l.length → (∀ (i : Nat) (d : D) (v : V), l[i]? = some d → vs[i]? = some v → ∃ s q, Rep C a s q v d) → RepL C a r p n vs l
  | [], n, vs, _, hl, _ => by
    have : vs = [] := List.length_eq_zero_iff.mp hl
    subst this
    simp [RepL]
  | d :: l, n, [], _, hl, _ => by simp at hl
  | d :: l, n, v :: vs, z, hl, h => by
    simp only [fzL, Bool.and_eq_true] at z
    obtain ⟨s, q, h0⟩ := h 0 d v rfl rfl
    exact ⟨v, vs, rfl, Rep.fz (a := a) (b := a) (fun _ _ h => h) d q _ v z.1 h0, repL_of z.2 (by simpa using hl) fun i d v e1 e2 => h (i + 1) d v (by simpa using e1) (by simpa using e2)⟩
theorem repL_at {C : KM} {a : Wd} {r : Nat} {p : List Nat} {l : List D} {n : Nat} {vs : List V} (h : RepL C a r p n vs l) {i : Nat} {d : D} {v : V} (e1 : l[i]? = some d) (e2 : vs[i]? = some v) : ∃ s q, Rep C a s q v d := by
  obtain ⟨w, h1, h2⟩ := h.get e1
  rw [e2] at h1; cases h1
  exact ⟨_, _, h2⟩
theorem fzL_rev {l : List D} (h : fzL l = true) : fzL l.reverse = true := fzL_all fun d hd => fzL_mem h d (List.mem_reverse.mp hd)
theorem repL_rev {C : KM} {a : Wd} {r s : Nat} {p q : List Nat} {l : List D} {n m : Nat} {vs : List V} (z : fzL l = true) (h : RepL C a r p n vs l) : RepL C a s q m vs.reverse l.reverse := by
  refine repL_of (fzL_rev z) (by rw [List.length_reverse, List.length_reverse, h.len]) fun i d v e1 e2 => ?_
  have hi : i < l.length := by have := (List.getElem?_eq_some_iff.mp e1).1; simpa using this
  have hi2 : i < vs.length := by have := (List.getElem?_eq_some_iff.mp e2).1; simpa using this
  rw [List.getElem?_reverse hi] at e1
  rw [List.getElem?_reverse hi2] at e2
  rw [h.len] at e2
  exact repL_at h e1 e2
def revF (l ds : List D) : Option (D × List D) := match ds with
  | [] => if fzL l = true then some (.non, l.reverse) else none
  | _ => none
section
variable {C : KM}
theorem met_rev : MetOk C rReverse revF := fun a x vs us l ds d l' n s p Q k hx hl ps hf q => by
  match ds, hf, ps with
  | [], hf, ps =>
    simp only [revF] at hf
    split at hf
    · rename_i z; cases hf
      cases ps
      exact ⟨x, vs, rfl, rfl, hx, q .non _ 0 0 [] (fzL_rev z) (repL_rev z hl) ⟨0, [], by simp [fz], by simp [Rep]⟩⟩
    · cases hf
theorem met_ins : MetOk C (fun x vs H Q => ∃ (l : Addr) (xs : List V) (i : Int) (y : V), x = .ref l ∧ vs = [.int i, y] ∧ H l = some (.lst xs) ∧ xs.length < sizeLine ∧ 0 ≤ i ∧ i < 2 ^ 63 ∧ Q .non (upd H l (.lst (xs.take i.toNat ++ [y] ++ xs.drop i.toNat)))) insF := fun a x vs us l ds d l' n s p Q k hx hl ps hf q => by
  match ds, hf, ps with
  | [.int i, y], hf, ps =>
    simp only [insF] at hf
    split at hf
    · rename_i z; cases hf
      obtain ⟨z1, z2, z3, z4, z5⟩ := z
      obtain ⟨v, u, rfl, ⟨r1, p1⟩, ⟨r2, p2⟩⟩ := two_rep ps
      cases rep_int p1
      have zt : fzL (l.take i.toNat ++ [y] ++ l.drop i.toNat) = true := fzL_all fun d hd => by
        rcases List.mem_append.mp hd with hd | hd
        · rcases List.mem_append.mp hd with hd | hd
          · exact fzL_mem z1 d (List.mem_of_mem_take hd)
          · rw [List.mem_singleton] at hd; subst hd; exact z2
        · exact fzL_mem z1 d (List.mem_of_mem_drop hd)
      refine ⟨x, vs, i, u, rfl, rfl, hx, by rw [hl.len, szl]; omega, z3, z4, q .non _ 0 0 [] zt (repL_of zt (by simp [hl.len]) fun j d v e1 e2 => ?_) ⟨0, [], by simp [fz], by simp [Rep]⟩⟩
      have ht : (vs.take i.toNat).length = (l.take i.toNat).length := by simp [hl.len]
      rw [List.append_assoc] at e1 e2
      by_cases h1 : j < (l.take i.toNat).length
      · rw [List.getElem?_append_left h1] at e1
        rw [List.getElem?_append_left (by omega)] at e2
        rw [List.getElem?_take] at e1 e2
        split at e1
        · rename_i h; rw [if_pos h] at e2; exact repL_at hl e1 e2
        · cases e1
      · rw [List.getElem?_append_right (by omega)] at e1
        rw [List.getElem?_append_right (by omega), ht] at e2
        generalize j - (l.take i.toNat).length = m at e1 e2
        cases m with
        | zero => cases e1; cases e2; exact ⟨_, _, p2⟩
        | succ m =>
          simp only [List.singleton_append, List.getElem?_cons_succ, List.getElem?_drop] at e1 e2
          exact repL_at hl e1 e2
    · cases hf
end
section
variable {X : Cx} {G : Gm} {W : WX} {lv : Nat} {a b e o : Expr} {es : List Expr} {ma : EM Arg} {mas : EM (List Arg)} {m : EM D} {apos cpos p : Pos} {x : Str}
theorem r_insert (s : St0 X G) (j : Nat) (hN : X.N[j]? = some x) (hv : Vis X.env.scope x) (ha : PA X [e, a] (tArgs G W mas)) (hd : (x == ("__debug__" : Str)) = false := by decide) (hcd : (x == ("__classdict__" : Str)) = false := by decide)
    (hbase : attributeBase (.Name x p) "insert" X.env (eval (.Name x p) X.env) = eval (.Name x p) X.env := by rfl) (hfew : ((backTo cpos (starEach [e, a] X.env)).all (fun x => !x.1) && (backToKw cpos (keywordEach [] X.env)).all (fun x => x.1.isSome)
      && decide ([e, a].length + ([] : List Keyword).length + (if ([] : List Keyword).isEmpty then 0 else 1) < 30)) = true := by rfl) (hline : (apos.endLine == cpos.line) = true := by rfl) (hs : starEach [e, a] X.env = (false, eval e X.env) :: starEach [a] X.env := by rfl) (hplain : (backTo cpos (starEach [a] X.env)).any (·.1) = false := by rfl) :
    PE X (.Call (.Attribute (.Name x p) "insert" apos) [e, a] [] cpos) (tE G W (mMet j mas insF)) :=
  (pe_bm PySem.F.plainAttrs_list PySem.F.slot_list_insert PySem.F.type_list_insert mt_insert (pe_var hN hv hd hcd) ha hbase hfew hline hs hplain).weak fun _ _ _ q => by
    have := met_w met_ins q
    rw [s.k]; exact this
theorem r_reverse (s : St0 X G) (j : Nat) (hN : X.N[j]? = some x) (hv : Vis X.env.scope x) (hd : (x == ("__debug__" : Str)) = false := by decide) (hcd : (x == ("__classdict__" : Str)) = false := by decide)
    (hbase : attributeBase (.Name x p) "reverse" X.env (eval (.Name x p) X.env) = eval (.Name x p) X.env := by rfl) (hline : (apos.endLine == cpos.line) = true := by rfl) :
    PE X (.Call (.Attribute (.Name x p) "reverse" apos) [] [] cpos) (tE G W (mMet j (mArgs []) revF)) :=
  (pe_bm0 PySem.F.plainAttrs_list PySem.F.slot_list_reverse PySem.F.type_list_reverse mt_reverse (pe_var hN hv hd hcd) hbase hline).weak fun σ H Q q => by
    obtain ⟨v, h1, ty, a, env, rfl, rel, post⟩ := met_w met_rev q
    refine ⟨v, h1, by rw [s.k]; exact ty, ?_⟩
    exact post a (Step.refl a) rel [] .nil
end
/-! ### xs[::-1] of a list -/
def revD : D → Option D
  | .lst _ l => if fzL l = true then some (.lst true l.reverse) else none
  | _ => none
section
variable {X : Cx} {G : Gm} {W : WX} {σ : L2.St} {H : Hp} {Q : VK} {e : Expr} {ma : EM Arg}
theorem r_revL (s : St0 X G) {k : Nat} {p1 p2 p3 pos : Pos} (ha : PE X e (tArg G W ma)) : PE X (.Subscript e (.Slice none none (some (.UnaryOp .USub (.Constant (.int 1) k p1) p2)) p3) pos) (tE G W (mUn revD ma)) :=
  (pe_revL ha).weak fun σ H Q q => by
    obtain ⟨a, env, rfl, rel, post⟩ := q
    refine tArg_of rel post fun x e b v st r ar p => ?_
    dsimp only at p
    cases hx : x.get e with
    | none => rw [hx] at p; exact (show False from p).elim
    | some d =>
      rw [hx] at p
      dsimp only at p
      obtain ⟨d', hd, k'⟩ := p.lift r
      obtain ⟨r1, p1⟩ := ar.rep r hx
      match d, hd, p1 with
      | .lst o l, hd, p1 =>
        simp only [revD] at hd
        split at hd
        · rename_i z; cases hd
          obtain ⟨y, vs, rfl, h1, h2⟩ := rep_lst r.ok p1
          exact ⟨y, vs, rfl, SqL.of h1, new_lst r.ok (fzL_rev z) (repL_rev (s := 0) (q := []) (m := 0) z h2) fun z c gr ok rp => k' c gr ok z rp⟩
        · cases hd
end
/-! ### isinstance of two types -/
def isK2 (k k2 : TyK) (d : D) : Option D := match isK k d, isK k2 d with
  | some a, some b => some (.bl (a || b))
  | _, _ => none
section
variable {X : Cx} {G : Gm} {W : WX} {σ : L2.St} {H : Hp} {Q : VK} {a : Expr} {ma : EM Arg}
theorem isi2_w {k k2 : TyK} (h : tE G W (mUn (isK2 k k2) ma) σ H Q) : tCB (rIsiT G.C.K) (tCons (tArg G W ma) (tCons (tTup (tCons (tC (.ty k.nm)) (tCons (tC (.ty k2.nm)) tNil))) tNil)) σ H Q := by
  obtain ⟨a, env, rfl, rel, post⟩ := h
  refine tArg_of rel post fun x e b v st r ar p => ?_
  dsimp only at p
  cases hx : x.get e with
  | none => rw [hx] at p; exact (show False from p).elim
  | some d =>
    rw [hx] at p
    dsimp only at p
    obtain ⟨d', hd, k'⟩ := p.lift r
    obtain ⟨r1, p1⟩ := ar.rep r hx
    unfold isK2 at hd
    cases h1 : isK k d with
    | none => rw [h1] at hd; cases hd
    | some b1 =>
      cases h2 : isK k2 d with
      | none => rw [h1, h2] at hd; cases hd
      | some b2 =>
        rw [h1, h2] at hd; cases hd
        obtain ⟨t, g1, g2⟩ := isK_kit h1
        obtain ⟨t', g3, g4⟩ := isK_kit h2
        rw [g1] at g3; cases g3
        refine ⟨by rw [szl]; show 2 ≤ _; omega, fun T hT => ?_⟩
        obtain ⟨gr, ok⟩ := grow_o (o := .tup [.ty k.nm, .ty k2.nm]) (0, []) r.ok hT
        refine ⟨v, T, [.ty k.nm, .ty k2.nm], .type t, [.type k.nm, .type k2.nm], b1 || b2, rfl, upd_same, .cons (.ty _) (.cons (.ty _) .nil), rep_ty ok g1 (p1.grow r.ok gr), ?_, k' _ gr ok _ rep_ofbl⟩
        refine kitAny_cons (kit_ty g2) (fun hb => ?_) (fun hb => by rw [hb]; rfl)
        subst hb
        exact kitAny_cons (kit_ty g4) (fun hb => by subst hb; exact kitAny_nil) (fun hb => by rw [hb]; rfl)
theorem r_isi2 (s : St0 X G) (k k2 : TyK) {tn tn2 : Str} {p pos p3 p4 p5 : Pos} {kk : Nat} (ha : PE X a (tArg G W ma)) (h1 : G.C.mg "isinstance" = none) (h2 : G.C.mg tn = none) (h3 : G.C.mg tn2 = none) (hg : Gl X "isinstance") (hgt : Gl X tn) (hgt2 : Gl X tn2) (hv : bootBuiltins tn = some (.type k.nm)) (hv2 : bootBuiltins tn2 = some (.type k2.nm)) (hv1 : bootBuiltins "isinstance" = some (.builtin "isinstance"))
    (hn : tn ≠ "__name__" := by decide) (hd : (tn == ("__debug__" : Str)) = false := by decide) (hn2 : tn2 ≠ "__name__" := by decide) (hd2 : (tn2 == ("__debug__" : Str)) = false := by decide)
    (hs : starEach [a, .Tuple [.Name tn p3, .Name tn2 p4] kk p5] X.env = (false, eval a X.env) :: starEach [.Tuple [.Name tn p3, .Name tn2 p4] kk p5] X.env := by rfl) (hs2 : starEach [.Tuple [.Name tn p3, .Name tn2 p4] kk p5] X.env = (false, eval (.Tuple [.Name tn p3, .Name tn2 p4] kk p5) X.env) :: starEach [] X.env := by rfl)
    (hpl : (backTo pos (starEach [Expr.Tuple [.Name tn p3, .Name tn2 p4] kk p5] X.env)).any (·.1) = false := by rfl) :
    PE X (.Call (.Name "isinstance" p) [a, .Tuple [.Name tn p3, .Name tn2 p4] kk p5] [] pos) (tE G W (mUn (isK2 k k2) ma)) :=
  (pe_callB call_isiT hg (by rw [s.m]; exact h1) hv1 (pa_cons ha (pa_cons (pe_tup (pa_cons (pe_bltn hgt (by rw [s.m]; exact h2) hv (show RelV (.ty k.nm) _ from rfl) hn hd) (pa_cons (pe_bltn hgt2 (by rw [s.m]; exact h3) hv2 (show RelV (.ty k2.nm) _ from rfl) hn2 hd2) pa_nil))) pa_nil hs2) hs) (by decide) (by decide) hs hpl).weak fun _ _ _ q => by
    have := isi2_w q
    rw [s.k]; exact this
end
end Mi
namespace Mi
open PySem PySem.Spec PyProof.Rows L2
/-! ### enumerate of a tuple -/
theorem meets_enumT (l : Addr) (items : Array Value) (n : Nat) (dct : Option Addr) (sl : Array (Option Value)) :
    Meets (Builtin.«enumerate.__new__» ⟨[.type "enumerate", .ref l], []⟩) (fun _ R s => s.heap.get? l = some { cls := .type "tuple", dict := dct, data := .seq items n, slots := sl } ∧
      R (.ok (.ret (.ref (s.heap.push { cls := .type "tuple_iterator", data := .fields #[.ref l, .int 0 0] }).objs.size)))
        { s with heap := (s.heap.push { cls := .type "tuple_iterator", data := .fields #[.ref l, .int 0 0] }).push { cls := .type "enumerate", data := .fields #[.none, .bool false, .ref s.heap.objs.size, rawInt 0, .none, .none] } }) :=
  .of_wp fun prog w A R s h => by
    obtain ⟨hp, g, d, tk, os⟩ := s; obtain ⟨hl, h⟩ := h
    have hsub := sub_enumerate
    have hL : Heap.IsTuple (Shared.heap ⟨hp, g, d, tk, os⟩) l items := ⟨_, hl, rfl, n, rfl⟩
    have q1 : ∀ {A' : Around} {E : Value → Shared → Prop} {Q : Value → Shared → Prop}, Q (.ref hp.objs.size) ⟨hp.push { cls := .type "tuple_iterator", data := .fields #[.ref l, .int 0 0] }, g, d, tk, os⟩ → wpAny (model prog w) A' (pyIter (.ref l)) Q E ⟨hp, g, d, tk, os⟩ :=
      fun q => (begins_tuple l items).iter prog w _ _ ⟨hp, g, d, tk, os⟩ _ hL q
    wp_walk using AutoSeq1.wpAny_loadPart' hl, q1
    refine wpAny_stack_any fun st => wpAny_pure ?_
    split
    · rename_i c _ _ _ _ _
      cases (c == Value.type "enumerate")
      · wp_walk using AutoSeq1.wpAny_loadPart' hl, q1
        exact ⟨_, rfl, h⟩
      · wp_walk using AutoSeq1.wpAny_loadPart' hl, q1
        exact ⟨_, rfl, h⟩
    · wp_walk using AutoSeq1.wpAny_loadPart' hl, q1
      exact ⟨_, rfl, h⟩
theorem call_enumT {prog : Program} {w : World} {A : Around} {E : Value → Shared → Prop} {s : Shared} {l : Addr} {items : Array Value} {Q : Value → Shared → Prop} (hL : s.heap.IsTuple l items)
    (h : ∀ h', IsEnum h' (s.heap.objs.size + 1) s.heap.objs.size 0 .none → h'.IsTupleIter s.heap.objs.size l 0 → h'.objs.size = s.heap.objs.size + 2 →
      (∀ b o, s.heap.get? b = some o → h'.get? b = some o) → Q (.ref (s.heap.objs.size + 1)) { s with heap := h' }) :
    wpAny (model prog w) A (call (.type "enumerate") [.ref l]) Q E s := by
  obtain ⟨⟨c, dct, dt, sl⟩, hl, hc, n, hd⟩ := hL
  replace hc : c = .type "tuple" := hc
  replace hd : dt = .seq items n := hd
  subst hc hd
  refine callType_new PySem.F.called_enumerate (by decide) (PySem.F.typeCall_enumerate_1 _) (PySem.F.newCall_enumerate_1 _) (fun obj => PySem.F.args_object_init_2 obj _) PySem.F.entry_enumerate_new
    (meets_enumT l items n dct sl) ⟨hl, ?_⟩
  have hz : (s.heap.push { cls := .type "tuple_iterator", data := .fields #[.ref l, .int 0 0] }).objs.size = s.heap.objs.size + 1 := Heap.size_push ..
  show _ ∧ _
  rw [hz]
  have he : IsEnum ((s.heap.push { cls := .type "tuple_iterator", data := .fields #[.ref l, .int 0 0] }).push
      { cls := .type "enumerate", data := .fields #[.none, .bool false, .ref s.heap.objs.size, rawInt 0, .none, .none] }) (s.heap.objs.size + 1) s.heap.objs.size 0 .none := by
    have := Heap.get?_push_size (s.heap.push { cls := .type "tuple_iterator", data := .fields #[.ref l, .int 0 0] })
      (o := { cls := .type "enumerate", data := .fields #[.none, .bool false, .ref s.heap.objs.size, rawInt 0, .none, .none] }) rfl
    rw [hz] at this; exact this
  refine ⟨⟨_, he, rfl⟩, h _ he ⟨_, Heap.get?_push_of_some _ (Heap.get?_push_size _ rfl), rfl, rfl⟩ (by rw [Heap.size_push, hz]) fun b o x => Heap.get?_push_of_some _ (Heap.get?_push_of_some _ x)⟩
theorem enum_doneT {prog : Program} {w : World} {A : Around} {E : Value → Shared → Prop} {s : Shared} {e it l : Addr} {i : Nat} {items : Array Value} {old : Value} {Q : Option Value → Shared → Prop} (hh : A.handled = none) (hli : l ≠ it)
    (he : IsEnum s.heap e it i old) (hit : s.heap.IsTupleIter it l i) (hl : s.heap.IsTuple l items) (hx : items[i]? = none)
    (hQ : ∀ h', Heap.ExtBut it s.heap h' → Q none { s with heap := h' }) : wpAny (model prog w) A (pyNext (.ref e)) Q E s := by
  have hT : s.TypeIs (.ref e) "enumerate" := ⟨_, he, rfl⟩
  unfold pyNext
  refine wpAny_bind (wpAny_attempt (wpAny_callSpecial?_slot (name := Str.ofString "__next__") hT PySem.F.slot_enumerate_next
    (wpAny_call_entry PySem.F.slot_enumerate_next hT PySem.F.entry_enumerate_next ?_ (PySem.F.args_enumerate_next_1 _))))
  show wpAny _ _ (field (.ref e) 2 >>= _) _ _ _
  refine wpAny_bind (wpAny_field he rfl (x := .ref it) rfl ?_)
  refine wpAny_bind (wpAny_nextOf_tuple_end hh hit hl hx fun h' x he' hx' => ?_)
  obtain ⟨o, ho, hc⟩ := hx'
  refine wpAny_bind (wpAny_isInstance (T := "StopIteration") (b := true) ⟨o, ho, hc⟩ isSubtype_stop ?_)
  exact wpAny_pure (hQ _ he')
def Itet (K : PySem.W.Frag) (a : Addr) : It :=
  ⟨fun i H => ∃ (xs : List V) (x : V), SqT K H a xs ∧ xs[i]? = some x, fun i H v H' => ∃ T x ob, v = .ref T ∧ H T = none ∧ H' = upd H T (.frz ob (.tup [.int (i : Nat), x])) ∧ ob.dict = none ∧ ob.cls = .type "tuple" ∧ ∀ xs, SqT K H a xs → xs[i]? = some x, fun i H => ∃ xs : List V, SqT K H a xs ∧ xs.length ≤ i⟩
theorem turn_enumT {P : Program} {w : World} {K : PySem.W.Frag} {elts : List Expr} {kk : Nat} {tpos : Pos} (a e it : Addr) :
    Turn P w K (.Tuple elts kk tpos) (Itet K a) [e, it] e (fun i h => (∃ old, IsEnum h e it ((i : Nat) : Int) old) ∧ h.IsTupleIter it a i ∧ e ≠ it) where
  mem := by simp
  obj := fun i h st b hb => by
    obtain ⟨⟨old, he⟩, ⟨o, ho, hc, hd⟩, _⟩ := st
    have e' : b = e ∨ b = it := by simpa using hb
    rcases e' with z | z
    · rw [z]; exact ⟨_, he, fun v q => nomatch q⟩
    · rw [z]; exact ⟨o, ho, fun v q => by rw [hd] at q; cases q⟩
  keep := fun i h h' st k => let ⟨⟨old, he⟩, hi, hne⟩ := st; ⟨⟨old, k e (by simp) _ he⟩, hi.at fun o q => k it (by simp) o q, hne⟩
  item := by
    intro X hP hw hK hc i pins s σ H E I hf st hg
    subst hP hw hK
    obtain ⟨⟨old, he⟩, hit, hne⟩ := st
    obtain ⟨xs, x, hq, hx⟩ := hg
    obtain ⟨its, rv, p, hz⟩ := I.tuple hq
    obtain ⟨u, hu, ru⟩ := rv.get hx
    have p' : s.heap.IsTuple a its.toArray := p
    have hel : e < s.heap.objs.size := Heap.lt_size he
    have hil : it < s.heap.objs.size := by obtain ⟨_, q, _⟩ := hit; exact Heap.lt_size q
    have hai : a ≠ it := by
      rintro rfl
      obtain ⟨o1, k1, k2, _⟩ := hit
      obtain ⟨o2, j1, j2, _⟩ := p'
      rw [k1] at j1; cases j1
      rw [k2] at j2; exact absurd j2 (by decide)
    have hea : e ≠ a := by
      rintro rfl
      obtain ⟨o2, j1, j2, _⟩ := p'
      have he' := he
      unfold IsEnum at he'
      rw [he'] at j1; cases j1
      have j3 : Value.type "enumerate" = Value.type "tuple" := j2
      exact absurd j3 (by decide)
    have hlt : i < its.toArray.size := by
      have := (List.getElem?_eq_some_iff.mp hu).1
      simpa using this
    refine wpAny_pyNext_enum_itemD (Draws.tuple (A := X.A.in1) (I.ok.hd hc) it a hai its.toArray) he ⟨hit, p'⟩ hlt hne (by simp [hne, hea]) fun u2 h' tk hPx ho hst' hT hsz hk => ?_
    have hu2 : u2 = u := by
      have hPx : its.toArray[i]? = some u2 := hPx
      simp only [List.getElem?_toArray] at hPx
      rw [hu] at hPx; cases hPx; rfl
    subst hu2
    refine ⟨_, rfl, wpAny_letOwnedTupleGo_enum (s := { s with heap := h', toks := tk + 1 }) ho fun h'' he' sb => ?_⟩
    have hT2 : h''.get? s.heap.objs.size = some { cls := .type "tuple", data := .seq #[.int i tk, u2] } := (sb.2 _ (Nat.ne_of_gt hel)).trans hT
    have new : ObjOk X.prog X.w (upd H s.heap.objs.size (.frz { cls := .type "tuple", data := .seq #[.int i tk, u2] } (.tup [.int (i : Nat), x]))) h'' s.heap.objs.size (.frz { cls := .type "tuple", data := .seq #[.int i tk, u2] } (.tup [.int (i : Nat), x])) :=
      ⟨hT2, by show 2 ≤ sizeLine; decide, [.int i tk, u2], .cons ⟨_, rfl⟩ (.cons ru .nil), ⟨_, hT2, rfl, _, rfl⟩⟩
    have I1 : Inv X pins σ (upd H s.heap.objs.size (.frz { cls := .type "tuple", data := .seq #[.int i tk, u2] } (.tup [.int (i : Nat), x]))) { s with heap := h'', toks := tk + 1 } :=
      I.turnedNew (ch := [e, it]) (fun b ob hb q => (sb.2 b (fun z => hb (by simp [z]))).trans (hk b ob (fun z => hb (by simp [z])) (fun z => hb (by simp [z])) q)) hf (Nat.le_refl _) new
    refine ⟨.ref s.heap.objs.size, _, I1, rfl, ⟨_, x, _, rfl, I.hok.fresh (Nat.le_refl _), rfl, rfl, rfl, fun ys hy => by rw [I.tuple_inj hy hq]; exact hx⟩, ⟨⟨u2, ?_⟩, hst'.1.at fun o q => (sb.2 it (Ne.symm hne)).trans q, hne⟩, fun b hb => ?_⟩
    · have e1 : ((i + 1 : Nat) : Int) = (i : Int) + 1 := by omega
      rw [e1]; exact he'
    · have hb' : b < s.heap.objs.size := by
        have e' : b = e ∨ b = it := by simpa using hb
        rcases e' with z | z
        · rw [z]; exact hel
        · rw [z]; exact hil
      rw [upd_ne (Nat.ne_of_lt hb')]
      exact (hf b hb).1
  done := by
    intro X hP hw hK hc i pins s σ H E I hf st hg
    subst hP hw hK
    obtain ⟨⟨old, he⟩, hit, hne⟩ := st
    obtain ⟨xs, hq, hx⟩ := hg
    obtain ⟨its, rv, p, hz⟩ := I.tuple hq
    obtain ⟨f0, f1, f2, f3, f4, f5⟩ := hf it (by simp)
    have hl := rv.length
    have p' : s.heap.IsTuple a its.toArray := p
    have hai : a ≠ it := by
      rintro rfl
      obtain ⟨o1, k1, k2, _⟩ := hit
      obtain ⟨o2, j1, j2, _⟩ := p'
      rw [k1] at j1; cases j1
      rw [k2] at j2; exact absurd j2 (by decide)
    exact enum_doneT (I.ok.hd hc) hai he hit p' (by simp; omega) fun h' eb => ⟨rfl, I.turned (t' := s.toks) (fun b o hb q => eb b o hb q) f0 f1 f3 f4 f5⟩
  self := fun A i s Q E st h => let ⟨⟨_, he⟩, _⟩ := st; wpAny_pyIter_enum he h

def iEnumT (K : PySem.W.Frag) (ta : TA) : TI := fun σ H R => ta σ H fun vs H1 => ∃ a xs, vs = [.ref a] ∧ SqT K H1 a xs ∧ R (Itet K a) H1
theorem pi_enumT {X : Cx} {e : Expr} {ta : TA} {p pos tpos : Pos} {elts : List Expr} {kk : Nat} (hg : Gl X "enumerate") (hm : X.mg "enumerate" = none) (ha : PA X [e] ta) (hs : starEach [e] X.env = [(false, eval e X.env)] := by rfl) :
    PI X (.Tuple elts kk tpos) (.Call (.Name "enumerate" p) [e] [] pos) (iEnumT X.K ta) := by
  refine ⟨fun pins s σ H R I h => ?_⟩
  refine Call_ (ld_blt I hg hm boot_enumerate (PyProof.Rows.callWith_type1 (thn (ha.run pos pins s σ H _ I h) fun us s1 ⟨vs, H1, I1, r1, q1⟩ => ?_) hs rfl))
  obtain ⟨a, xs, ex, hq, q⟩ := q1
  subst ex
  cases r1 with
  | cons r rr =>
    cases rr
    cases r
    obtain ⟨its, rv, p', hz⟩ := I1.tuple hq
    refine call_enumT (items := its.toArray) p' fun h' he hit hsz hk => wpAny_pyIter_enum he ?_
    have I2 : Inv X pins σ H1 { s1 with heap := h' } := I1.kept (t' := s1.toks) hk
    refine ⟨s1.heap.objs.size + 1, [s1.heap.objs.size + 1, s1.heap.objs.size], _, _, H1, rfl, I2, turn_enumT a (s1.heap.objs.size + 1) s1.heap.objs.size, ⟨⟨.none, he⟩, hit, Nat.succ_ne_self _⟩, fun b hb => ?_, q⟩
    have e' : b = s1.heap.objs.size + 1 ∨ b = s1.heap.objs.size := by simpa using hb
    have hle : s1.heap.objs.size ≤ b := by
      rcases e' with z | z
      · rw [z]; exact Nat.le_add_right _ _
      · rw [z]; exact Nat.le_refl _
    exact I1.fpOk hle (I1.hok.fresh hle)
def enumL (l : List D) : List D := l.zipIdx.map fun p => .tup [.int (p.2 : Nat), p.1]
def enumF : List D → Option (List D)
  | [.tup l] => if fzL l = true then some (enumL l) else none
  | _ => none
theorem enum_w {G : Gm} {W : WX} {σ : L2.St} {H : Hp} {R : It → Hp → Prop} {ma : EM (List Arg)} (h : tI G W (mIt ma enumF) σ H R) : iEnumT G.C.K (tArgs G W ma) σ H R := it_of h fun b ds vs l ok ps hf q => by
  match ds, hf with
  | [.tup l0], hf =>
    simp only [enumF] at hf
    split at hf
    · rename_i z; cases hf
      obtain ⟨v, rfl, r1, p1⟩ := one_rep ps
      have p1' := p1
      simp only [Rep] at p1'
      obtain ⟨y, vs, rfl, hy, hl⟩ := p1'
      refine ⟨y, vs, rfl, sqt_mono ok.sub hy.sq, q _ fun c okc st => ?_⟩
      have hc : SqT G.C.K c.H y vs := sqt_mono (fun y o h => okc.sub _ _ (st.f ok h)) hy.sq
      refine ⟨fun i d e => ?_, ⟨vs, hc, by rw [hl.len]; simp [enumL]⟩⟩
      unfold enumL at e
      rw [List.getElem?_map, List.getElem?_zipIdx] at e
      cases e0 : l0[i]? with
      | none => rw [e0] at e; cases e
      | some d0 =>
        rw [e0] at e
        simp only [Option.map_some, Option.some.injEq, Nat.zero_add] at e
        subst e
        obtain ⟨v, h1, h2⟩ := hl.get e0
        refine ⟨⟨vs, v, hc, h1⟩, fun x H' yl => ?_⟩
        obtain ⟨T, x', ob, rfl, hT, rfl, o1, o2, q2⟩ := yl
        have e2 := q2 vs hc
        rw [h1] at e2; cases e2
        obtain ⟨gr, ok'⟩ := grow_f (o := .frz ob (.tup [.int (i : Nat), v])) okc hT
        refine ⟨_, rfl, gr, ok', ?_⟩
        simp only [Rep]
        refine ⟨T, [.int (i : Nat), v], rfl, .inl ⟨ob, upd_same, o1, o2⟩, ?_⟩
        have z0 := fzL_mem z d0 (List.mem_of_getElem? e0)
        have h3 := h2.step (s := 0) (q := [0]) ok st z0
        exact ⟨.int (i : Nat), [v], by simp, by simp [Rep], v, [], rfl, Rep.fz (fun x o h => gr.f okc h) d0 _ _ v z0 h3, by simp [RepL]⟩
    · cases hf
theorem ri_enum {X : Cx} {G : Gm} {W : WX} {a : Expr} {mas : EM (List Arg)} {pos p tpos : Pos} {elts : List Expr} {kk : Nat} (s : St0 X G) (h1 : G.C.mg "enumerate" = none) (hg : Gl X "enumerate") (ha : PA X [a] (tArgs G W mas)) (hs : starEach [a] X.env = [(false, eval a X.env)] := by rfl) : PI X (.Tuple elts kk tpos) (.Call (.Name "enumerate" p) [a] [] pos) (tI G W (mIt mas enumF)) :=
  (pi_enumT hg (by rw [s.m]; exact h1) ha hs).weak fun _ _ _ q => by
    have := enum_w q
    rw [s.k]; exact this
end Mi
namespace Mi
open PySem PySem.Spec PyProof.Rows L2
/-! ### rows for simp and a pure law: two generators -/
def kL2 (t : Tgt) (cond : EM Bool) (ma1 : EM Arg) (t1 : Tgt) (cond1 : EM Bool) (elt : EM D) (own own1 : List Nat) : List D × EnvD → Res (D × EnvD) := fun (ds, e) => if fzL ds = true then (loopL2 t cond ma1 t1 cond1 elt own own1 ds [] e).bind (kLc2 e own) else .bad
@[simp] theorem e_lc2 {mi : EM (List D)} {t t1 : Tgt} {cond cond1 : EM Bool} {ma1 : EM Arg} {elt : EM D} {own own1 : List Nat} {env : EnvD} : mLc2 mi t cond ma1 t1 cond1 elt own own1 env = (mi env).bind (kL2 t cond ma1 t1 cond1 elt own own1) := rfl
theorem loop2_pure {k k1 : Nat} (hkk : k ≠ k1) {ma1 : EM Arg} {cond1 : EM Bool} {elt : EM D} {f : D → D → D} {p : D → D → Bool} {ds1 : List D} {e0 : EnvD} (h0 : e0.set k none = e0) (h1 : e0.set k1 none = e0) : ∀ (ds acc : List D) (e : EnvD), wipeE e [k, k1] = e0 → acc.length + ds.length * ds1.length ≤ 100000 →
    (∀ d ∈ ds, ∃ x, ma1 (e0.set k (some d)) = .ok (x, e0.set k (some d)) ∧ (x.get (e0.set k (some d))).bind seq2 = some ds1) →
    (∀ d ∈ ds, ∀ d1 ∈ ds1, cond1 ((e0.set k (some d)).set k1 (some d1)) = .ok (p d d1, (e0.set k (some d)).set k1 (some d1))) →
    (∀ d ∈ ds, ∀ d1 ∈ ds1, p d d1 = true → elt ((e0.set k (some d)).set k1 (some d1)) = .ok (f d d1, (e0.set k (some d)).set k1 (some d1))) →
    ∃ e', loopL2 (.nm k) mYes ma1 (.nm k1) cond1 elt [k, k1] [k1] ds acc e = .ok (acc ++ ds.flatMap (fun d => (ds1.filter (p d)).map fun d1 => frzQ (f d d1)), e') ∧ wipeE e' [k, k1] = e0
  | [], acc, e, he, _, _, _, _ => ⟨e, by simp [loopL2], he⟩
  | d :: ds, acc, e, he, hl, hm, hc, hf => by
    obtain ⟨x, m1, m2⟩ := hm d List.mem_cons_self
    have hs1 : (e0.set k (some d)).set k1 none = e0.set k (some d) := by rw [List.set_comm _ _ hkk, h1]
    have hlen : (d :: ds).length * ds1.length = ds1.length + ds.length * ds1.length := by rw [List.length_cons, Nat.succ_mul, Nat.add_comm]
    rw [hlen] at hl
    obtain ⟨e1, g1, g2⟩ := loop_pure (k := k1) (cond := cond1) (elt := elt) (f := f d) (p := p d) (e0 := e0.set k (some d)) hs1 ds1 acc (e0.set k (some d)) hs1 (hc d List.mem_cons_self) (hf d List.mem_cons_self)
    have w1 : wipeE e1 [k, k1] = e0 := by
      show (e1.set k1 none).set k none = e0
      rw [g2, List.set_set, h0]
    have la : (acc ++ (ds1.filter (p d)).map fun d1 => frzQ (f d d1)).length + ds.length * ds1.length ≤ 100000 := by
      have := List.length_filter_le (p d) ds1
      rw [List.length_append, List.length_map]; omega
    obtain ⟨e', j1, j2⟩ := loop2_pure hkk h0 h1 ds _ e1 w1 la (fun d hd => hm d (List.mem_cons_of_mem _ hd)) (fun d hd => hc d (List.mem_cons_of_mem _ hd)) (fun d hd => hf d (List.mem_cons_of_mem _ hd))
    refine ⟨e', ?_, j2⟩
    simp only [loopL2, he, tg_nm, e_yes, m1, m2]
    rw [if_pos (by omega), g1]
    simp only [bind_ok]
    rw [j1]
    simp
theorem lc2_pure {k k1 : Nat} (hkk : k ≠ k1) {ma1 : EM Arg} {cond1 : EM Bool} {elt : EM D} (f : D → D → D) (p : D → D → Bool) (ds1 : List D) {e : EnvD} {ds : List D} (hz : fzL ds = true) (hl : ds.length * ds1.length ≤ 100000)
    (hm : ∀ d ∈ ds, ∃ x, ma1 ((e.set k1 none).set k (some d)) = .ok (x, (e.set k1 none).set k (some d)) ∧ (x.get ((e.set k1 none).set k (some d))).bind seq2 = some ds1)
    (hc : ∀ d ∈ ds, ∀ d1 ∈ ds1, cond1 ((e.set k (some d)).set k1 (some d1)) = .ok (p d d1, (e.set k (some d)).set k1 (some d1)))
    (hf : ∀ d ∈ ds, ∀ d1 ∈ ds1, p d d1 = true → elt ((e.set k (some d)).set k1 (some d1)) = .ok (f d d1, (e.set k (some d)).set k1 (some d1))) :
    kL2 (.nm k) mYes ma1 (.nm k1) cond1 elt [k, k1] [k1] (ds, e) = .ok (.lst true (ds.flatMap (fun d => (ds1.filter (p d)).map fun d1 => frzQ (f d d1))), (e.set k1 (restV e k1)).set k (restV e k)) := by
  have a1 : ∀ d, ((e.set k1 none).set k none).set k (some d) = (e.set k1 none).set k (some d) := fun d => by rw [List.set_set]
  have a2 : ∀ d d1, (((e.set k1 none).set k none).set k (some d)).set k1 (some d1) = (e.set k (some d)).set k1 (some d1) := fun d d1 => by
    rw [List.set_set, List.set_comm _ _ hkk.symm, List.set_set]
  obtain ⟨e', j1, j2⟩ := loop2_pure (ma1 := ma1) (cond1 := cond1) (elt := elt) (f := f) (p := p) (ds1 := ds1) (e0 := (e.set k1 none).set k none) hkk (by rw [List.set_set]) (by rw [List.set_comm _ _ hkk, List.set_set]) ds [] e rfl (by simpa using hl)
    (fun d hd => by rw [a1]; exact hm d hd) (fun d hd d1 h1 => by rw [a2]; exact hc d hd d1 h1) (fun d hd d1 h1 => by rw [a2]; exact hf d hd d1 h1)
  show (if fzL ds = true then _ else _) = _
  rw [if_pos hz, j1]
  simp only [bind_ok, kLc2_ok, List.nil_append, restE]
  have j2 : (e'.set k1 none).set k none = (e.set k1 none).set k none := j2
  have r : ∀ (a : EnvD) (x y : Option D), (((a.set k1 none).set k none).set k1 x).set k y = (a.set k1 x).set k y := fun a x y => by
    rw [List.set_comm none x hkk, List.set_set, List.set_set]
  rw [← r e', j2, r e]
end Mi
namespace Mi
open PySem PySem.Spec PyProof.Rows L2
/-! ### dict.copy, list.index, in of a list of tuples, the comprehension over the empty dict -/
theorem upd_id {H : Hp} {x : Addr} {o : HO} (h : H x = some o) : upd H x o = H := by
  funext b
  unfold upd
  split
  · rename_i e; rw [e, h]
  · rfl
theorem mt_copy {X : Cx} : MtR X "dict.copy" (fun x vs H Q => ∃ (a : Addr) (kvs : List (Key × V)), x = .ref a ∧ vs = [] ∧ H a = some (.dK kvs) ∧ ∀ p, H p = none → Q (.ref p) (upd H p (.dK kvs))) := by
  intro pins s σ H x xs v us Q I rx rxs h
  obtain ⟨a, kvs, rfl, rfl, hd, q⟩ := h
  cases rx
  cases rxs
  obtain ⟨z, hs, vs, rel, dd⟩ := (show ObjOk X.prog X.w H s.heap a (.dK kvs) from I.hok a _ hd)
  have hm : (s.heap.objs.size == sysModules) = false := beq_eq_false_iff_ne.mpr (Nat.ne_of_gt I.big)
  exact call_meetsIn PySem.F.slot_dict_copy dd.typeIs PySem.F.entry_dict_copy (PySem.F.args_dict_copy_1 _) (meets_dict_copy (mixKind X.prog X.w) a hs) ⟨vs, dd, by rw [← rel.length]; exact z, fun h' d' _ hk =>
    ⟨.ref s.heap.objs.size, upd H s.heap.objs.size (.dK kvs), I.laid (t' := s.toks) hk (Nat.le_refl _) (show ObjOk X.prog X.w _ _ _ (.dK kvs) from ⟨z, hm, vs, rel, d'⟩), rfl, q _ (I.hok.fresh (Nat.le_refl _))⟩⟩
def copyD : D → Option D
  | .dic _ ks ws => if fzL ks = true ∧ fzL ws = true then some (.dic true ks ws) else none
  | _ => none
section
variable {X : Cx} {G : Gm} {W : WX} {lv : Nat} {a b e o : Expr} {es : List Expr} {ma mb : EM Arg} {mas : EM (List Arg)} {m : EM D} {apos cpos p pos : Pos} {x : Str}
theorem r_copy (s : St0 X G) (ha : PE X e (tArg G W ma)) (hbase : attributeBase e "copy" X.env (eval e X.env) = eval e X.env := by rfl) (hline : (apos.endLine == cpos.line) = true := by rfl) :
    PE X (.Call (.Attribute e "copy" apos) [] [] cpos) (tE G W (mUn copyD ma)) :=
  (pe_bm0 PySem.F.plainAttrs_dict PySem.F.slot_dict_copy PySem.F.type_dict_copy mt_copy ha hbase hline).weak fun σ H Q q => by
    obtain ⟨a, env, rfl, rel, post⟩ := q
    refine tArg_of rel post fun x e b v st r ar p => ?_
    dsimp only at p
    cases hx : x.get e with
    | none => rw [hx] at p; exact (show False from p).elim
    | some d =>
      rw [hx] at p
      dsimp only at p
      obtain ⟨d', hd, k'⟩ := p.lift r
      obtain ⟨r1, p1⟩ := ar.rep r hx
      match d, hd, p1 with
      | .dic o ks ws, hd, p1 =>
        simp only [copyD] at hd
        split at hd
        · rename_i z; cases hd
          obtain ⟨y, u, kv, vs, rfl, h1, h2, h3, h4, h5⟩ := rep_dic r.ok p1
          cases h2
          rename_i kvs
          exact ⟨.inr (.inr (.inl ⟨rfl, .inl ⟨_, h1⟩⟩)), y, kvs, rfl, rfl, h1, new_dic r.ok z.1 z.2 h4 h5 fun z c gr ok rp => k' c gr ok z rp⟩
        · cases hd
end
def idxF (l ds : List D) : Option (D × List D) := match ds with
  | [.str s] => match strsOf l with
    | some ys => if s ∈ ys then some (.int (ys.idxOf s : Nat), l) else none
    | none => none
  | _ => none
theorem met_idx {C : KM} : MetOk C (rIndex C.K) idxF := fun a x vs us l ds d l' n s p Q k hx hl ps hf q => by
  match ds, hf, ps with
  | [.str z], hf, ps =>
    simp only [idxF] at hf
    cases hy : strsOf l with
    | none => rw [hy] at hf; cases hf
    | some ys =>
      rw [hy] at hf
      dsimp only at hf
      split at hf
      · rename_i hm; cases hf
        obtain ⟨u, rfl, ru, hu⟩ := one_rep ps
        cases rep_str hu
        have hv := strs_rep hy hl
        subst hv
        have hlt : ys.idxOf z < ys.length := List.idxOf_lt_length_iff.mpr hm
        have hz : fzL l = true := by
          have : ∀ (l : List D) (ys : List Str), strsOf l = some ys → l = ys.map .str := by
            intro l
            induction l with
            | nil => intro ys h; cases h; rfl
            | cons d l ih =>
              intro ys h
              cases d <;> simp only [strsOf] at h <;> (try (cases h; done))
              rename_i s
              cases e : strsOf l with
              | none => rw [e] at h; cases h
              | some zs => rw [e] at h; cases h; rw [ih zs e]; rfl
          rw [this l ys hy]
          exact fzL_strs ys
        refine ⟨x, ys.map V.str, .str z, ys.idxOf z, .str z, rfl, rfl, SqL.of hx, rfl, by rw [List.all_map, List.all_eq_true]; intro _ _; rfl, ?_, ?_, fun m z' hmj hz' => ?_, ?_⟩
        · rw [List.getElem?_map, List.getElem?_eq_getElem hlt, List.getElem_idxOf hlt]; rfl
        · simp [eqV]
        · rw [List.getElem?_map] at hz'
          have hml : m < ys.length := by omega
          rw [List.getElem?_eq_getElem hml] at hz'
          cases hz'
          have hne := List.not_of_lt_findIdx (p := (· == z)) (xs := ys) (i := m) hmj
          simp [eqV]
          simpa using hne
        · have := q (.int (ys.idxOf z : Nat)) (ys.map V.str) s n p hz hl ⟨0, [], by simp [fz], by simp [Rep]⟩
          rw [upd_id hx] at this
          exact this
      · cases hf
section
variable {X : Cx} {G : Gm} {W : WX} {lv : Nat} {a b e o : Expr} {es : List Expr} {ma mb : EM Arg} {mas : EM (List Arg)} {m : EM D} {apos cpos p pos : Pos} {x : Str}
theorem r_index (s : St0 X G) (j : Nat) (hN : X.N[j]? = some x) (hv : Vis X.env.scope x) (ha : PA X [e] (tArgs G W mas)) (hd : (x == ("__debug__" : Str)) = false := by decide) (hcd : (x == ("__classdict__" : Str)) = false := by decide)
    (hbase : attributeBase (.Name x p) "index" X.env (eval (.Name x p) X.env) = eval (.Name x p) X.env := by rfl) (hfew : ((backTo cpos (starEach [e] X.env)).all (fun x => !x.1) && (backToKw cpos (keywordEach [] X.env)).all (fun x => x.1.isSome)
      && decide ([e].length + ([] : List Keyword).length + (if ([] : List Keyword).isEmpty then 0 else 1) < 30)) = true := by rfl) (hline : (apos.endLine == cpos.line) = true := by rfl) (hs : starEach [e] X.env = (false, eval e X.env) :: starEach [] X.env := by rfl) (hplain : (backTo cpos (starEach [] X.env)).any (·.1) = false := by rfl) :
    PE X (.Call (.Attribute (.Name x p) "index" apos) [e] [] cpos) (tE G W (mMet j mas idxF)) :=
  (pe_bm PySem.F.plainAttrs_list PySem.F.slot_list_index PySem.F.type_list_index mt_index (pe_var hN hv hd hcd) ha hbase hfew hline hs hplain).weak fun _ _ _ q => by
    have := met_w met_idx q
    rw [s.k]; exact this
end
def inXD (d e : D) : Option D := match inQ d e with
  | some b => some (.bl b)
  | none => match e with
    | .lst _ l => if okP 63 d = true ∧ okPL 62 l = true then some (.bl ((toPL l).any fun z => PyData.eqv z (toP d))) else none
    | _ => none
theorem op_inX {X : Cx} {C : KM} (hC : C.K = X.K) (hu : X.A.units + 65 < cLine) : OpR X (compareOp .In) (rD C inXD) := by
  intro pins s σ H x y v u Q I rx ry h
  obtain ⟨a, d1, d2, r1, r2, d, rfl, k, p1, p2, hd, q⟩ := h
  unfold inXD at hd
  cases hi : inQ d1 d2 with
  | some b =>
    rw [hi] at hd
    exact Mi.op_inD hC (by omega) pins s σ a.H x y v u Q I rx ry ⟨a, d1, d2, r1, r2, d, rfl, k, p1, p2, by rw [← hd]; simp [inD, hi], q⟩
  | none =>
    rw [hi] at hd
    dsimp only at hd
    split at hd
    · rename_i o l
      split at hd
      · rename_i z; cases hd
        obtain ⟨s1, s2⟩ := okP_shape d1 63 z.1
        have z2 : okP 63 (.lst o l) = true := by simpa [okP] using z.2
        obtain ⟨s3, s4⟩ := okP_shape (.lst o l) 63 z2
        refine L2.op_inD hu pins s σ a.H _ _ v u Q I rx ry ⟨toP d1, toPL l, ?_, ?_, by simp [SeqAt.shaped, s1]; omega, by have s3' : PyData.canLay0 (.list (toPL l)) = true := s3; have s4' : (PyData.list (toPL l)).depth ≤ 63 := s4; simp [SeqAt.shaped, s3']; omega, q _ a (Grow.refl a) k rep_ofbl⟩
        · rw [← hC]; exact okP_dp k d1 63 _ _ _ z.1 p1
        · rw [← hC]; exact okP_dp k (.lst o l) 63 _ _ _ z2 p2
      · cases hd
    · cases hd
section
variable {X : Cx} {G : Gm} {W : WX} {a b : Expr} {ma mb : EM Arg} {pos : Pos}
theorem r_inX (s : St0 X G) (hu : X.A.units + 65 < cLine) (ha : PE X a (tArg G W ma)) (hb : PE X b (tArg G W mb)) (hm : behindInMarks .In b = false := by first | rfl | exact nobehind _ (by decide) (by decide)) : PE X (.Compare a [.In] [b] pos) (tE G W (mBin inXD ma mb)) :=
  (pe_cmpR (op_inX s.k.symm hu) ha hb hm).weak fun _ _ _ q => bin_w q
end
end Mi
namespace Mi
open PySem PySem.Spec PyProof.Rows L2
/-! ### the comprehension over the empty dict of a slot -/
def mLcE (j : Nat) : EM D := fun env => match env[j]? with
  | some (some (.dic _ [] [])) => .ok (.lst true [], env)
  | _ => .bad
theorem lcE_w {G : Gm} {W : WX} {σ : L2.St} {H : Hp} {Q : VK} {j : Nat} {g : TG} {tt : TT} {te : TE} {own : List Nat} (h : tE G W (mLcE j) σ H Q) : tLockE (tLc (iKeys (tVar j)) g tt te own) σ H Q := by
  obtain ⟨a, env, rfl, rel, post⟩ := h
  unfold mLcE at post
  split at post
  · rename_i o hj
    obtain ⟨v, e1, rp⟩ := rel.slot j _ hj
    obtain ⟨x, u, kv, vs, rfl, h1, h2, h3, h4, h5⟩ := rep_dic rel.ok rp
    cases h2
    rename_i kvs
    have hk : kvs = [] := by
      have := h4.len
      simp at this
      exact this
    subst hk
    refine ⟨x, .dK [], h1, True.intro, fun od => ⟨.ref x, e1, x, od, rfl, .inl ⟨[], upd_same, fun A hA => ?_⟩⟩⟩
    have ne : A ≠ x := by rintro rfl; rw [upd_same] at hA; cases hA
    rw [upd_ne ne] at hA
    refine ⟨fun i m H => i = 0 ∧ H = upd (upd a.H x (.frz od (.dK []))) A (.lst []), ⟨0, rfl, rfl⟩, ?_⟩
    rintro i m H ⟨rfl, rfl⟩
    have hx : (upd (upd a.H x (.frz od (.dK []))) A (.lst [])) x = some (.frz od (.dK [])) := by rw [upd_ne (Ne.symm ne), upd_same]
    refine .inl ⟨⟨hx, Nat.le_refl _⟩, hx, ?_⟩
    have e2 : upd (upd (upd a.H x (.frz od (.dK []))) A (.lst [])) x (.dK []) = upd a.H A (.lst []) := by
      funext y
      by_cases q1 : y = x
      · subst q1; rw [upd_same, upd_ne (Ne.symm ne), h1]
      · rw [upd_ne q1]
        by_cases q2 : y = A
        · subst q2; rw [upd_same, upd_same]
        · rw [upd_ne q2, upd_ne q2, upd_ne q1]
    rw [e2]
    exact new_lst (C := G.C) (r := 0) (p := []) (n := 0) (l := []) (vs := []) rel.ok rfl (by simp [RepL]) (fun z c gr ok rp => post c gr.step (rel.grow gr ok) z rp) A hA
  · exact (show False from post).elim
section
variable {X : Cx} {G : Gm} {W : WX} {lv : Nat} {tg : Expr} {m : EM D} {mt : EM Bool} {pos p : Pos} {x : Str}
theorem r_lcE {elt : Expr} {ifs : List Expr} {scope : Scope} (s : Go X G W lv) (j : Nat) (own : List (Str × Nat)) (t : Tgt) (hN : X.N[j]? = some x) (hv : Vis X.env.scope x) (ok : BlkOk X.N X.env.scope scope own)
    (hg : ∀ (s : Shared) (H : Hp) (C : Addr) (cl : List (Str × Addr)) (fp : List Addr), PG (X.blk s H scope (compEnvC scope cl C X.env) fp) tg (gT G.C.K t))
    (ht : ∀ (s : Shared) (H : Hp) (C : Addr) (cl : List (Str × Addr)) (fp : List Addr), Go (X.blk s H scope (compEnvC scope cl C X.env) fp) G W0 lv → PTs (X.blk s H scope (compEnvC scope cl C X.env) fp) ifs (tT G W0 mt))
    (he : ∀ (s : Shared) (H : Hp) (C : Addr) (cl : List (Str × Addr)) (fp : List Addr), Go (X.blk s H scope (compEnvC scope cl C X.env) fp) G W0 lv → PE (X.blk s H scope (compEnvC scope cl C X.env) fp) elt (tE G W0 m)) (hd : (x == ("__debug__" : Str)) = false := by decide) (hcd : (x == ("__classdict__" : Str)) = false := by decide) (hs : ∀ y, foldedSetIterable (.Name x p) X.env y = pure y := by intro _; rfl) :
    PE X (.ListComp elt [⟨tg, .Name x p, ifs, 0⟩] scope pos) (tE G W (mLcE j)) :=
  (pe_lock (pe_lc s.cm s.n (pi_keys (pe_var hN hv hd hcd)) ok hg (fun s0 H C cl fp => ht s0 H C cl fp (s.blk ..)) (fun s0 H C cl fp => he s0 H C cl fp (s.blk ..)) hs)).weak fun _ _ _ q => lcE_w q
end
/-! rows for simp -/
def lcEV (env : EnvD) : Option (Option D) → Res (D × EnvD)
  | some (some (.dic _ [] [])) => .ok (.lst true [], env)
  | _ => .bad
@[simp] theorem e_lcE {j : Nat} {env : EnvD} : mLcE j env = lcEV env (env[j]?) := by
  unfold mLcE lcEV
  rcases env[j]? with _ | _ | d
  · rfl
  · rfl
  · cases d <;> first | rfl | (rename_i ks ws; cases ks <;> cases ws <;> rfl)
@[simp] theorem lcEV_ok {o : Bool} {env : EnvD} : lcEV env (some (some (.dic o [] []))) = .ok (.lst true [], env) := rfl
end Mi
namespace Mi
open PySem PySem.Spec PyProof.Rows L2
/-! ### == and != by an own __eq__ -/
def clsD : D → Option Str
  | .ins _ c _ _ => some c
  | _ => none
def bltD : D → Option String
  | .non => some "NoneType" | .bl _ => some "bool" | .int _ => some "int" | .str _ => some "str" | .tup _ => some "tuple" | .lst _ _ => some "list" | _ => none
def resB (neg : Bool) : Res (D × EnvD) → Option D
  | .ok (.bl b, _) => some (.bl (b != neg))
  | _ => none
def okRt (tab : List (Str × (List D → Res (D × EnvD)))) (y : D) : Bool := (tyD y).isSome || ((clsD y).bind fun c => List.lookup c tab).isSome
def eqOD (tab : List (Str × (List D → Res (D × EnvD)))) (neg : Bool) (x y : D) : Option D :=
  if fz x = true ∧ fz y = true then
    match clsD x with
    | some c => if okRt tab y = true then (tab.lookup c).bind fun g => resB neg (g [x, y]) else none
    | none => match neg, bltD x, clsD y with
      | false, some _, some c => (tab.lookup c).bind fun g => resB neg (g [y, x])
      | _, _, _ => none
  else none
theorem sub_blt {K : PySem.W.Frag} {C : Addr} : ∀ {d : D} {T : String}, tyD d = some T → PySem.W.subIn K (.type T) (.ref C) = some false := by
  intro d T h
  have key : T ∈ ["NoneType", "bool", "int", "str", "tuple", "list", "dict"] := by
    cases d <;> simp only [tyD] at h <;> (try (cases h; done)) <;> cases h <;> decide
  simp only [List.mem_cons, List.not_mem_nil, or_false] at key
  show (fastBuiltinMro T).map (·.contains (.ref C)) = some false
  rcases key with rfl | rfl | rfl | rfl | rfl | rfl | rfl <;> (
    first
      | (have e : fastBuiltinMro "NoneType" = some [.type "NoneType", .type "object"] := by decide +kernel
         rw [e]; simp)
      | (have e : fastBuiltinMro "bool" = some [.type "bool", .type "int", .type "object"] := by decide +kernel
         rw [e]; simp)
      | (have e : fastBuiltinMro "int" = some [.type "int", .type "object"] := by decide +kernel
         rw [e]; simp)
      | (have e : fastBuiltinMro "str" = some [.type "str", .type "object"] := by decide +kernel
         rw [e]; simp)
      | (have e : fastBuiltinMro "tuple" = some [.type "tuple", .type "object"] := by decide +kernel
         rw [e]; simp)
      | (have e : fastBuiltinMro "list" = some [.type "list", .type "object"] := by decide +kernel
         rw [e]; simp)
      | (have e : fastBuiltinMro "dict" = some [.type "dict", .type "object"] := by decide +kernel
         rw [e]; simp))
end Mi
namespace HE
open PySem PySem.Spec PyProof.Rows PySem.SeqAt PySem.W
section
variable {prog : Program} {w : World} {A : Around} {E : Value → Shared → Prop} {s : Shared} {K : Frag} {x C L f : Addr} {h₀ : Heap} {m : Str → Option Value} {ox : Obj} {od : Option Obj} {b tb : Value}
/- x != b, x an instance of a class with an own __eq__ and no own __ne__ -/
theorem ne_K {Q : Value → Shared → Prop} (hu : A.units + 1 < cLine) (X : K.In s.heap) (I : InstAt s.heap x ox C od) (hb : Looks (model prog w) s.heap (typeOf b) tb) (hn : notFirst K C tb = true)
    (hs : findIn K (.ref C) "__eq__" = some (some (.ref f))) (hf : isFn K (.ref f) = true) (hs2 : findIn K (.ref C) "__ne__" = some (some (.builtin "object.__ne__"))) (hm : mroIn K C (.type "object") = some true)
    (h : wpAny (model prog w) A.in1 (call (.ref f) [.ref x, b]) (fun v s' => ∃ r, v = .bool r ∧ Q (.bool (!r)) s') E s) : wpAny (model prog w) A (richCompare .NotEq (.ref x) b) Q E s := by
  have body : wpAny (model prog w) A.in1 (Builtin.«object.__ne__» ⟨[.ref x, b], []⟩) (fun fin s' => ∃ v, fin = .done (.ret v) ∧ ((∃ r, v = .bool r) ∧ Q v s')) E s := by
    show wpAny _ _ (cRoomFor "comparison" [.ref x, b] >>= _) _ _ s
    refine wpAny_bind (wpAny_cRoomFor (by show A.units + 1 < cLine; exact hu) ?_)
    refine wpAny_bind (ifBound_K X I hs hf (wpAny_mono h (fun v s' hv => ?_) fun _ _ e => e))
    obtain ⟨r, rfl, hq⟩ := hv
    refine wpAny_bind (wpAny_truthy_bool ?_)
    exact wpAny_pure ⟨_, rfl, ⟨_, rfl⟩, hq⟩
  have one : wpAny (model prog w) A (tryCompare (.ref x) "__ne__" b) (fun r s' => ∃ v, r = some v ∧ Q v s') E s := by
    have hc : wpAny (model prog w) A (call (.builtin "object.__ne__") [.ref x, b]) (fun v s' => (∃ r, v = .bool r) ∧ Q v s') E s :=
      wpAny_call (codeAny_call_builtin F.cmp_object.ne.plain F.cmpEntry_ne (check_slot F.cmpKind_ne F.cmpSplit_ne (I.type.andThen (looks_mroIn X hm)) (F.cmpArgs_ne _ _) (wpAny_mono body (fun fin s' h' => by obtain ⟨v, rfl, hv⟩ := h'; exact hv) fun _ _ h' => h')))
    unfold tryCompare
    refine wpAny_bind ?_
    simp only [callSpecialIfBound?, bindSpecialIfBound?]
    refine wpAny_holding (wpAny_bind (wpAny_bind (wpAny_bind (I.type.here ((looks_findIn X hs2).here ?_)))))
    refine wpAny_bind (wpAny_askSetting (wpAny_ite ?_))
    have fin : wpAny (model prog w) A (call (.builtin "object.__ne__") ([.ref x] ++ [b]) >>= fun v => pure (some v)) (fun r s' => wpAny (model prog w) A (match r with
      | some .notImplemented | none => pure none
      | some v => pure (some v)) (fun r s' => ∃ v, r = some v ∧ Q v s') E s') E s := wpAny_bind (wpAny_mono hc (fun v s' h' => by
        obtain ⟨⟨r, rfl⟩, hq⟩ := h'
        exact wpAny_pure (wpAny_pure ⟨_, rfl, hq⟩)) fun _ _ h' => h')
    split
    · exact wpAny_bind (wpAny_of_eq (F.cmp_object.ne.bind _) (wpAny_pure (by exact fin)))
    · exact wpAny_tryCatch (wpAny_bind (wpAny_of_eq (F.cmp_object.ne.bind _) (wpAny_pure (by exact fin))))
  unfold richCompare
  simp only [oneThing_ref]
  refine wpAny_holding (wpAny_bind (wpAny_cRoomFor (by omega) ?_))
  refine wpAny_bind (I.type.here (wpAny_bind (hb.here ?_)))
  split
  · rename_i q
    have e : subIn K tb (.ref C) = some false := by
      rcases Bool.or_eq_true_iff.mp hn with e | e
      · rw [beq_iff_eq.mp e] at q; simp at q
      · exact beq_iff_eq.mp e
    refine wpAny_bind ((looks_subIn X e).here ?_)
    simp only [Bool.false_eq_true, if_false]
    refine wpAny_bind (wpAny_mono one (fun r s' z => ?_) fun _ _ e => e)
    obtain ⟨v, rfl, hq⟩ := z
    exact wpAny_pure hq
  · refine wpAny_bind (wpAny_pure ?_)
    simp only [Bool.false_eq_true, if_false]
    refine wpAny_bind (wpAny_mono one (fun r s' z => ?_) fun _ _ e => e)
    obtain ⟨v, rfl, hq⟩ := z
    exact wpAny_pure hq
/- v == y where v is of a built-in type that declines -/
theorem eq_right {v : Value} {T : String} {Q : Value → Shared → Prop} (hu : A.units < cLine) (X : K.In s.heap) (I : InstAt s.heap x ox C od) (hT : s.TypeIs v T) (hm : mroIn K C (.type T) = some false)
    (hone : oneThing? .Eq v (.ref x) = none) (hd : wpAny (model prog w) A (tryCompare v "__eq__" (.ref x)) (fun r s' => r = none ∧ s' = s) E s)
    (hs : findIn K (.ref C) "__eq__" = some (some (.ref f))) (hf : isFn K (.ref f) = true)
    (h : wpAny (model prog w) A (call (.ref f) [.ref x, v]) (W.CmpBack Q) E s) : wpAny (model prog w) A (richCompare .Eq v (.ref x)) Q E s := by
  have one : wpAny (model prog w) A (tryCompare (.ref x) "__eq__" v) (fun r s' => ∃ v, r = some v ∧ Q v s') E s := by
    unfold tryCompare
    refine wpAny_bind (ifBound_K X I hs hf (wpAny_mono h (fun v s' hv => ?_) fun _ _ e => e))
    cases v <;> first | exact hv.elim | exact wpAny_pure ⟨_, rfl, hv⟩
  unfold richCompare
  simp only [hone]
  refine wpAny_holding (wpAny_bind (wpAny_cRoomFor hu ?_))
  refine wpAny_bind (wpAny_typeOf hT (wpAny_bind (I.type.here ?_)))
  split
  · refine wpAny_bind ((looks_mroIn X hm).here ?_)
    simp only [Bool.false_eq_true, if_false, Bool.not_false, if_true]
    refine wpAny_bind (wpAny_mono hd (fun r s' z => ?_) fun _ _ e => e)
    obtain ⟨rfl, rfl⟩ := z
    refine wpAny_bind (wpAny_mono one (fun r s' z => ?_) fun _ _ e => e)
    obtain ⟨v, rfl, hq⟩ := z
    exact wpAny_pure hq
  · rename_i q
    exact absurd (by simp) q
end
end HE
namespace Mi
end Mi
namespace Mi
open PySem PySem.Spec PyProof.Rows L2
end Mi
namespace HE
open PySem PySem.Spec PyProof.Rows PySem.SeqAt PySem.W
section
variable {prog : Program} {w : World} {A : Around} {E : Value → Shared → Prop} {s : Shared} {K : Frag} {x C dx : Addr} {od : Option Obj}
theorem not_inst {T : String} {Q : Bool → Shared → Prop} (X : K.In s.heap) (I : InstAt s.heap x (instObj C dx) C od) (hm : mroIn K C (.type T) = some false) (h : Q false s) : wpAny (model prog w) A (isInstance (.ref x) (.type T)) Q E s := by
  unfold isInstance
  exact wpAny_bind (I.type.here ((looks_mroIn X hm).here h))
theorem dec_tuple {a : Addr} (X : K.In s.heap) (I : InstAt s.heap x (instObj C dx) C od) (hm : mroIn K C (.type "tuple") = some false) (hT : s.TypeIs (.ref a) "tuple") :
    wpAny (model prog w) A (tryCompare (.ref a) "__eq__" (.ref x)) (fun r s' => r = none ∧ s' = s) E s := by
  refine wpAny_tryCompare_declines hT PySem.F.slot_tuple_eq (wpAny_call_entry PySem.F.slot_tuple_eq hT PySem.F.entry_tuple_eq ?_ (PySem.F.args_tuple_eq_2 _ _))
  show wpAny _ _ (isInstance (.ref x) (.type "tuple") >>= _) _ _ s
  refine wpAny_bind (not_inst X I hm ?_)
  simp only [Bool.not_false, if_true]
  exact wpAny_pure ⟨_, rfl, by simp⟩
theorem dec_list {a : Addr} (X : K.In s.heap) (I : InstAt s.heap x (instObj C dx) C od) (hm : mroIn K C (.type "list") = some false) (hT : s.TypeIs (.ref a) "list") :
    wpAny (model prog w) A (tryCompare (.ref a) "__eq__" (.ref x)) (fun r s' => r = none ∧ s' = s) E s := by
  refine wpAny_tryCompare_declines hT PySem.F.slot_list_eq (wpAny_call_entry PySem.F.slot_list_eq hT PySem.F.entry_list_eq ?_ (PySem.F.args_list_eq_2 _ _))
  show wpAny _ _ (isInstance (.ref x) (.type "list") >>= _) _ _ s
  refine wpAny_bind (not_inst X I hm ?_)
  simp only [Bool.not_false, if_true]
  exact wpAny_pure ⟨_, rfl, by simp⟩
theorem dec_str {t : Str} {k : Tok} (I : InstAt s.heap x (instObj C dx) C od) : wpAny (model prog w) A (tryCompare (.str t k) "__eq__" (.ref x)) (fun r s' => r = none ∧ s' = s) E s := by
  have hT : s.TypeIs (.str t k) "str" := rfl
  refine wpAny_tryCompare_declines hT PySem.F.slot_str_eq (wpAny_call_entry PySem.F.slot_str_eq hT PySem.F.entry_str_eq ?_ (PySem.F.args_str_eq_2 _ _))
  show wpAny _ _ (asStr? (.ref x) >>= _) _ _ s
  refine wpAny_bind ?_
  unfold asStr?
  refine wpAny_bind (wpAny_load I.at_ (wpAny_pure ?_))
  exact wpAny_bind (wpAny_rule (wpAny_pure ⟨_, rfl, rfl, rfl, rfl⟩))
theorem dec_int {i : Int} {k : Tok} (I : InstAt s.heap x (instObj C dx) C od) : wpAny (model prog w) A (tryCompare (.int i k) "__eq__" (.ref x)) (fun r s' => r = none ∧ s' = s) E s := by
  have hT : s.TypeIs (.int i k) "int" := rfl
  refine wpAny_tryCompare_declines hT PySem.F.slot_int_eq (wpAny_call_entry PySem.F.slot_int_eq hT PySem.F.entry_int_eq ?_ (PySem.F.args_int_eq_2 _ _))
  show wpAny _ _ (asInt? (.ref x) >>= _) _ _ s
  refine wpAny_bind ?_
  unfold asInt?
  refine wpAny_bind (wpAny_load I.at_ (wpAny_pure ?_))
  exact wpAny_bind (wpAny_rule (wpAny_pure ⟨_, rfl, rfl, rfl, rfl⟩))
theorem dec_bool {b : Bool} (I : InstAt s.heap x (instObj C dx) C od) : wpAny (model prog w) A (tryCompare (.bool b) "__eq__" (.ref x)) (fun r s' => r = none ∧ s' = s) E s := by
  have hT : s.TypeIs (.bool b) "bool" := rfl
  refine wpAny_tryCompare_declines hT PySem.F.slot_bool_eq (wpAny_call_entry PySem.F.slot_bool_eq hT PySem.F.entry_int_eq ?_ (PySem.F.args_int_eq_2 _ _))
  show wpAny _ _ (asInt? (.ref x) >>= _) _ _ s
  refine wpAny_bind ?_
  unfold asInt?
  refine wpAny_bind (wpAny_load I.at_ (wpAny_pure ?_))
  exact wpAny_bind (wpAny_rule (wpAny_pure ⟨_, rfl, rfl, rfl, rfl⟩))
theorem dec_none : wpAny (model prog w) A (tryCompare .none "__eq__" (.ref x)) (fun r s' => r = none ∧ s' = s) E s :=
  wpAny_tryCompare_declines (show s.TypeIs .none "NoneType" from rfl) PySem.F.slot_NoneType_eq_refl (call_gives PySem.F.slot_NoneType_eq_refl rfl PySem.F.entry_NoneType_eq (PySem.F.args_NoneType_eq_2 _ _) (NoneType___eq___none_ref_0 x) ⟨rfl, rfl, rfl⟩)
end
end HE
namespace Mi
open PySem PySem.Spec PyProof.Rows L2
/- a class with an own __eq__ -/
structure EqCls (C : KM) (k : Nat) (c : Str) (cs : List Str) (g : List D → Res (D × EnvD)) : Prop where
  ex : ∃ (u f : Addr) (fd : FuncData) (ps : List Str), C.mg c = some (.ref u) ∧ PySem.W.findIn C.K (.ref u) "__eq__" = some (some (.ref f)) ∧ PySem.W.isFn C.K (.ref f) = true ∧ PySem.W.findIn C.K (.ref u) "__ne__" = some (some (.builtin "object.__ne__")) ∧
    PySem.W.mroIn C.K u (.type "object") = some true ∧ (∀ T ∈ (["tuple", "list", "str", "int", "bool", "NoneType"] : List String), PySem.W.mroIn C.K u (.type T) = some false) ∧
    (∀ c' ∈ cs, ∃ u', C.mg c' = some (.ref u') ∧ (u' = u ∨ PySem.W.mroIn C.K u' (.ref u) = some false)) ∧ Binds C.K fd ps [] ∧
    ∀ base : Heap, C.K.In base → base.Ns mainGlobals C.mg → FnOk C.P C.w C.K C.mg base (L2.CX C.P C.w) k f fd ps (spD C g)
section
variable {X : Cx} {G : Gm} {W : WX} {lv j : Nat} {g : List D → Res (D × EnvD)}
theorem run_fnA {CX : CXT} {k : Nat} {f : Addr} {fd : FuncData} {ps : List Str} {sp : Sp} {E : L2.St → XK} {pins : List (Addr × Obj)} {σ : L2.St} {H : Hp} {s : Shared} {Q : VK} {us : List Value} {vs : List V} {A : Around} (hA : A.frames = X.A.frames) (F : FnOk X.prog X.w X.K X.mg X.base CX k f fd ps sp) (hr : Room k A) (hb : Binds X.K fd ps []) (hx : PassesAt CX X σ (E σ))
    (I : L2.Inv X pins σ H s) (r : Vals vs us) (h : sp vs H Q (E σ)) : wpAny (model X.prog X.w) A (call (.ref f) us) (EP X pins σ Q) X.xe s := by
  have hl : us.length = ps.length := by rw [← r.length]; exact F.len _ _ _ _ h
  have b := hb s us I.kIn (by rw [List.append_nil]; exact hl)
  rw [List.append_nil] at b
  have e0 : Env0 X.prog X.w X.K X.mg X.base A X.stack s H := by
    have e := I.env0
    exact ⟨by rw [hA]; exact e.frames, e.mod, e.bs, e.bsz, e.funs, e.frf, e.hok, e.bare⟩
  refine wpAny_call (codeAny_mono (F.run A X.stack s H ⟨us, []⟩ us vs Q (E σ) hr e0 b r h) fun r s' hq => ?_)
  cases r with
  | error e => exact hx pins H s e s' I hq
  | ok fl =>
    cases fl with
    | ret u => exact I.after hq
    | next => exact False.elim hq
    | brk => exact False.elim hq
    | cont => exact False.elim hq
/- the own == told of two frozen things, from a world of no tags -/
theorem eq_sp {C : KM} {c : Wd} {x y : V} {d1 d2 : D} {r1 r2 : Nat} {bb : Bool} {outs : EnvD} {r : Bool} {Q : VK} (ok : Ok c) (z1 : fz d1 = true) (z2 : fz d2 = true) (p1 : Rep C c r1 [] x d1) (p2 : Rep C c r2 [] y d2) (hg : g [d1, d2] = .ok (.bl bb, outs))
    (k : ∀ z b, Grow c b → Ok b → Rep C b 0 [] z (.bl r) → Q z b.H) : spD C g [x, y] c.H (fun z H' => z = .bl bb ∧ Q (.bl r) H') (fun _ _ _ => False) := by
  refine ⟨⟨c.F, c.H, fun _ => none⟩, [d1, d2], rfl, ⟨ok.sub, fun x t h => by cases h⟩, rfl, fun i d h => ?_, ?_⟩
  · match i, h with
    | 0, h => cases h; exact ⟨x, rfl, Rep.fz (a := c) (b := ⟨c.F, c.H, fun _ => none⟩) (fun _ _ h => h) d1 [] [] x z1 p1⟩
    | 1, h => cases h; exact ⟨y, rfl, Rep.fz (a := c) (b := ⟨c.F, c.H, fun _ => none⟩) (fun _ _ h => h) d2 [] [] y z2 p2⟩
  · rw [hg]
    dsimp only
    intro b v st okb ho rp
    cases rep_bl rp
    refine ⟨rfl, ?_⟩
    have st' : ∀ x o, c.H x = some o → b.H x = some o ∧ b.t x = none ∧ b.F x = c.F x := fun x o h => st x o h rfl
    have gr : Grow c ⟨b.F, b.H, c.t⟩ := ⟨fun x o h => ⟨(st' x o h).1, rfl, (st' x o h).2.2⟩⟩
    have ok2 : Ok ⟨b.F, b.H, c.t⟩ := ⟨okb.sub, fun x t h => by
      obtain ⟨h1, o, h2⟩ := ok.own x t h
      exact ⟨by show b.F x = none; rw [(st' x o h2).2.2]; exact h1, o, (st' x o h2).1⟩⟩
    exact k (.bl r) ⟨b.F, b.H, c.t⟩ gr ok2 (by simp [Rep])
theorem resB_ok {neg : Bool} {r : Res (D × EnvD)} {d : D} (h : resB neg r = some d) : ∃ b e, r = .ok (.bl b, e) ∧ d = .bl (b != neg) := by
  match r, h with
  | .ok (.bl b, e), h => cases h; exact ⟨b, e, rfl, rfl⟩
theorem clsD_ins {d : D} {c : Str} (h : clsD d = some c) : ∃ o ns ws, d = .ins o c ns ws := by
  cases d <;> simp only [clsD] at h <;> first | (cases h; done) | (cases h; exact ⟨_, _, _, rfl⟩)
theorem rep_insF {C : KM} {a : Wd} {r : Nat} {p : List Nat} {v : V} {o : Bool} {c : Str} {ns : List Str} {ws : List D} (ok : Ok a) (z : fz (.ins o c ns ws) = true) (h : Rep C a r p v (.ins o c ns ws)) : ∃ x u dx fs, v = .ref x ∧ C.mg c = some (.ref u) ∧ a.H x = some (.ins u dx fs) := by
  simp only [fz, Bool.and_eq_true, Bool.not_eq_true'] at z
  obtain ⟨x, u, dx, vs, rfl, h1, _, h2, _⟩ := h
  rw [z.1] at h2
  rw [if_neg (by decide)] at h2
  exact ⟨x, u, dx, _, rfl, h1, ok.sub _ _ h2.1⟩
variable {tab : List (Str × (List D → Res (D × EnvD)))}
theorem look_mem {c : Str} {g : List D → Res (D × EnvD)} : ∀ {tab : List (Str × (List D → Res (D × EnvD)))}, tab.lookup c = some g → c ∈ tab.map (·.1)
  | (c', g') :: tab, h => by
    by_cases e : c = c'
    · subst e; simp
    · rw [List.lookup_cons] at h
      have : (c == c') = false := by simpa using e
      rw [this] at h
      exact List.mem_cons_of_mem _ (look_mem h)
theorem op_eqO (neg : Bool) (s : Go X G W lv) (T : ∀ c g, tab.lookup c = some g → EqCls G.C j c (tab.map (·.1)) g) (hj : j + 1 ≤ lv) : OpR X (compareOp (if neg = true then .NotEq else .Eq)) (rD G.C (eqOD tab neg)) := by
  intro pins s0 σ H x y v u Q I rx ry h
  obtain ⟨c, d1, d2, r1, r2, d, rfl, ok, p1, p2, hd, k⟩ := h
  unfold eqOD at hd
  split at hd
  case isFalse => cases hd
  rename_i zz
  obtain ⟨z1, z2⟩ := zz
  have hk : G.C.K.In X.base := by rw [← s.k]; exact I.ok.mod.kin
  have hbN : X.base.Ns mainGlobals G.C.mg := by rw [← s.m]; exact I.ok.mod.glob
  have e1 := s.p; have e2 := s.w; have e3 := s.k; have e4 := s.m
  have hu1 : X.A.units + 1 < cLine := by have := s.u; omega
  cases hc1 : clsD d1 with
  | some c1 =>
    rw [hc1] at hd
    dsimp only at hd
    split at hd
    case isFalse => cases hd
    rename_i hty
    obtain ⟨g, hl, hr⟩ := Option.bind_eq_some_iff.mp hd
    obtain ⟨bb, outs, hg, rfl⟩ := resB_ok hr
    obtain ⟨u1, f, fd, ps, q1, q2, q3, q4, q5, q6, q7, q8, q9⟩ := (T c1 g hl).ex
    have F' := q9 X.base hk hbN
    rw [← e1, ← e2, ← e3, ← e4] at F'
    rw [← e3] at q8 q2 q3 q4 q5
    obtain ⟨o, ns, ws, rfl⟩ := clsD_ins hc1
    obtain ⟨ax, u', dx, fs, rfl, g1, g2⟩ := rep_insF ok z1 p1
    rw [q1] at g1; cases g1
    cases rx
    obtain ⟨mA, J, _⟩ := ins_get I.hok g2
    obtain ⟨od, J, _⟩ := J.look
    -- the other's type
    have hy : ∃ tb, PySem.W.Looks (model X.prog X.w) s0.heap (typeOf u) tb ∧ PySem.W.notFirst X.K u1 tb = true := by
      cases ht : tyD d2 with
      | some T =>
        obtain ⟨P, kx, hp, _⟩ := kit_of I ry (by rw [e3]; exact rep_ty ok ht p2)
        exact ⟨_, kx.ty _ _ I.kIn hp, by
          have := sub_blt (K := X.K) (C := u1) ht
          simp [PySem.W.notFirst, this]⟩
      | none =>
        unfold okRt at hty
        rw [ht] at hty
        simp only [Option.isSome_none, Bool.false_or] at hty
        obtain ⟨g2, hg2⟩ := Option.isSome_iff_exists.mp hty
        obtain ⟨c2, hc2, hl2⟩ := Option.bind_eq_some_iff.mp hg2
        obtain ⟨o2, ns2, ws2, rfl⟩ := clsD_ins hc2
        obtain ⟨ay, u2, dy, fy, rfl, g3, g4⟩ := rep_insF ok z2 p2
        cases ry
        obtain ⟨mB, J2, _⟩ := ins_get I.hok g4
        obtain ⟨od2, J2, _⟩ := J2.look
        refine ⟨_, J2.type, ?_⟩
        obtain ⟨u3, g5, g6⟩ := q7 c2 (look_mem hl2)
        rw [g3] at g5; cases g5
        rw [e3]
        rcases g6 with rfl | g6
        · simp [PySem.W.notFirst]
        · simp [PySem.W.notFirst, PySem.W.subIn, g6]
    obtain ⟨tb, L, hn⟩ := hy
    have hsp := eq_sp (Q := Q) ok z1 z2 p1 p2 hg k
    have rv : Vals [V.ref ax, y] [Value.ref ax, u] := .cons rfl (.cons ry .nil)
    cases neg with
    | false =>
      obtain ⟨m, hF⟩ := I.fr
      show wpAny (model X.prog X.w) X.A (richCompare .Eq (.ref ax) u) (EP X pins σ Q) X.xe s0
      refine PySem.W.cmp_K (op := .Eq) (by omega) hF I.ok.mod.kin J L hn q2 q3 ?_
      refine wpAny_mono (run_fnA (E := WE W0) rfl F' (s.rm.mono (by omega)) q8 (passAt takes0 σ) I rv hsp) (fun r s' hq => ?_) fun _ _ e => e
      obtain ⟨z, H', I', rz, rfl, q⟩ := hq
      cases rz
      have e : (bb != false) = bb := by cases bb <;> rfl
      rw [e] at q
      exact ⟨.bl bb, H', I', rfl, q⟩
    | true =>
      show wpAny (model X.prog X.w) X.A (richCompare .NotEq (.ref ax) u) (EP X pins σ Q) X.xe s0
      refine HE.ne_K hu1 I.kIn J L hn q2 q3 q4 q5 ?_
      refine wpAny_mono (run_fnA (E := WE W0) rfl F' ((s.rm.mono hj).in1) q8 (passAt takes0 σ) I rv hsp) (fun r s' hq => ?_) fun _ _ e => e
      obtain ⟨z, H', I', rz, rfl, q⟩ := hq
      cases rz
      have e : (bb != true) = !bb := by cases bb <;> rfl
      rw [e] at q
      exact ⟨bb, rfl, .bl (!bb), H', I', rfl, q⟩
  | none =>
    rw [hc1] at hd
    dsimp only at hd
    cases hb1 : bltD d1 with
    | none => rw [hb1] at hd; cases neg <;> cases hd
    | some T1 =>
    rw [hb1] at hd
    cases hc2 : clsD d2 with
    | none => rw [hc2] at hd; cases neg <;> cases hd
    | some c2 =>
    rw [hc2] at hd
    cases neg with
    | true => cases hd
    | false =>
    dsimp only at hd
    obtain ⟨g, hl, hr⟩ := Option.bind_eq_some_iff.mp hd
    obtain ⟨bb, outs, hg, rfl⟩ := resB_ok hr
    obtain ⟨u1, f, fd, ps, q1, q2, q3, q4, q5, q6, q7, q8, q9⟩ := (T c2 g hl).ex
    have F' := q9 X.base hk hbN
    rw [← e1, ← e2, ← e3, ← e4] at F'
    rw [← e3] at q8 q2 q3 q4 q5 q6
    obtain ⟨o, ns, ws, rfl⟩ := clsD_ins hc2
    obtain ⟨ay, u', dy, fs, rfl, g1, g2⟩ := rep_insF ok z2 p2
    rw [q1] at g1; cases g1
    cases ry
    obtain ⟨mA, J, _⟩ := ins_get I.hok g2
    obtain ⟨od, J, _⟩ := J.look
    have hsp := eq_sp (Q := Q) ok z2 z1 p2 p1 hg k
    have rv : Vals [V.ref ay, x] [Value.ref ay, v] := .cons rfl (.cons rx .nil)
    have hcall : wpAny (model X.prog X.w) X.A (call (.ref f) [.ref ay, v]) (PySem.W.CmpBack (EP X pins σ Q)) X.xe s0 := by
      refine wpAny_mono (run_fnA (E := WE W0) rfl F' (s.rm.mono (by omega)) q8 (passAt takes0 σ) I rv hsp) (fun r s' hq => ?_) fun _ _ e => e
      obtain ⟨z, H', I', rz, rfl, q⟩ := hq
      cases rz
      have e : (bb != false) = bb := by cases bb <;> rfl
      rw [e] at q
      exact ⟨.bl bb, H', I', rfl, q⟩
    have hu0 : X.A.units < cLine := by omega
    show wpAny (model X.prog X.w) X.A (richCompare .Eq v (.ref ay)) (EP X pins σ Q) X.xe s0
    cases d1 <;> simp only [bltD] at hb1 <;> (try (cases hb1; done))
    case non =>
      cases rep_non p1; cases rx
      exact HE.eq_right hu0 I.kIn J (T := "NoneType") rfl (q6 _ (by simp)) rfl HE.dec_none q2 q3 hcall
    case bl b =>
      cases rep_bl p1; cases rx
      exact HE.eq_right hu0 I.kIn J (T := "bool") rfl (q6 _ (by simp)) rfl (HE.dec_bool J) q2 q3 hcall
    case int b =>
      cases rep_int p1; obtain ⟨t, rx⟩ := rx; subst rx
      exact HE.eq_right hu0 I.kIn J (T := "int") rfl (q6 _ (by simp)) rfl (HE.dec_int J) q2 q3 hcall
    case str b =>
      cases rep_str p1; obtain ⟨t, rx⟩ := rx; subst rx
      exact HE.eq_right hu0 I.kIn J (T := "str") rfl (q6 _ (by simp)) rfl (HE.dec_str J) q2 q3 hcall
    case tup l =>
      have ht := rep_ty (t := "tuple") ok rfl p1
      obtain ⟨a, vs, rfl, h1, _⟩ := rep_tup ok p1
      cases rx
      have hT : s0.TypeIs (.ref a) "tuple" := by
        obtain ⟨its, _, e, _⟩ := I.tuple (xs := vs) (by rw [e3]; exact h1)
        obtain ⟨o, w1, w2, _⟩ := e
        exact ⟨o, w1, w2⟩
      exact HE.eq_right hu0 I.kIn J (T := "tuple") hT (q6 _ (by simp)) rfl (HE.dec_tuple I.kIn J (q6 _ (by simp)) hT) q2 q3 hcall
    case lst o l =>
      have ht := rep_ty (t := "list") ok rfl p1
      obtain ⟨a, vs, rfl, h1, _⟩ := rep_lst ok p1
      cases rx
      have hT : s0.TypeIs (.ref a) "list" := by
        obtain ⟨_, its, n, _, e⟩ := I.hok a _ h1
        exact ⟨_, e, rfl⟩
      exact HE.eq_right hu0 I.kIn J (T := "list") hT (q6 _ (by simp)) rfl (HE.dec_list I.kIn J (q6 _ (by simp)) hT) q2 q3 hcall
end
end Mi
namespace Mi
open PySem PySem.Spec PyProof.Rows L2
theorem eq_def {C : KM} {N ps cs : List Str} {st : Stmt} {c qual : Str} {f u : Addr} {fd : FuncData} {lv : Nat} (io : List Nat) (m : EM FlowD) (F : Fun C.K "__eq__" qual st f fd) (S : FnScope N ps (defScope st)) (hb : Binds C.K fd ps []) (hm : C.mg c = some (.ref u))
    (h1 : PySem.W.findIn C.K (.ref u) "__eq__" = some (some (.ref f))) (h2 : PySem.W.isFn C.K (.ref f) = true) (h3 : PySem.W.findIn C.K (.ref u) "__ne__" = some (some (.builtin "object.__ne__"))) (h4 : PySem.W.mroIn C.K u (.type "object") = some true)
    (h5 : ∀ T ∈ (["tuple", "list", "str", "int", "bool", "NoneType"] : List String), PySem.W.mroIn C.K u (.type T) = some false) (h6 : ∀ c' ∈ cs, ∃ u', C.mg c' = some (.ref u') ∧ (u' = u ∨ PySem.W.mroIn C.K u' (.ref u) = some false))
    (body : ∀ (base : Heap) (cdv : Value) (A : Around) (outer : List Env) (s : Shared) (H : Hp) (E : XK) (vs : List V) (W : WX), Go (CxD C base N qual (defScope st) f cdv A outer s H E) ⟨C, vs, io⟩ W lv → PSs (CxD C base N qual (defScope st) f cdv A outer s H E) (defBody st) (tS ⟨C, vs, io⟩ W m)) :
    EqCls C (lv + 1) c cs (runD ps.length N.length io m) := ⟨u, f, fd, ps, hm, h1, h2, h3, h4, h5, h6, hb, fun base _ _ => fn_okQ io m F S base body⟩
section
variable {X : Cx} {G : Gm} {W : WX} {lv j : Nat} {a b : Expr} {ma mb : EM Arg} {pos : Pos} {tab : List (Str × (List D → Res (D × EnvD)))}
theorem r_eqO (s : Go X G W lv) (T : ∀ c g, tab.lookup c = some g → EqCls G.C j c (tab.map (·.1)) g) (hj : j + 1 ≤ lv) (ha : PE X a (tArg G W ma)) (hb : PE X b (tArg G W mb)) (hm : behindInMarks .Eq b = false := by first | rfl | exact nobehind _ (by decide) (by decide)) :
    PE X (.Compare a [.Eq] [b] pos) (tE G W (mBin (eqOD tab false) ma mb)) := (pe_cmpR (op_eqO false s T hj) ha hb hm).weak fun _ _ _ q => bin_w q
theorem r_neO (s : Go X G W lv) (T : ∀ c g, tab.lookup c = some g → EqCls G.C j c (tab.map (·.1)) g) (hj : j + 1 ≤ lv) (ha : PE X a (tArg G W ma)) (hb : PE X b (tArg G W mb)) (hm : behindInMarks .NotEq b = false := by first | rfl | exact nobehind _ (by decide) (by decide)) :
    PE X (.Compare a [.NotEq] [b] pos) (tE G W (mBin (eqOD tab true) ma mb)) := (pe_cmpR (op_eqO true s T hj) ha hb hm).weak fun _ _ _ q => bin_w q
theorem rt_eqO (s : Go X G W lv) (T : ∀ c g, tab.lookup c = some g → EqCls G.C j c (tab.map (·.1)) g) (hj : j + 1 ≤ lv) (ha : PE X a (tArg G W ma)) (hb : PE X b (tArg G W mb)) (hm : behindInMarks .Eq b = false := by first | rfl | exact nobehind _ (by decide) (by decide)) :
    PT X (.Compare a [.Eq] [b] pos) (tT G W (mTB (mBin (eqOD tab false) ma mb))) := (pt_cmpR (op_eqO false s T hj) ha hb hm).weak fun _ _ _ q => bin_w (tb_w q)
theorem rt_neO (s : Go X G W lv) (T : ∀ c g, tab.lookup c = some g → EqCls G.C j c (tab.map (·.1)) g) (hj : j + 1 ≤ lv) (ha : PE X a (tArg G W ma)) (hb : PE X b (tArg G W mb)) (hm : behindInMarks .NotEq b = false := by first | rfl | exact nobehind _ (by decide) (by decide)) :
    PT X (.Compare a [.NotEq] [b] pos) (tT G W (mTB (mBin (eqOD tab true) ma mb))) := (pt_cmpR (op_eqO true s T hj) ha hb hm).weak fun _ _ _ q => bin_w (tb_w q)
end
/-! ### isinstance of an own class -/
def isC (cs : List Str) (c : Str) : D → Option D
  | .ins _ c' _ _ => if c' ∈ cs then some (.bl (c' == c)) else none
  | d => if (tyD d).isSome = true then some (.bl false) else none
structure IsCls (C : KM) (cs : List Str) (c : Str) : Prop where
  ex : ∃ u, C.mg c = some (.ref u) ∧ ((PySem.W.clsIn C.K u).isSome && PySem.W.typeIn C.K (.ref u) == some (.type "type")) = true ∧ PySem.W.specialIn C.K (.builtin "object.__class__") "__get__" = some (some (.builtin "getset_descriptor.__get__")) ∧ PySem.W.takesIn C.K (.builtin "object.__class__") = some true ∧
    ∀ c' ∈ cs, ∃ u', C.mg c' = some (.ref u') ∧ Cls C.K u' ∧ PySem.W.findIn C.K (.ref u') "__class__" = some (some (.builtin "object.__class__")) ∧ PySem.W.mroIn C.K u' (.type "object") = some true ∧ PySem.W.kitOne C.K (.ref u') (.ref u) = some (c' == c)
theorem kit_own {K : PySem.W.Frag} {u : Addr} {d : D} {t : String} (h : tyD d = some t) (hu : ((PySem.W.clsIn K u).isSome && PySem.W.typeIn K (.ref u) == some (.type "type")) = true) : PySem.W.kitOne K (.type t) (.ref u) = some false := by
  unfold PySem.W.kitOne
  rw [if_neg (by simp)]
  show (if _ then _ else _) = _
  rw [if_pos hu]
  exact sub_blt h
section
variable {X : Cx} {G : Gm} {W : WX} {σ : L2.St} {H : Hp} {Q : VK} {a : Expr} {ma : EM Arg} {cs : List Str} {c : Str}
theorem isiC_w {u : Addr} (hm : G.C.mg c = some (.ref u)) (T : IsCls G.C cs c) (h : tE G W (mUn (isC cs c) ma) σ H Q) : tCB (rIsi G.C.K) (tCons (tArg G W ma) (tCons (tC (.ref u)) tNil)) σ H Q := by
  obtain ⟨a, env, rfl, rel, post⟩ := h
  refine tArg_of rel post fun x e b v st r ar p => ?_
  dsimp only at p
  cases hx : x.get e with
  | none => rw [hx] at p; exact (show False from p).elim
  | some d =>
    rw [hx] at p
    dsimp only at p
    obtain ⟨d', hd, k'⟩ := p.lift r
    obtain ⟨r1, p1⟩ := ar.rep r hx
    obtain ⟨u1, q1, q2, q3, q4, q5⟩ := T.ex
    rw [hm] at q1; cases q1
    cases ht : tyD d with
    | some t =>
      have e1 : isC cs c d = some (.bl false) := by
        cases d <;> simp only [tyD] at ht <;> (try (cases ht; done)) <;> simp [isC, tyD]
      rw [e1] at hd; cases hd
      exact ⟨v, .ref u, .type t, .ref u, false, rfl, .own u, rep_ty r.ok ht p1, kit_own ht q2, k' b (Grow.refl b) r.ok _ rep_ofbl⟩
    | none =>
      cases d <;> simp only [isC, ht] at hd <;> (try (cases hd; done))
      rename_i o c' ns ws
      split at hd
      case isFalse => cases hd
      rename_i hmem
      cases hd
      obtain ⟨u', g1, g2, g3, g4, g5⟩ := q5 c' hmem
      obtain ⟨y, u2, dx, vs, rfl, h1, _, h2, _⟩ := p1
      rw [g1] at h1; cases h1
      have hH : b.H y = some (.ins u' dx (ns.zip vs)) := by
        split at h2
        · exact h2.2
        · exact r.ok.sub _ _ h2.1
      exact ⟨.ref y, .ref u, .ref u', .ref u, (c' == c), rfl, .own u, .base (.ins hH g2 g3 q3 q4 g4), g5, k' b (Grow.refl b) r.ok _ rep_ofbl⟩
theorem r_isC (s : St0 X G) (cs : List Str) {p3 p pos : Pos} (T : IsCls G.C cs c) (ha : PE X a (tArg G W ma)) (h1 : G.C.mg "isinstance" = none) (hg : Gl X "isinstance") (hgt : Gl X c) (hv1 : bootBuiltins "isinstance" = some (.builtin "isinstance"))
    (hd : (c == ("__debug__" : Str)) = false := by decide)
    (hs : starEach [a, .Name c p3] X.env = (false, eval a X.env) :: starEach [.Name c p3] X.env := by rfl) (hpl : (backTo pos (starEach [Expr.Name c p3] X.env)).any (·.1) = false := by rfl) :
    PE X (.Call (.Name "isinstance" p) [a, .Name c p3] [] pos) (tE G W (mUn (isC cs c) ma)) := by
  obtain ⟨u, q1, _⟩ := T.ex
  exact (pe_callB call_isi hg (by rw [s.m]; exact h1) hv1 (pa_cons ha (pa_cons (pe_glob (v := .ref u) hgt (by rw [s.m]; exact q1) rfl hd) pa_nil) hs) (by decide) (by decide) hs hpl).weak fun _ _ _ q => by
    have := isiC_w q1 T q
    rw [s.k]; exact this
end
end Mi
namespace Mi
open PySem PySem.Spec PyProof.Rows L2
end Mi
namespace HE
open PySem PySem.Spec PyProof.Rows L2 HT
section
variable {prog : Program} {w : World} {A : Around} {E : Value → Shared → Prop} {s : Shared}
theorem places_rev (n : Nat) : Builtin.Slice.slicePlaces ((n : Int) - 1) (-1) (-1) = n := by
  unfold Builtin.Slice.slicePlaces
  rw [if_neg (by omega)]
  by_cases h : (n : Int) - 1 > -1
  · rw [if_pos h]
    simp only [Int.neg_neg, Int.ediv_one]
    omega
  · rw [if_neg h]; omega
theorem sliceApplied_rev {sl : Addr} {t : Tok} {n : Nat} {Q : Int × Int × Nat → Shared → Prop} (hs : s.heap.IsSliceOf sl .none .none (.int (-1) t)) (h : Q ((n : Int) - 1, -1, n) s) : wpAny (model prog w) A (Builtin.Slice.sliceApplied (.ref sl) (pure (n : Int))) Q E s := by
  obtain ⟨os, hos, hcs, hds⟩ := id hs
  unfold Builtin.Slice.sliceApplied Builtin.Slice.sliceFields
  refine wpAny_bind (wpAny_bind (wpAny_field hos hds (x := .none) rfl (wpAny_bind (wpAny_field hos hds (x := .none) rfl (wpAny_bind (wpAny_field hos hds (x := .int (-1) t) rfl (wpAny_pure ?_)))))))
  refine wpAny_bind (slicePart_int ?_)
  show wpAny _ _ (if ((-1 : Int) == 0) = true then _ else _) _ _ s
  rw [if_neg (by decide)]
  refine wpAny_bind (slicePart_none (wpAny_bind (slicePart_none (wpAny_bind (wpAny_pure ?_)))))
  have e : Builtin.Slice.sliceAdjust none none (-1) (n : Int) = ((n : Int) - 1, -1) := rfl
  show wpAny _ _ (match Builtin.Slice.sliceAdjust none none (-1) (n : Int) with | (lo, hi) => pure (lo, (-1 : Int), Builtin.Slice.slicePlaces lo hi (-1))) _ _ s
  rw [e]
  show wpAny _ _ (pure ((n : Int) - 1, (-1 : Int), Builtin.Slice.slicePlaces ((n : Int) - 1) (-1) (-1))) _ _ s
  rw [places_rev]
  exact wpAny_pure h
theorem fmap_cg {α β : Type} {f g : α → Option β} : ∀ {l : List α}, (∀ a ∈ l, f a = g a) → l.filterMap f = l.filterMap g
  | [], _ => rfl
  | a :: l, h => by rw [List.filterMap_cons, List.filterMap_cons, h a List.mem_cons_self, fmap_cg fun b hb => h b (List.mem_cons_of_mem _ hb)]
theorem size_rep {α : Type} (a : Array α) : ∀ (m : Nat) (acc : Array α), ((List.replicate m a).foldl (· ++ ·) acc).size = acc.size + m * a.size
  | 0, acc => by simp
  | m + 1, acc => by rw [List.replicate_succ, List.foldl_cons, size_rep a m, Array.size_append, Nat.succ_mul]; omega
theorem pick_rev (xs : Array Value) : ((List.range xs.size).filterMap fun (m : Nat) => xs[((xs.size : Int) - 1 + (m : Int) * (-1)).toNat]?).toArray = xs.toList.reverse.toArray := by
  have h := pick_gen xs.toList.reverse.toArray 0 xs.size
  have e : ((List.range xs.size).filterMap fun (m : Nat) => xs[((xs.size : Int) - 1 + (m : Int) * (-1)).toNat]?) = ((List.range xs.size).filterMap fun (m : Nat) => xs.toList.reverse.toArray[(((0 : Nat) : Int) + (m : Int) * 1).toNat]?) := by
    refine fmap_cg fun m hm => ?_
    have hm := List.mem_range.mp hm
    have e1 : ((xs.size : Int) - 1 + (m : Int) * (-1)).toNat = xs.size - 1 - m := by omega
    have e2 : (((0 : Nat) : Int) + (m : Int) * 1).toNat = m := by omega
    rw [e1, e2]
    have e3 : xs.toList.reverse.toArray[m]? = xs.toList.reverse[m]? := by simp
    rw [e3, List.getElem?_reverse (by rw [Array.length_toList]; exact hm), Array.length_toList]
    simp
  rw [e, h]
  congr 1
  simp only [List.drop_zero]
  exact List.take_of_length_le (by simp)
theorem getItem_tuple_rev {t sl : Addr} {items : Array Value} {k : Tok} {Q : Value → Shared → Prop} (ht : IsTup s.heap t items) (hs : s.heap.IsSliceOf sl .none .none (.int (-1) k))
    (h : Q (.ref s.heap.objs.size) { s with heap := s.heap.push { cls := .type "tuple", data := .seq items.toList.reverse.toArray } }) (hsz : items.size ≤ sizeLine) : wpAny (model prog w) A (getItem (.ref t) (.ref sl)) Q E s := by
  have htake : sizeOk (.seq items.toList.reverse.toArray) := by
    show items.toList.reverse.toArray.size ≤ sizeLine
    rw [List.size_toArray, List.length_reverse, Array.length_toList]
    exact hsz
  obtain ⟨os, hos, hcs, hds⟩ := id hs
  have hTs : s.TypeIs (.ref sl) "slice" := ⟨os, hos, hcs⟩
  unfold getItem
  try with_reducible refine wpAny_holding ?_
  first | refine wpAny_bind (wpAny_pure ?_) | skip
  refine wpAny_bind (wpAny_sequenceKey ht.typeIs (by decide) ?_)
  refine wpAny_bind (wpAny_callSpecial?_slot (name := Str.ofString "__getitem__") ht.typeIs PyProof.Rows.slot_tuple_getitem
    (wpAny_call_entry PyProof.Rows.slot_tuple_getitem ht.typeIs entry_tuple_getitem ?_ (args_tuple_getitem _ _)))
  show wpAny _ _ (Builtin.Tuple.tupleItemsOf (.ref t) >>= _) _ _ s
  refine wpAny_bind (tupleItemsOf_ ht ?_)
  refine wpAny_bind (wpAny_typeOf hTs ?_)
  rw [if_pos (by decide)]
  refine wpAny_bind (sliceApplied_rev hs ?_)
  have hno : ¬ ((((items.size : Int) - 1) == 0 && (-1 : Int) == 1 && items.size == items.size) = true) := by
    intro q
    rw [Bool.and_eq_true, Bool.and_eq_true] at q
    have q1 : (-1 : Int) = 1 := eq_of_beq q.1.2
    omega
  show wpAny _ _ (if (((items.size : Int) - 1) == 0 && (-1 : Int) == 1 && items.size == items.size) = true then _ else _) _ _ s
  rw [if_neg hno, pick_rev]
  first
    | exact wpAny_bind (wpAny_newObj_type (wpAny_pure ⟨_, rfl, wpAny_pure h⟩) htake)
    | exact wpAny_bind (wpAny_bind (wpAny_newObj_type (wpAny_pure ⟨_, rfl, wpAny_pure h⟩) htake))
    | exact wpAny_bind (wpAny_newObj_type (wpAny_bind (wpAny_pure (wpAny_pure ⟨_, rfl, wpAny_pure h⟩))) htake)
end
end HE
namespace Mi
open PySem PySem.Spec PyProof.Rows L2
def tRevT (K : PySem.W.Frag) (te : TE) : TE := fun σ H Q => te σ H fun x H1 => ∃ a xs, x = .ref a ∧ SqT K H1 a xs ∧ TupNew Q H1 xs.reverse
theorem pe_revT {X : Cx} {e : Expr} {te : TE} {k : Nat} {p1 p2 p3 pos : Pos} (he : PE X e te) : PE X (.Subscript e (.Slice none none (some (.UnaryOp .USub (.Constant (.int 1) k p1) p2)) p3) pos) (tRevT X.K te) := by
  refine ⟨fun pins s σ H Q I h => ?_⟩
  refine Subscript_ (thn (he.run pins s σ H _ I h) fun v s1 ⟨x, H1, I1, r1, q1⟩ => ?_)
  obtain ⟨a, xs, ex, hx, q⟩ := q1
  subst ex
  cases r1
  have hst : PO X (some (.UnaryOp .USub (.Constant (.int 1) k p1) p2)) (tPart (tUn (rU fun i => .int (-i)) (tC (.int 1)))) := po_some (pe_un un_neg pe_int)
  refine wpAny_Slice (thn (po_none.run pins s1 σ H1 (fun o H2 => o = none ∧ H2 = H1) I1 ⟨rfl, rfl⟩) fun vl s2 ⟨l, H2, I2, pl, el, e2⟩ => ?_)
  subst el e2
  refine thn (po_none.run pins s2 σ H2 (fun o H3 => o = none ∧ H3 = H2) I2 ⟨rfl, rfl⟩) fun vu s3 ⟨u, H3, I3, pu, eu, e3⟩ => ?_
  subst eu e3
  refine thn (hst.run pins s3 σ H3 (fun o H4 => o = some (-1) ∧ H4 = H3) I3 ⟨1, rfl, -1, rfl, rfl, rfl⟩) fun vs s4 ⟨o, H4, I4, ps, eo, e4⟩ => ?_
  subst eo e4
  have I5 : Inv X pins σ H4 { s4 with heap := s4.heap.push { cls := .type "slice", data := .fields #[vl, vu, vs] } } := I4.kept (t' := s4.toks) fun b ob q => Heap.get?_push_of_some _ q
  obtain ⟨its, r, ht, hz⟩ := I5.tuple hx
  have hlen := r.length
  cases pl; cases pu; cases ps
  show wpAny (model X.prog X.w) X.A (subscriptTail e (.Slice none none (some (.UnaryOp .USub (.Constant (.int 1) k p1) p2)) p3) (.ref a) (.ref s4.heap.objs.size)) (EP X pins σ Q) X.xe _
  refine tail_any (ops := [.ref a, .ref s4.heap.objs.size]) ht.typeIs (PyProof.Rows.slot_tuple_getitem.lookup) ?_ (by with_unfolding_all rfl)
  refine HE.getItem_tuple_rev ht (Heap.IsSliceOf.new _ _ _ _) ?_ (by rw [List.size_toArray]; omega)
  exact lay_tup I5 r.reverse (by rw [List.length_reverse]; exact hz) q
def revT : D → Option D
  | .tup l => if fzL l = true then some (.tup l.reverse) else none
  | _ => none
section
variable {X : Cx} {G : Gm} {W : WX} {σ : L2.St} {H : Hp} {Q : VK} {e a b : Expr} {ma mb : EM Arg} {pos : Pos}
theorem r_revT (s : St0 X G) {k : Nat} {p1 p2 p3 pos : Pos} (ha : PE X e (tArg G W ma)) : PE X (.Subscript e (.Slice none none (some (.UnaryOp .USub (.Constant (.int 1) k p1) p2)) p3) pos) (tE G W (mUn revT ma)) :=
  (pe_revT ha).weak fun σ H Q q => by
    obtain ⟨a, env, rfl, rel, post⟩ := q
    refine tArg_of rel post fun x e b v st r ar p => ?_
    dsimp only at p
    cases hx : x.get e with
    | none => rw [hx] at p; exact (show False from p).elim
    | some d =>
      rw [hx] at p
      dsimp only at p
      obtain ⟨d', hd, k'⟩ := p.lift r
      obtain ⟨r1, p1⟩ := ar.rep r hx
      match d, hd, p1 with
      | .tup l, hd, p1 =>
        simp only [revT] at hd
        split at hd
        · rename_i z; cases hd
          obtain ⟨x1, vs, rfl, h1, h2⟩ := rep_tup r.ok p1
          refine ⟨x1, vs, rfl, by rw [← s.k] at h1; exact h1, ?_⟩
          exact new_tup r.ok (fzL_rev z) (repL_rev (s := 0) (q := []) (m := 0) z h2) fun z b' gr ok rp => k' b' gr ok z rp
        · cases hd
/-! ### text * int -/
def repS (s : Str) (n : Int) : Str := if n < 1 then Str.empty else if (n == 1 || s.length == 0) = true then s else ⟨(List.replicate n.toNat s.cps).foldl (· ++ ·) #[]⟩
def mulSD : D → D → Option D
  | .str s, .int n => if s.length ≤ 1000 ∧ 0 ≤ n ∧ n ≤ 1000 then some (.str (repS s n)) else none
  | _, _ => none
theorem op_mulS : OpR X (binaryOp .Mult) (rD G.C mulSD) := by
  intro pins s0 σ H x y v u Q I rx ry h
  obtain ⟨c, d1, d2, r1, r2, d, rfl, ok, p1, p2, hd, k⟩ := h
  match d1, d2, hd, p1, p2 with
  | .str s, .int n, hd, p1, p2 =>
    simp only [mulSD] at hd
    split at hd
    · rename_i hz
      obtain ⟨h1, h2, h3⟩ := hz
      cases hd
      cases rep_str p1; cases rep_int p2
      obtain ⟨t, rfl⟩ := rx
      obtain ⟨t2, rfl⟩ := ry
      have kk := k (.str (repS s n)) c (Grow.refl c) ok (by simp [Rep])
      have hmul : s.length * n.toNat ≤ 1000000 := by
        have := Nat.mul_le_mul h1 (show n.toNat ≤ 1000 by omega)
        omega
      refine PySem.P.mul_str (by rw [decide_eq_false (by omega), decide_eq_false (by omega)]; rfl) (fun g1 g2 => ?_) (fun g1 g2 => ?_) ?_
      · have : (1000 : Int) ≤ (2 ^ 63 - 1) / n := by
          rw [Int.le_ediv_iff_mul_le (by omega)]
          omega
        omega
      · unfold Builtin.Str.tooLong
        rw [szl]
        exact decide_eq_false (by omega)
      · unfold repS at kk
        split
        · rename_i g; rw [if_pos g] at kk
          exact ⟨by decide, .str Str.empty, c.H, I.tok _, ⟨_, rfl⟩, kk⟩
        · rename_i g; rw [if_neg g] at kk
          split
          · rename_i g'; rw [if_pos g'] at kk
            exact ⟨.str s, c.H, I, ⟨_, rfl⟩, kk⟩
          · rename_i g'; rw [if_neg g'] at kk
            refine ⟨?_, .str _, c.H, I.tok _, ⟨_, rfl⟩, kk⟩
            show ((List.replicate n.toNat s.cps).foldl (· ++ ·) #[]).size ≤ sizeLine
            rw [HE.size_rep, szl]
            have e1 : s.cps.size = s.length := rfl
            rw [e1, Nat.mul_comm]
            show 0 + _ ≤ _
            omega
    · cases hd
theorem r_mulS (s : St0 X G) (ha : PE X a (tArg G W ma)) (hb : PE X b (tArg G W mb)) : PE X (.BinOp a .Mult b pos) (tE G W (mBin mulSD ma mb)) :=
  (pe_op op_mulS ha hb).weak fun _ _ _ q => bin_w q
end
end Mi
namespace Mi
open PySem PySem.Spec PyProof.Rows L2
theorem cls_two {K : PySem.W.Frag} {u : Addr} (h1 : PySem.W.isClsIn K u = true) (h2 : PySem.W.typeIn K (.ref u) = some (.type "type")) : ((PySem.W.clsIn K u).isSome && PySem.W.typeIn K (.ref u) == some (.type "type")) = true := by
  unfold PySem.W.isClsIn at h1
  rw [h1, h2]
  rfl
theorem kit_two {K : PySem.W.Frag} {y u : Addr} {b : Bool} (hne : y ≠ u) (h1 : PySem.W.isClsIn K u = true) (h2 : PySem.W.typeIn K (.ref u) = some (.type "type")) (h3 : PySem.W.subIn K (.ref y) (.ref u) = some false) (hb : b = false) : PySem.W.kitOne K (.ref y) (.ref u) = some b := by
  subst hb
  unfold PySem.W.kitOne
  rw [if_neg (by simpa using hne)]
  show (if _ then _ else _) = _
  rw [if_pos (cls_two h1 h2)]
  exact h3
end Mi
namespace Mi
open PySem PySem.Spec PyProof.Rows L2
def cs_book : List Str := ["Party"]
def cs_demands : List Str := ["Book"]
def cs_kept : List Str := ["Party"]
def cs_names : List Str := ["Party"]
def cs_tables : List Str := ["Book"]
def cs_world : List Str := ["Book"]
def clsl : List Str := ["Book", "Party"]
def m__law_deck : EM FlowD :=
  mRet (mLst (mArgs [mFrz (mLc (mIt1 (mFrz (mSl (mVarA 0) (mNoP) (mPart (mC (.int 63)))))) (.nm 1) (mYes) (mCB intD (mArgs [mVarA 1])) [1]), mFrz (mC (.int 0)), mFrz (mC (.int 0)), mFrz (mC (.int 0))]))
def g__law_deck : List D → Res (D × EnvD) := runD 1 2 [0] m__law_deck
def m__law_pick : EM FlowD :=
  mSeq (mSetX 0 (mC (.int 3)) (mBin addD (mFrz (mBin ixD (mVarA 0) (mFrz (mC (.int 3))))) (mFrz (mC (.int 1)))))
  (mSeq (mIfS (mTB (mBin gtD (mFrz (mBin ixD (mVarA 0) (mFrz (mC (.int 2))))) (mFrz (mC (.int 0))))) (mSeq (mAsg 2 (mBin modD (mFrz (mCB intD (mArgs [mFrz (mBin ixD (mVarA 0) (mFrz (mC (.int 2))))]))) (mVarA 1)))
  (mSeq (mSetX 0 (mC (.int 2)) (mBin fdivD (mFrz (mCB intD (mArgs [mFrz (mBin ixD (mVarA 0) (mFrz (mC (.int 2))))]))) (mVarA 1)))
  (mRet (mVarM 2 2)))) (mNext))
  (mSeq (mAsg 3 (mBin ixD (mVarA 0) (mFrz (mC (.int 0)))))
  (mSeq (mAsg 4 (mC (.int 0)))
  (mSeq (mIfS (mTB (mBin gtD (mFrz (mCB lenD (mArgs [mVarA 3]))) (mFrz (mC (.int 0))))) (mAsg 4 (mBin ixD (mVarA 3) (mFrz (mBin modD (mFrz (mCB intD (mArgs [mFrz (mBin ixD (mVarA 0) (mFrz (mC (.int 1))))]))) (mFrz (mCB lenD (mArgs [mVarA 3]))))))) (mNext))
  (mSeq (mSetX 0 (mC (.int 1)) (mBin addD (mFrz (mBin ixD (mVarA 0) (mFrz (mC (.int 1))))) (mFrz (mC (.int 1)))))
  (mSeq (mIfS (mAndT (mTB (mBin geD (mVarA 4) (mFrz (mBin powD (mFrz (mC (.int 10))) (mFrz (mC (.int 18))))))) (mTB (mBin leD (mFrz (mBin ixD (mVarA 0) (mFrz (mC (.int 1))))) (mFrz (mCB lenD (mArgs [mVarA 3])))))) (mSeq (mSetX 0 (mC (.int 2)) (mBin fdivD (mFrz (mCB intD (mArgs [mVarA 4]))) (mVarA 1)))
  (mRet (mBin modD (mFrz (mCB intD (mArgs [mVarA 4]))) (mVarA 1)))) (mNext))
  (mSeq (mAsg 5 (mBin modD (mFrz (mBin mulD (mFrz (mCB intD (mArgs [mFrz (mBin addD (mFrz (mBin addD (mVarA 4) (mFrz (mBin mulD (mFrz (mC (.int 7919))) (mFrz (mBin ixD (mVarA 0) (mFrz (mC (.int 3))))))))) (mFrz (mC (.int 1))))]))) (mFrz (mC (.int 48271))))) (mFrz (mC (.int 2147483647)))))
  (mSeq (mAsg 5 (mBin modD (mFrz (mBin mulD (mVarA 5) (mFrz (mBin addD (mFrz (mBin fdivD (mVarA 5) (mFrz (mC (.int 1009))))) (mFrz (mC (.int 69621))))))) (mFrz (mC (.int 2147483647)))))
  (mSeq (mAsg 5 (mBin modD (mFrz (mBin mulD (mVarA 5) (mFrz (mBin addD (mFrz (mBin fdivD (mVarA 5) (mFrz (mC (.int 2003))))) (mFrz (mC (.int 40692))))))) (mFrz (mC (.int 2147483399)))))
  (mRet (mBin modD (mVarA 5) (mVarA 1))))))))))))
def g__law_pick : List D → Res (D × EnvD) := runD 2 6 [0, 1] m__law_pick
def m__law_tables : EM FlowD :=
  mSeq (mAsg 1 (mDic0))
  (mSeq (mFor (mIt (mArgs [mFrz (mBin addD (mFrz (mC (.int 1))) (mFrz (mCall g__law_pick (mArgs [mVarA 0, mFrz (mC (.int 2))]))))]) rng1) (.nm 2) (mSetX 1 (mBin mulSD (mFrz (mBin ixD (mFrz (mC (.str "kmyz"))) (mFrz (mCall g__law_pick (mArgs [mVarA 0, mFrz (mC (.int 4))]))))) (mFrz (mBin addD (mFrz (mC (.int 1))) (mFrz (mCall g__law_pick (mArgs [mVarA 0, mFrz (mC (.int 2))])))))) (mCall g__law_pick (mArgs [mVarA 0, mFrz (mC (.int 3))]))))
  (mRet (mCB tupleD (mArgs [mFrz (mLc (mIt1 (mFrz (mCB sortX (mArgs [mFrz (mCB listY (mArgs [mVarA 1]))])))) (.nm 3) (mYes) (mTup (mArgs [mFrz (mVarE 3), mFrz (mBin ixD (mVarA 1) (mVarA 3))])) [3])]))))
def g__law_tables : List D → Res (D × EnvD) := runD 1 4 [0] m__law_tables
def m__law_other_factor : EM FlowD :=
  mSeq (mAsg 2 (mCall g__law_pick (mArgs [mVarA 0, mFrz (mCB lenD (mArgs [mVarA 1]))])))
  (mSeq (mAsgT (.tp [(.nm 3), (.nm 4)]) (mBin ixD (mVarA 1) (mVarA 2)))
  (mSeq (mAsg 5 (mCall g__law_pick (mArgs [mVarA 0, mFrz (mCB lenD (mArgs [mVarA 3]))])))
  (mSeq (mAsgT (.tp [(.nm 6), (.nm 7), (.nm 8)]) (mBin ixD (mVarA 3) (mVarA 5)))
  (mSeq (mAsg 9 (mBin addD (mFrz (mBin addD (mFrz (mSl (mVarA 3) (mNoP) (mPart (mVarE 5)))) (mFrz (mTup (mArgs [mFrz (mTup (mArgs [mFrz (mBin addD (mFrz (mBin fdivD (mVarA 6) (mFrz (mC (.int 2))))) (mFrz (mC (.int 3)))), mFrz (mVarE 7), mFrz (mVarE 8)]))]))))) (mFrz (mSl (mVarA 3) (mPart (mBin addD (mVarA 5) (mFrz (mC (.int 1))))) (mNoP)))))
  (mRet (mBin addD (mFrz (mBin addD (mFrz (mSl (mVarA 1) (mNoP) (mPart (mVarE 2)))) (mFrz (mTup (mArgs [mFrz (mTup (mArgs [mFrz (mVarE 9), mFrz (mVarE 4)]))]))))) (mFrz (mSl (mVarA 1) (mPart (mBin addD (mVarA 2) (mFrz (mC (.int 1))))) (mNoP)))))))))
def g__law_other_factor : List D → Res (D × EnvD) := runD 2 10 [0, 1] m__law_other_factor
def m__law_other_right : EM FlowD :=
  mSeq (mAsg 2 (mCall g__law_pick (mArgs [mVarA 0, mFrz (mCB lenD (mArgs [mVarA 1]))])))
  (mSeq (mAsgT (.tp [(.nm 3), (.nm 4)]) (mBin ixD (mVarA 1) (mVarA 2)))
  (mRet (mBin addD (mFrz (mBin addD (mFrz (mSl (mVarA 1) (mNoP) (mPart (mVarE 2)))) (mFrz (mTup (mArgs [mFrz (mTup (mArgs [mFrz (mVarE 3), mFrz (mBin addD (mFrz (mBin fdivD (mVarA 4) (mFrz (mC (.int 2))))) (mFrz (mC (.int 1))))]))]))))) (mFrz (mSl (mVarA 1) (mPart (mBin addD (mVarA 2) (mFrz (mC (.int 1))))) (mNoP))))))
def g__law_other_right : List D → Res (D × EnvD) := runD 2 5 [0, 1] m__law_other_right
def m__law_others : EM FlowD :=
  mSeq (mAsgT (.tp [(.nm 2), (.nm 3), (.nm 4)]) (mVarE 1))
  (mSeq (mAsg 5 (mLst (mArgs [mFrz (mVarE 1), mFrz (mTup (mArgs [mFrz (mBin modD (mFrz (mCB intD (mArgs [mFrz (mBin addD (mVarA 2) (mFrz (mC (.int 1))))]))) (mFrz (mC (.int 1001)))), mFrz (mVarE 3), mFrz (mVarE 4)])), mFrz (mTup (mArgs [mFrz (mVarE 2), mFrz (mVarE 3), mFrz (mUn revT (mVarA 4))]))])))
  (mSeq (mDrop (mMet 5 (mArgs [mFrz (mTup (mArgs [mFrz (mVarE 2), mFrz (mVarE 3), mFrz (mSl (mVarA 4) (mNoP) (mPart (mUn negD (mFrz (mC (.int 1))))))]))]) appF))
  (mSeq (mDrop (mMet 5 (mArgs [mFrz (mTup (mArgs [mFrz (mVarE 2), mFrz (mBin addD (mVarA 3) (mFrz (mTup (mArgs [mFrz (mTup (mArgs [mFrz (mC (.str "zzzz")), mFrz (mCall g__law_pick (mArgs [mVarA 0, mFrz (mC (.int 3))]))]))])))), mFrz (mVarE 4)]))]) appF))
  (mSeq (mAsg 6 (mTup (mArgs [mFrz (mTup (mArgs [mFrz (mC (.str "zzzzz")), mFrz (mC (.int 1))]))])))
  (mSeq (mDrop (mMet 5 (mArgs [mFrz (mTup (mArgs [mFrz (mVarE 2), mFrz (mBin addD (mVarA 3) (mVarA 6)), mFrz (mVarE 4)]))]) appF))
  (mSeq (mIfS (mTB (mBin gtD (mFrz (mCB lenD (mArgs [mVarA 4]))) (mFrz (mC (.int 0))))) (mSeq (mDrop (mMet 5 (mArgs [mFrz (mTup (mArgs [mFrz (mVarE 2), mFrz (mVarE 3), mFrz (mCall g__law_other_factor (mArgs [mVarA 0, mVarA 4]))]))]) appF))
  (mSeq (mDrop (mMet 5 (mArgs [mFrz (mTup (mArgs [mFrz (mVarE 2), mFrz (mVarE 3), mFrz (mCall g__law_other_right (mArgs [mVarA 0, mVarA 4]))]))]) appF))
  (mDrop (mMet 5 (mArgs [mFrz (mTup (mArgs [mFrz (mVarE 2), mFrz (mVarE 3), mFrz (mBin addD (mVarA 4) (mFrz (mSl (mVarA 4) (mNoP) (mPart (mC (.int 1))))))]))]) appF)))) (mNext))
  (mRet (mVarM 2 5))))))))
def g__law_others : List D → Res (D × EnvD) := runD 2 7 [0, 1] m__law_others
def m_is_integer : EM FlowD :=
  mRet (mAndV (mIsi .tInt (mVarA 0)) (mNotV (mIsi .tBool (mVarA 0))))
def g_is_integer : List D → Res (D × EnvD) := runD 1 1 [0] m_is_integer
def m_is_within : EM FlowD :=
  mRet (mAndV (mCall g_is_integer (mArgs [mVarA 0])) (mChain leD leD (mVarA 1) (mVarA 0) (mVarA 2)))
def g_is_within : List D → Res (D × EnvD) := runD 3 3 [0, 1, 2] m_is_within
def m_is_world : EM FlowD :=
  mRet (mCall g_is_within (mArgs [mVarA 0, mFrz (mC (.int 0)), mFrz (mC (.int 1000))]))
def g_is_world : List D → Res (D × EnvD) := runD 1 1 [0] m_is_world
def m_are_unlike : EM FlowD :=
  mRet (mBin eqD (mFrz (mCB lenD (mArgs [mFrz (mDc (mIt1 (mFrz (mVarE 0))) (.nm 1) (mYes) (mVarA 1) (mC (.bl true)) [1])]))) (mFrz (mCB lenD (mArgs [mVarA 0]))))
def g_are_unlike : List D → Res (D × EnvD) := runD 1 2 [0] m_are_unlike
def m_is_pair : EM FlowD :=
  mRet (mAndV (mIsi .tTup (mVarA 0)) (mBin eqD (mFrz (mCB lenD (mArgs [mVarA 0]))) (mFrz (mC (.int 2)))))
def g_is_pair : List D → Res (D × EnvD) := runD 1 1 [0] m_is_pair
def m_is_of : EM FlowD :=
  mRet (mAndV (mIsi .tStr (mVarA 0)) (mAndV (mChain leD leD (mFrz (mC (.int 1))) (mFrz (mCB lenD (mArgs [mVarA 0]))) (mFrz (mC (.int 8)))) (mCB allD (mArgs [mFrz (mLc (mIt1 (mFrz (mVarE 0))) (.nm 2) (mYes) (mBin inD (mVarA 2) (mVarA 1)) [2])]))))
def g_is_of : List D → Res (D × EnvD) := runD 2 3 [0, 1] m_is_of
def m_is_label : EM FlowD :=
  mRet (mCall g_is_of (mArgs [mVarA 0, mFrz (mC (.str "abcdefghijklmnopqrstuvwxyz"))]))
def g_is_label : List D → Res (D × EnvD) := runD 1 1 [0] m_is_label
def m_is_table : EM FlowD :=
  mRet (mAndV (mCall g_is_pair (mArgs [mVarA 0])) (mAndV (mCall g_is_label (mArgs [mFrz (mBin ixD (mVarA 0) (mFrz (mC (.int 0))))])) (mCall g_is_within (mArgs [mFrz (mBin ixD (mVarA 0) (mFrz (mC (.int 1)))), mFrz (mC (.int 0)), mFrz (mC (.int 3))]))))
def g_is_table : List D → Res (D × EnvD) := runD 1 1 [0] m_is_table
def m_are_tables : EM FlowD :=
  mSeq (mIfS (mOrT (mNotT (mTB (mIsi .tTup (mVarA 0)))) (mOrT (mNotT (mTB (mChain leD leD (mFrz (mC (.int 1))) (mFrz (mCB lenD (mArgs [mVarA 0]))) (mFrz (mC (.int 4)))))) (mNotT (mTB (mCB allD (mArgs [mFrz (mLc (mIt1 (mFrz (mVarE 0))) (.nm 1) (mYes) (mCall g_is_table (mArgs [mVarA 1])) [1])])))))) (mRet (mC (.bl false))) (mNext))
  (mSeq (mAsg 2 (mLc (mIt1 (mFrz (mVarE 0))) (.nm 1) (mYes) (mBin ixD (mVarA 1) (mFrz (mC (.int 0)))) [1]))
  (mSeq (mIfS (mOrT (mTB (mBin neD (mVarA 2) (mFrz (mCB sortX (mArgs [mVarA 2]))))) (mNotT (mTB (mCall g_are_unlike (mArgs [mVarA 2]))))) (mRet (mC (.bl false))) (mNext))
  (mRet (mBin leD (mFrz (mCB lenD (mArgs [mFrz (mLc (mIt1 (mFrz (mVarE 0))) (.nm 1) (mTB (mBin eqD (mFrz (mBin ixD (mVarA 1) (mFrz (mC (.int 1))))) (mFrz (mC (.int 3))))) (mVarE 1) [1])]))) (mFrz (mC (.int 1)))))))
def g_are_tables : List D → Res (D × EnvD) := runD 1 3 [0] m_are_tables
def m_is_term : EM FlowD :=
  mSeq (mIfS (mOrT (mNotT (mTB (mIsi .tTup (mVarA 1)))) (mOrT (mTB (mBin neD (mFrz (mCB lenD (mArgs [mVarA 1]))) (mFrz (mC (.int 3))))) (mNotT (mTB (mCall g_is_within (mArgs [mFrz (mBin ixD (mVarA 1) (mFrz (mC (.int 0)))), mFrz (mUn negD (mFrz (mC (.int 99)))), mFrz (mC (.int 99))])))))) (mRet (mC (.bl false))) (mNext))
  (mSeq (mIfS (mOrT (mTB (mBin eqD (mFrz (mBin ixD (mVarA 1) (mFrz (mC (.int 0))))) (mFrz (mC (.int 0))))) (mOrT (mNotT (mTB (mIsi .tStr (mFrz (mBin ixD (mVarA 1) (mFrz (mC (.int 1)))))))) (mOrT (mTB (mBin ninD (mFrz (mBin ixD (mVarA 1) (mFrz (mC (.int 1))))) (mVarA 0))) (mNotT (mTB (mIsi .tStr (mFrz (mBin ixD (mVarA 1) (mFrz (mC (.int 2))))))))))) (mRet (mC (.bl false))) (mNext))
  (mSeq (mIfS (mOrT (mTB (mBin neD (mFrz (mCB lenD (mArgs [mFrz (mBin ixD (mVarA 1) (mFrz (mC (.int 2))))]))) (mFrz (mBin ixD (mVarA 0) (mFrz (mBin ixD (mVarA 1) (mFrz (mC (.int 1))))))))) (mNotT (mTB (mCall g_are_unlike (mArgs [mFrz (mBin ixD (mVarA 1) (mFrz (mC (.int 2))))]))))) (mRet (mC (.bl false))) (mNext))
  (mRet (mCB allD (mArgs [mFrz (mLc (mIt1 (mFrz (mBin ixD (mVarA 1) (mFrz (mC (.int 2)))))) (.nm 2) (mYes) (mBin inD (mVarA 2) (mFrz (mC (.str "abcd")))) [2])])))))
def g_is_term : List D → Res (D × EnvD) := runD 2 3 [0, 1] m_is_term
def m_is_demand : EM FlowD :=
  mSeq (mIfS (mOrT (mNotT (mTB (mCall g_is_pair (mArgs [mVarA 1])))) (mOrT (mNotT (mTB (mIsi .tTup (mFrz (mBin ixD (mVarA 1) (mFrz (mC (.int 0)))))))) (mNotT (mTB (mChain leD leD (mFrz (mC (.int 1))) (mFrz (mCB lenD (mArgs [mFrz (mBin ixD (mVarA 1) (mFrz (mC (.int 0))))]))) (mFrz (mC (.int 8)))))))) (mRet (mC (.bl false))) (mNext))
  (mRet (mAndV (mCB allD (mArgs [mFrz (mLc (mIt1 (mFrz (mBin ixD (mVarA 1) (mFrz (mC (.int 0)))))) (.nm 2) (mYes) (mCall g_is_term (mArgs [mVarA 0, mVarA 2])) [2])])) (mCall g_is_within (mArgs [mFrz (mBin ixD (mVarA 1) (mFrz (mC (.int 1)))), mFrz (mUn negD (mFrz (mC (.int 999)))), mFrz (mC (.int 999))]))))
def g_is_demand : List D → Res (D × EnvD) := runD 2 3 [0, 1] m_is_demand
def m_Book__init : EM FlowD :=
  mSeq (mIfS (mNotT (mTB (mCall g_is_world (mArgs [mVarA 1])))) (mBad) (mNext))
  (mSeq (mIfS (mNotT (mTB (mCall g_are_tables (mArgs [mVarA 2])))) (mBad) (mNext))
  (mSeq (mIfS (mOrT (mNotT (mTB (mIsi .tTup (mVarA 3)))) (mTB (mBin gtD (mFrz (mCB lenD (mArgs [mVarA 3]))) (mFrz (mC (.int 6)))))) (mBad) (mNext))
  (mSeq (mIfS (mNotT (mTB (mCB allD (mArgs [mFrz (mLc (mIt1 (mFrz (mVarE 3))) (.nm 4) (mYes) (mCall g_is_demand (mArgs [mFrz (mCB dictD (mArgs [mVarA 2])), mVarA 4])) [4])])))) (mBad) (mNext))
  (mSeq (mFSet 0 cs_world "world" (mVarE 1))
  (mSeq (mFSet 0 cs_tables "tables" (mVarE 2))
  (mFSet 0 cs_demands "demands" (mVarE 3)))))))
def g_Book__init : List D → Res (D × EnvD) := runD 4 5 [0, 1, 2, 3] m_Book__init
def m__law_is_kept : EM FlowD :=
  mSeq (mIfS (mOrT (mNotT (mTB (mIsi .tTup (mFrz (mUn (fldG cs_tables "tables") (mVarA 0)))))) (mOrT (mNotT (mTB (mIsi .tTup (mFrz (mUn (fldG cs_demands "demands") (mVarA 0)))))) (mTB (mIsi .tBool (mFrz (mUn (fldG cs_world "world") (mVarA 0))))))) (mRet (mC (.bl false))) (mNext))
  (mRet (mAndV (mBin eqD (mFrz (mUn (fldG cs_world "world") (mVarA 0))) (mFrz (mBin ixD (mVarA 1) (mFrz (mC (.int 0)))))) (mAndV (mBin eqD (mFrz (mUn (fldG cs_tables "tables") (mVarA 0))) (mFrz (mBin ixD (mVarA 1) (mFrz (mC (.int 1)))))) (mBin eqD (mFrz (mUn (fldG cs_demands "demands") (mVarA 0))) (mFrz (mBin ixD (mVarA 1) (mFrz (mC (.int 2)))))))))
def g__law_is_kept : List D → Res (D × EnvD) := runD 2 2 [0, 1] m__law_is_kept
def m_is_name : EM FlowD :=
  mRet (mCall g_is_of (mArgs [mVarA 0, mFrz (mC (.str "ABCDEFGHIJKLMNOPQRSTUVWXYZ"))]))
def g_is_name : List D → Res (D × EnvD) := runD 1 1 [0] m_is_name
def m_are_names : EM FlowD :=
  mSeq (mIfS (mOrT (mNotT (mTB (mIsi .tTup (mVarA 0)))) (mOrT (mTB (mBin gtD (mFrz (mCB lenD (mArgs [mVarA 0]))) (mFrz (mC (.int 3))))) (mNotT (mTB (mCB allD (mArgs [mFrz (mLc (mIt1 (mFrz (mVarE 0))) (.nm 1) (mYes) (mCall g_is_name (mArgs [mVarA 1])) [1])])))))) (mRet (mC (.bl false))) (mNext))
  (mRet (mAndV (mBin eqD (mFrz (mCB listY (mArgs [mVarA 0]))) (mFrz (mCB sortX (mArgs [mVarA 0])))) (mCall g_are_unlike (mArgs [mVarA 0]))))
def g_are_names : List D → Res (D × EnvD) := runD 1 2 [0] m_are_names
def m_is_place_of : EM FlowD :=
  mSeq (mIfS (mOrT (mNotT (mTB (mCall g_is_pair (mArgs [mVarA 2])))) (mOrT (mNotT (mTB (mIsi .tStr (mFrz (mBin ixD (mVarA 2) (mFrz (mC (.int 0)))))))) (mNotT (mTB (mIsi .tTup (mFrz (mBin ixD (mVarA 2) (mFrz (mC (.int 1)))))))))) (mRet (mC (.bl false))) (mNext))
  (mSeq (mAsg 3 (mCB dictD (mArgs [mFrz (mUn (fldG cs_tables "tables") (mVarA 0))])))
  (mSeq (mIfS (mOrT (mTB (mBin ninD (mFrz (mBin ixD (mVarA 2) (mFrz (mC (.int 0))))) (mVarA 3))) (mTB (mBin neD (mFrz (mCB lenD (mArgs [mFrz (mBin ixD (mVarA 2) (mFrz (mC (.int 1))))]))) (mFrz (mBin ixD (mVarA 3) (mFrz (mBin ixD (mVarA 2) (mFrz (mC (.int 0)))))))))) (mRet (mC (.bl false))) (mNext))
  (mRet (mAndV (mCB allD (mArgs [mFrz (mLc (mIt1 (mFrz (mBin ixD (mVarA 2) (mFrz (mC (.int 1)))))) (.nm 4) (mYes) (mAndV (mIsi .tStr (mVarA 4)) (mBin inD (mVarA 4) (mVarA 1))) [4])])) (mCall g_are_unlike (mArgs [mFrz (mBin ixD (mVarA 2) (mFrz (mC (.int 1))))]))))))
def g_is_place_of : List D → Res (D × EnvD) := runD 3 5 [0, 1, 2] m_is_place_of
def m_common_divisor : EM FlowD :=
  mSeq (mWhile (fun (e : EnvD) => match e[1]? with | some (some (D.int i)) => i.natAbs + 1 | _ => 0) (mTB (mBin neD (mVarA 1) (mFrz (mC (.int 0))))) (mPar 0 1 (mArgs [mFrz (mVarE 1), mFrz (mBin modD (mVarA 0) (mVarA 1))])))
  (mRet (mCB absD (mArgs [mVarA 0])))
def g_common_divisor : List D → Res (D × EnvD) := runD 2 2 ([] : List Nat) m_common_divisor
def m_is_fraction : EM FlowD :=
  mSeq (mIfS (mOrT (mNotT (mTB (mCall g_is_pair (mArgs [mVarA 0])))) (mOrT (mNotT (mTB (mCall g_is_integer (mArgs [mFrz (mBin ixD (mVarA 0) (mFrz (mC (.int 0))))])))) (mOrT (mNotT (mTB (mCall g_is_integer (mArgs [mFrz (mBin ixD (mVarA 0) (mFrz (mC (.int 1))))])))) (mTB (mBin ltD (mFrz (mBin ixD (mVarA 0) (mFrz (mC (.int 1))))) (mFrz (mC (.int 1)))))))) (mRet (mC (.bl false))) (mNext))
  (mRet (mBin eqD (mFrz (mCall g_common_divisor (mArgs [mFrz (mBin ixD (mVarA 0) (mFrz (mC (.int 0)))), mFrz (mBin ixD (mVarA 0) (mFrz (mC (.int 1))))]))) (mFrz (mC (.int 1)))))
def g_is_fraction : List D → Res (D × EnvD) := runD 1 1 [0] m_is_fraction
def m_is_number_of : EM FlowD :=
  mSeq (mIfS (mTB (mBin eqD (mVarA 0) (mFrz (mC (.int 0))))) (mRet (mCall g_is_integer (mArgs [mVarA 1]))) (mNext))
  (mSeq (mIfS (mTB (mBin eqD (mVarA 0) (mFrz (mC (.int 1))))) (mRet (mCall g_is_fraction (mArgs [mVarA 1]))) (mNext))
  (mRet (mCall g_is_within (mArgs [mVarA 1, mFrz (mC (.int 0)), mFrz (mBin subD (mVarA 0) (mFrz (mC (.int 1))))]))))
def g_is_number_of : List D → Res (D × EnvD) := runD 2 2 [0, 1] m_is_number_of
def m_are_numbers : EM FlowD :=
  mSeq (mIfS (mNotT (mTB (mIsi .tDic (mVarA 2)))) (mRet (mC (.bl false))) (mNext))
  (mRet (mCB allD (mArgs [mFrz (mLcE 2)])))
def g_are_numbers : List D → Res (D × EnvD) := runD 3 4 [0, 1, 2] m_are_numbers
def m_Party__init : EM FlowD :=
  mSeq (mIfS (mNotT (mTB (mCall g_are_names (mArgs [mVarA 2])))) (mBad) (mNext))
  (mSeq (mIfS (mNotT (mTB (mCall g_are_numbers (mArgs [mVarA 1, mVarA 2, mVarA 3])))) (mBad) (mNext))
  (mSeq (mFSet 0 cs_book "book" (mVarE 1))
  (mSeq (mFSet 0 cs_names "names" (mVarE 2))
  (mFSet 0 cs_kept "kept" (mUn copyD (mVarA 3))))))
def g_Party__init : List D → Res (D × EnvD) := runD 4 4 [0, 1, 2, 3] m_Party__init
def m_Book___eq__ : EM FlowD :=
  mSeq (mIfS (mOrT (mNotT (mTB (mUn (isC clsl "Book") (mVarA 1)))) (mTB (mBin neD (mFrz (mUn (fldG cs_world "world") (mVarA 0))) (mFrz (mUn (fldG cs_world "world") (mVarA 1)))))) (mRet (mC (.bl false))) (mNext))
  (mRet (mAndV (mBin eqD (mFrz (mUn (fldG cs_tables "tables") (mVarA 0))) (mFrz (mUn (fldG cs_tables "tables") (mVarA 1)))) (mBin eqD (mFrz (mUn (fldG cs_demands "demands") (mVarA 0))) (mFrz (mUn (fldG cs_demands "demands") (mVarA 1))))))
def g_Book___eq__ : List D → Res (D × EnvD) := runD 2 2 [0, 1] m_Book___eq__
def m_Party___eq__ : EM FlowD :=
  mSeq (mIfS (mOrT (mNotT (mTB (mUn (isC clsl "Party") (mVarA 1)))) (mTB (mBin neD (mFrz (mUn (fldG cs_book "book") (mVarA 0))) (mFrz (mUn (fldG cs_book "book") (mVarA 1)))))) (mRet (mC (.bl false))) (mNext))
  (mRet (mAndV (mBin eqD (mFrz (mUn (fldG cs_names "names") (mVarA 0))) (mFrz (mUn (fldG cs_names "names") (mVarA 1)))) (mBin eqD (mFrz (mUn (fldG cs_kept "kept") (mVarA 0))) (mFrz (mUn (fldG cs_kept "kept") (mVarA 1))))))
def g_Party___eq__ : List D → Res (D × EnvD) := runD 2 2 [0, 1] m_Party___eq__
def eqtab : List (Str × (List D → Res (D × EnvD))) := [("Book", g_Book___eq__), ("Party", g_Party___eq__)]
def m__law_is_apart : EM FlowD :=
  mSeq (mFor (mIt1 (mFrz (mLst (mArgs [mFrz (mVarE 1), mFrz (mCB listY (mArgs [mVarA 1])), mFrz (mBin ixD (mVarA 1) (mFrz (mC (.int 0)))), mFrz (mBin ixD (mVarA 1) (mFrz (mC (.int 1)))), mFrz (mC (.str "book")), mFrz (mC .non), mFrz (mC (.bl true)), mFrz (mMake "Party" g_Party__init (mArgs [mVarA 0, mFrz (mTup (mArgs [])), mFrz (mDic0)]))])))) (.nm 2) (mIfS (mOrT (mTB (mBin (eqOD eqtab false) (mFrz (mVarE 0)) (mFrz (mVarE 2)))) (mOrT (mTB (mBin (eqOD eqtab false) (mFrz (mVarE 2)) (mFrz (mVarE 0)))) (mNotT (mTB (mBin (eqOD eqtab true) (mFrz (mVarE 0)) (mFrz (mVarE 2))))))) (mRet (mC (.bl false))) (mNext)))
  (mRet (mC (.bl true)))
def g__law_is_apart : List D → Res (D × EnvD) := runD 2 3 [0, 1] m__law_is_apart
def m__law_term : EM FlowD :=
  mSeq (mAsgT (.tp [(.nm 2), (.nm 3)]) (mBin ixD (mVarA 1) (mFrz (mCall g__law_pick (mArgs [mVarA 0, mFrz (mCB lenD (mArgs [mVarA 1]))])))))
  (mSeq (mAsg 4 (mLst (mArgs [mFrz (mC (.str "a")), mFrz (mC (.str "b")), mFrz (mC (.str "c")), mFrz (mC (.str "d"))])))
  (mSeq (mAsg 5 (mC (.str "")))
  (mSeq (mFor (mIt (mArgs [mVarA 3]) rng1) (.nm 6) (mAsg 5 (mBin addD (mVarA 5) (mFrz (mMet 4 (mArgs [mFrz (mCall g__law_pick (mArgs [mVarA 0, mFrz (mCB lenD (mArgs [mVarA 4]))]))]) popF)))))
  (mRet (mTup (mArgs [mFrz (mBin ixD (mFrz (mLst (mArgs [mFrz (mC (.int 1)), mFrz (mUn negD (mFrz (mC (.int 1)))), mFrz (mC (.int 2)), mFrz (mC (.int 99)), mFrz (mUn negD (mFrz (mC (.int 99))))]))) (mFrz (mCall g__law_pick (mArgs [mVarA 0, mFrz (mC (.int 5))])))), mFrz (mVarE 2), mFrz (mVarE 5)]))))))
def g__law_term : List D → Res (D × EnvD) := runD 2 7 [0, 1] m__law_term
def m__law_demands : EM FlowD :=
  mSeq (mAsg 2 (mLst (mArgs [])))
  (mSeq (mFor (mIt (mArgs [mFrz (mCall g__law_pick (mArgs [mVarA 0, mFrz (mC (.int 4))]))]) rng1) (.nm 3) (mSeq (mAsg 4 (mLc (mIt (mArgs [mFrz (mBin addD (mFrz (mC (.int 1))) (mFrz (mCall g__law_pick (mArgs [mVarA 0, mFrz (mC (.int 3))]))))]) rng1) (.nm 5) (mYes) (mCall g__law_term (mArgs [mVarA 0, mVarA 1])) [5]))
  (mDrop (mMet 2 (mArgs [mFrz (mTup (mArgs [mFrz (mCB tupleD (mArgs [mVarA 4])), mFrz (mBin ixD (mFrz (mLst (mArgs [mFrz (mC (.int 0)), mFrz (mC (.int 1)), mFrz (mUn negD (mFrz (mC (.int 1)))), mFrz (mC (.int 999)), mFrz (mUn negD (mFrz (mC (.int 999))))]))) (mFrz (mCall g__law_pick (mArgs [mVarA 0, mFrz (mC (.int 5))]))))]))]) appF))))
  (mRet (mCB tupleD (mArgs [mVarA 2]))))
def g__law_demands : List D → Res (D × EnvD) := runD 2 6 [0, 1] m__law_demands
def m__law_is_flag : EM FlowD :=
  mSeq (mIfS (mTru (mVarA 1)) (mRet (mBin isD (mVarA 0) (mFrz (mC (.bl true))))) (mNext))
  (mRet (mBin isD (mVarA 0) (mFrz (mC (.bl false)))))
def g__law_is_flag : List D → Res (D × EnvD) := runD 2 2 [0, 1] m__law_is_flag
def m__law_is_compared : EM FlowD :=
  mSeq (mAsg 4 (mBin eqD (mVarA 1) (mVarA 3)))
  (mRet (mAndV (mCall g__law_is_flag (mArgs [mFrz (mBin (eqOD eqtab false) (mFrz (mVarE 0)) (mFrz (mVarE 2))), mVarA 4])) (mAndV (mCall g__law_is_flag (mArgs [mFrz (mBin (eqOD eqtab false) (mFrz (mVarE 2)) (mFrz (mVarE 0))), mVarA 4])) (mCall g__law_is_flag (mArgs [mFrz (mBin (eqOD eqtab true) (mFrz (mVarE 0)) (mFrz (mVarE 2))), mFrz (mNotV (mVarE 4))])))))
def g__law_is_compared : List D → Res (D × EnvD) := runD 4 5 [0, 1, 2, 3] m__law_is_compared
def m_law : EM FlowD :=
  mSeq (mAsg 1 (mCall g__law_deck (mArgs [mVarA 0])))
  (mSeq (mAsg 2 (mLst (mArgs [])))
  (mSeq (mFor (mIt (mArgs [mFrz (mC (.int 2))]) rng1) (.nm 3) (mSeq (mAsg 4 (mBin ixD (mFrz (mLst (mArgs [mFrz (mC (.int 0)), mFrz (mC (.int 1)), mFrz (mC (.int 2)), mFrz (mC (.int 1000)), mFrz (mCall g__law_pick (mArgs [mVarA 1, mFrz (mC (.int 1001))]))]))) (mFrz (mCall g__law_pick (mArgs [mVarA 1, mFrz (mC (.int 5))])))))
  (mSeq (mAsg 5 (mCall g__law_tables (mArgs [mVarA 1])))
  (mDrop (mMet 2 (mArgs [mFrz (mTup (mArgs [mFrz (mVarE 4), mFrz (mVarE 5), mFrz (mCall g__law_demands (mArgs [mVarA 1, mVarA 5]))]))]) appF)))))
  (mSeq (mAsg 2 (mBin addD (mVarA 2) (mFrz (mCall g__law_others (mArgs [mVarA 1, mFrz (mBin ixD (mVarA 2) (mFrz (mC (.int 0))))])))))
  (mSeq (mAsg 6 (mLc (mIt1 (mFrz (mVarE 2))) (.nm 7) (mYes) (mMake "Book" g_Book__init (mArgs [mFrz (mBin ixD (mVarA 7) (mFrz (mC (.int 0)))), mFrz (mBin ixD (mVarA 7) (mFrz (mC (.int 1)))), mFrz (mBin ixD (mVarA 7) (mFrz (mC (.int 2))))])) [7]))
  (mSeq (mFor (mIt (mArgs [mFrz (mCB lenD (mArgs [mVarA 2]))]) rng1) (.nm 8) (mSeq (mIfS (mNotT (mTB (mCall g__law_is_kept (mArgs [mFrz (mBin ixD (mVarA 6) (mVarA 8)), mFrz (mBin ixD (mVarA 2) (mVarA 8))])))) (mRet (mC (.bl false))) (mNext))
  (mSeq (mFor (mIt1 (mFrz (mLst (mArgs [mFrz (mC (.int 0)), mFrz (mC (.int 1)), mFrz (mCall g__law_pick (mArgs [mVarA 1, mFrz (mCB lenD (mArgs [mVarA 2]))]))])))) (.nm 9) (mIfS (mNotT (mTB (mCall g__law_is_compared (mArgs [mFrz (mBin ixD (mVarA 6) (mVarA 8)), mFrz (mBin ixD (mVarA 2) (mVarA 8)), mFrz (mBin ixD (mVarA 6) (mVarA 9)), mFrz (mBin ixD (mVarA 2) (mVarA 9))])))) (mRet (mC (.bl false))) (mNext)))
  (mIfS (mNotT (mTB (mCall g__law_is_apart (mArgs [mFrz (mBin ixD (mVarA 6) (mVarA 8)), mFrz (mBin ixD (mVarA 2) (mVarA 8))])))) (mRet (mC (.bl false))) (mNext)))))
  (mRet (mCB allD (mArgs [mFrz (mLc (mIt (mArgs [mFrz (mCB lenD (mArgs [mVarA 2]))]) rng1) (.nm 8) (mYes) (mCall g__law_is_kept (mArgs [mFrz (mBin ixD (mVarA 6) (mVarA 8)), mFrz (mBin ixD (mVarA 2) (mVarA 8))])) [8])]))))))))
def g_law : List D → Res (D × EnvD) := runD 1 10 [0] m_law
end Mi
namespace Mi
open PySem PySem.Spec PyProof.Rows L2
@[simp] theorem sortX_l {o : Bool} {l : List D} : sortX [.lst o l] = sortD [.lst o l] := rfl
@[simp] theorem listY_d {o : Bool} {ks ws : List D} : listY [.dic o ks ws] = listX [.dic o ks ws] := rfl
@[simp] theorem listY_g {ds : List (Key × D)} : listY [dicG ds] = listX [dicG ds] := rfl
@[simp] theorem listY_l {o : Bool} {l : List D} : listY [.lst o l] = listX [.lst o l] := rfl
def isInt : D → Bool
  | .int _ => true
  | _ => false
theorem s_is_integer {d : D} {t : String} (h : tyD d = some t) (z : fz d = true) : g_is_integer [d] = .ok (.bl (isInt d), [some d]) := by
  cases d <;> simp [tyD] at h <;> simp_all [g_is_integer, runD, ownOk, m_is_integer, isK, outsD, isInt, List.range, List.range.loop]
def dk (cells : List Int) (a b c : Int) : D := .lst true [.lst false (cells.map .int), .int a, .int b, .int c]
@[simp] theorem fzL_mapint (l : List Int) : fzL (l.map D.int) = true := fzL_ints l
@[simp] theorem fz_dk {cells a b c} : fz (dk cells a b c) = false := by simp [dk]
theorem pow_18 : powD (.int 10) (.int 18) = some (.int 1000000000000000000) := by simp [powD]
@[simp] theorem ixD_dk0 {cells a b c} : ixD (dk cells a b c) (.int 0) = some (.lst false (cells.map .int)) := by
  unfold dk; simp [ixD, atI, ixN, pick]
@[simp] theorem ixD_dk1 {cells a b c} : ixD (dk cells a b c) (.int 1) = some (.int a) := by
  unfold dk; simp [ixD, atI, ixN, pick]
@[simp] theorem ixD_dk2 {cells a b c} : ixD (dk cells a b c) (.int 2) = some (.int b) := by
  unfold dk; simp [ixD, atI, ixN, pick]
@[simp] theorem ixD_dk3 {cells a b c} : ixD (dk cells a b c) (.int 3) = some (.int c) := by
  unfold dk; simp [ixD, atI, ixN, pick]
@[simp] theorem setX_dk1 {cells a b c z} : setX (dk cells a b c) (.int 1) (.int z) = some (dk cells z b c) := by
  unfold dk; simp [setX, ixN]
@[simp] theorem setX_dk2 {cells a b c z} : setX (dk cells a b c) (.int 2) (.int z) = some (dk cells a z c) := by
  unfold dk; simp [setX, ixN]
@[simp] theorem setX_dk3 {cells a b c z} : setX (dk cells a b c) (.int 3) (.int z) = some (dk cells a b z) := by
  unfold dk; simp [setX, ixN]
theorem ixD_cells {b : Bool} {cells : List Int} {i : Int} (h : 0 ≤ i) (h2 : i < cells.length) : ∃ z, ixD (.lst b (cells.map .int)) (.int i) = some (.int z) := by
  have e : i.toNat < cells.length := by omega
  refine ⟨cells[i.toNat], ?_⟩
  simp [ixD, atI, ixN, h, h2, pick, e]
theorem deck_loop (s : D) : ∀ (l : List Int) (acc : List D) (x : Option D), ∃ y, loopL (.nm 1) mYes (mCB intD (mArgs [mVarA 1])) [1] (l.map .int) acc [some s, x] = .ok (acc ++ l.map .int, [some s, y])
  | [], acc, x => ⟨x, by simp [loopL]⟩
  | z :: l, acc, x => by
    obtain ⟨y, h⟩ := deck_loop s l (acc ++ [.int z]) (some (.int z))
    refine ⟨y, ?_⟩
    simp [loopL, mTg, wipeE] at h ⊢
    exact h
theorem cut_len (l : List Int) (lo hi : Option Int) : (cutD l lo hi).length ≤ l.length := by
  unfold cutD
  rw [List.length_take, List.length_drop]; omega
theorem s_law_deck {ns : List Int} (h : ns.length ≤ 63) : ∃ cells, g__law_deck [.scr ns] = .ok (dk cells 0 0 0, [some (.scr ns)]) := by
  refine ⟨cutD ns none (some 63), ?_⟩
  have hl := cut_len ns none (some 63)
  obtain ⟨y, hy⟩ := deck_loop (.scr ns) (cutD ns none (some 63)) [] none
  have hs : seqI [.lst false ((cutD ns none (some 63)).map D.int)] = some ((cutD ns none (some 63)).map D.int) := by simp [seqI]
  simp [g__law_deck, runD, ownOk, m__law_deck, slD, frz_lstt, sqV_ok hs, kLc_ok (fzL_mapint _) (show ((cutD ns none (some 63)).map D.int).length ≤ 1000 by rw [List.length_map]; omega), hy, restE, restV, outsD, List.range, List.range.loop, dk]
theorem mul_48 (x : Int) : mulD (.int x) (.int 48271) = some (.int (x * 48271)) := mulD_i (.inl (by decide))
theorem mul_79 (x : Int) : mulD (.int 7919) (.int x) = some (.int (7919 * x)) := mulD_i (.inr (by decide))
theorem mul_a (x : Int) : mulD (.int (x % 2147483647)) (.int (x % 2147483647 / 1009 + 69621)) = some (.int (x % 2147483647 * (x % 2147483647 / 1009 + 69621))) := mulD_i (.inr (by omega))
theorem mul_b (x : Int) : mulD (.int (x % 2147483647)) (.int (x % 2147483647 / 2003 + 40692)) = some (.int (x % 2147483647 * (x % 2147483647 / 2003 + 40692))) := mulD_i (.inr (by omega))
theorem mod_a (x : Int) : modD (.int x) (.int 2147483647) = some (.int (x % 2147483647)) := modD_i (by decide)
theorem mod_b (x : Int) : modD (.int x) (.int 2147483399) = some (.int (x % 2147483399)) := modD_i (by decide)
theorem div_a (x : Int) : fdivD (.int x) (.int 1009) = some (.int (x / 1009)) := fdivD_i (by decide) (by decide)
theorem div_b (x : Int) : fdivD (.int x) (.int 2003) = some (.int (x / 2003)) := fdivD_i (by decide) (by decide)
def rnd (z c : Int) : Int := ((z + 7919 * (c + 1) + 1) * 48271 % 2147483647 * ((z + 7919 * (c + 1) + 1) * 48271 % 2147483647 / 1009 + 69621) % 2147483647 * ((z + 7919 * (c + 1) + 1) * 48271 % 2147483647 * ((z + 7919 * (c + 1) + 1) * 48271 % 2147483647 / 1009 + 69621) % 2147483647 / 2003 + 40692)) % 2147483399
theorem s_law_pick (cells : List Int) (a b c : Int) {m : Int} (hm : 0 < m) (hm2 : m.natAbs.log2 < 9000) : ∃ r a' b' c', g__law_pick [dk cells a b c, .int m] = .ok (.int r, [some (dk cells a' b' c'), some (.int m)]) ∧ 0 ≤ r ∧ r < m := by
  by_cases hb : 0 < b
  · refine ⟨b % m, a, b / m, c + 1, ?_, Int.emod_nonneg _ (by omega), Int.emod_lt_of_pos _ hm⟩
    simp [g__law_pick, runD, ownOk, m__law_pick, hb, modD_i hm, fdivD_i hm hm2, outsD, List.range, List.range.loop]
  · have tail : ∀ x : Int, 0 ≤ x % m ∧ x % m < m := fun x => ⟨Int.emod_nonneg _ (by omega), Int.emod_lt_of_pos _ hm⟩
    by_cases h0 : 0 < cells.length
    · have h0' : (0 : Int) < cells.length := by omega
      obtain ⟨z, hz⟩ := ixD_cells (b := false) (Int.emod_nonneg a (show (cells.length : Int) ≠ 0 by omega)) (Int.emod_lt_of_pos a h0')
      by_cases h1 : 1000000000000000000 ≤ z
      · by_cases h2 : a + 1 ≤ cells.length
        · refine ⟨z % m, a + 1, z / m, c + 1, ?_, tail _⟩
          simp [g__law_pick, runD, ownOk, m__law_pick, hb, h0, hz, h1, h2, pow_18, modD_i hm, modD_i h0', fdivD_i hm hm2, outsD, List.range, List.range.loop]
        · refine ⟨rnd z c % m, a + 1, b, c + 1, ?_, tail _⟩
          · simp [rnd, g__law_pick, runD, ownOk, m__law_pick, hb, h0, hz, h1, h2, pow_18, modD_i hm, modD_i h0', fdivD_i hm hm2, outsD, List.range, List.range.loop, mul_48, mul_79, mul_a, mul_b, mod_a, mod_b, div_a, div_b]
      · refine ⟨rnd z c % m, a + 1, b, c + 1, ?_, tail _⟩
        · simp [rnd, g__law_pick, runD, ownOk, m__law_pick, hb, h0, hz, h1, pow_18, modD_i hm, modD_i h0', fdivD_i hm hm2, outsD, List.range, List.range.loop, mul_48, mul_79, mul_a, mul_b, mod_a, mod_b, div_a, div_b]
    · have h0' : cells.length = 0 := by omega
      refine ⟨rnd 0 c % m, a + 1, b, c + 1, ?_, tail _⟩
      · simp [rnd, g__law_pick, runD, ownOk, m__law_pick, hb, h0', pow_18, modD_i hm, fdivD_i hm hm2, outsD, List.range, List.range.loop, mul_48, mul_79, mul_a, mul_b, mod_a, mod_b, div_a, div_b]
end Mi
namespace Mi
open PySem PySem.Spec PyProof.Rows L2
/-! ### texts of signs -/
def one (c : Nat) : Str := ⟨#[c]⟩
def txt (l : List Nat) : Str := ⟨l.toArray⟩
theorem txt_cps (l : List Nat) : (txt l).cps.toList = l := by simp [txt]
theorem txt_len (l : List Nat) : (txt l).length = l.length := by simp [txt, Str.length]
theorem str_txt (s : Str) : s = txt s.cps.toList := by
  obtain ⟨⟨l⟩⟩ := s; rfl
theorem strsOf_ones : ∀ l : List Nat, strsOf (l.map fun c => .str (one c)) = some (l.map one)
  | [] => rfl
  | c :: l => by
    rw [List.map_cons, strsOf, strsOf_ones l]; rfl
theorem strsOf_map : ∀ l : List Str, strsOf (l.map .str) = some l
  | [] => rfl
  | c :: l => by rw [List.map_cons, strsOf, strsOf_map l]; rfl
theorem joinL_ones : ∀ l : List Nat, TL.joinL [] (l.map fun c => [c]) = l
  | [] => rfl
  | [c] => rfl
  | c :: d :: l => by
    show [c] ++ ([] ++ TL.joinL [] ((d :: l).map fun c => [c])) = _
    rw [joinL_ones (d :: l)]; rfl
theorem join_ones (l : List Nat) : Txt.join "" (l.map one) = txt l := by
  have h1 : Txt.join "" (l.map one) = Str.join "" (l.map one) := by
    have := join_plain_closes (sep := "") (l := l.map one)
    simpa using this
  rw [h1]
  apply str_ext
  rw [txt_cps]
  have := TL.tl_join "" (l.map one)
  show TL.tl (Str.join "" (l.map one)) = l
  rw [this, List.map_map]
  exact joinL_ones l
theorem sum_ones (l : List Nat) : ((l.map one).map (·.length)).sum = l.length := by
  induction l with
  | nil => rfl
  | cons c l ih => simp only [List.map_cons, List.sum_cons, ih, List.length_cons]; show 1 + l.length = _; omega
theorem joinD_ones (b : Bool) (l : List Nat) (h : l.length ≤ 1000) : joinD "" (.lst b (l.map fun c => .str (one c))) = some (.str (txt l)) := by
  simp only [joinD, strsOf_ones]
  rw [if_pos (by rw [sum_ones, List.length_map]; show l.length + l.length * 0 ≤ _; omega), join_ones]
/-! ### labels -/
def sm : Str := "abcdefghijklmnopqrstuvwxyz"
def okLab (s : Str) : Prop := 1 ≤ s.length ∧ s.length ≤ 8 ∧ ∀ c ∈ s.cps.toList, c ∈ sm.cps.toList
theorem ix_sm {r : Int} (h : 0 ≤ r) (h2 : r < 26) : ∃ c ∈ sm.cps.toList, ixD (.str sm) (.int r) = some (.str (one c)) := by
  have hl : sm.cps.toList.length = 26 := by decide +kernel
  have hs : sm.length ≤ sizeLine := by rw [szl]; show sm.cps.size ≤ _; rw [← Array.length_toList, hl]; decide
  have e : r.toNat < sm.cps.toList.length := by rw [hl]; omega
  have h3 : r < (sm.cps.toList.length : Int) := by rw [hl]; exact h2
  refine ⟨sm.cps.toList[r.toNat], List.getElem_mem e, ?_⟩
  simp only [ixD, hs, if_true, atI, ixN, h, h3, Option.bind_some, List.getElem?_eq_getElem e, Option.map_some, one]
end Mi
namespace Mi
open PySem PySem.Spec PyProof.Rows L2
def okT (d : D) : Prop := fz d = true ∧ (tyD d).isSome = true
theorem s_is_int {d : D} (h : okT d) : g_is_integer [d] = .ok (.bl (isInt d), [some d]) := by
  obtain ⟨z, h⟩ := h
  cases e : tyD d with
  | none => rw [e] at h; cases h
  | some t => exact s_is_integer e z
theorem fz_int' (z : Int) : okT (.int z) := ⟨by simp, rfl⟩
def within (d : D) (lo hi : Int) : Bool := match d with
  | .int i => decide (lo ≤ i) && decide (i ≤ hi)
  | _ => false
theorem s_is_within {d : D} (h : okT d) (lo hi : Int) : g_is_within [d, .int lo, .int hi] = .ok (.bl (within d lo hi), [some d, some (.int lo), some (.int hi)]) := by
  have hz := h.1
  have hs := s_is_int h
  cases e : isInt d with
  | false =>
    have e2 : within d lo hi = false := by cases d <;> first | rfl | simp [isInt] at e
    rw [e] at hs
    simp [g_is_within, runD, ownOk, m_is_within, outsD, List.range, List.range.loop, ownVars, putBack, hz, hs, e2]
  | true =>
    cases d <;> simp [isInt] at e
    rename_i i
    simp [isInt] at hs
    by_cases h1 : lo ≤ i <;> simp [g_is_within, runD, ownOk, m_is_within, outsD, List.range, List.range.loop, ownVars, putBack, hs, within, h1]
theorem s_is_world {d : D} (h : okT d) : g_is_world [d] = .ok (.bl (within d 0 1000), [some d]) := by
  have hz := h.1
  simp [g_is_world, runD, ownOk, m_is_world, outsD, List.range, List.range.loop, ownVars, putBack, hz, s_is_within h]
/-! ### divisors -/
end Mi
namespace Mi
open PySem PySem.Spec PyProof.Rows L2
def chs (s : Str) : List D := s.cps.toList.map fun c => .str (one c)
theorem seqI_str (s : Str) : seqI [.str s] = some (chs s) := rfl
theorem fz_chs (s : Str) : fzL (chs s) = true := fzL_map _ (fun _ => by simp) _
theorem len_chs (s : Str) : (chs s).length = s.length := by simp [chs, Str.length]
theorem inD_one (c : Nat) (t : Str) : inD (.str (one c)) (.str t) = some (.bl (decide (c ∈ t.cps.toList))) := by
  simp [inD, inQ, one]
theorem lenD_s {s : Str} (h : s.length ≤ 1000) : lenD [.str s] = some (.int s.length) := by
  simp only [lenD]
  rw [if_pos (by rw [szl]; omega)]
theorem s_is_of {s t : Str} (h1 : 1 ≤ s.length) (h2 : s.length ≤ 8) (h3 : ∀ c ∈ s.cps.toList, c ∈ t.cps.toList) : g_is_of [.str s, .str t] = .ok (.bl true, [some (.str s), some (.str t)]) := by
  have hlc := lc_pure (k := 2) (elt := mBin inD (mVarA 2) (mVarA 1)) (fun _ => .bl true) (e := [some (.str s), some (.str t), none]) (ds := chs s) (fz_chs s) (by rw [len_chs]; omega) (fun d hd => by
    obtain ⟨c, hc, rfl⟩ := List.mem_map.mp hd
    simp [inD_one, h3 c hc])
  have hall : allD [.lst false ((chs s).map fun _ => .bl true)] = some (.bl true) := allD_true fun d hd => by
    obtain ⟨_, _, rfl⟩ := List.mem_map.mp hd; rfl
  have hfl : fzL ((chs s).map fun _ => D.bl true) = true := fzL_map _ (fun _ => by simp) _
  have l1 : (1 : Int) ≤ s.length := by omega
  have l2 : (s.length : Int) ≤ 8 := by omega
  simp only [frzQ_bl] at hlc
  simp [g_is_of, m_is_of, runD, ownOk, outsD, List.range, List.range.loop, isK, lenD_s (show s.length ≤ 1000 by omega), l1, l2, sqV_ok (seqI_str s), hlc, restV, frz_lstt hfl, hall]
theorem s_is_label {s : Str} (h : okLab s) : g_is_label [.str s] = .ok (.bl true, [some (.str s)]) := by
  have := s_is_of h.1 h.2.1 h.2.2
  simp only [sm] at this
  simp [g_is_label, m_is_label, runD, ownOk, outsD, List.range, List.range.loop, ownVars, putBack, this]
theorem dic_len (ds : List (Key × D)) : lenD [.dic false (ds.map fun p => unkD p.1) (ds.map (·.2))] = some (.int ds.length) := by simp
theorem frz_dicG {ds : List (Key × D)} (h : fzL (ds.map (·.2)) = true) : frzQ (dicG ds) = .dic false (ds.map fun p => unkD p.1) (ds.map (·.2)) := by
  unfold frzQ dicG
  simp [frz, frzL_fz _ h]
theorem s_are_unlike {d : D} {l : List Str} (z : fz d = true) (hs : seqI [d] = some (l.map .str)) (hl : l.length ≤ 1000) (hn : lenD [d] = some (.int l.length)) (hu : l.Nodup) : g_are_unlike [d] = .ok (.bl true, [some d]) := by
  have hfl : fzL (l.map D.str) = true := fzL_strs l
  have hdc := dc_pure (k := 1) (ek := mVarA 1) (ev := mC (.bl true)) (fun x => match x with | .str s => .inr s | _ => .inl 0) (fun _ => .bl true) (e := [some d, none]) (ds := l.map D.str) hfl (by rw [List.length_map]; exact hl) (fun x hx => by
    obtain ⟨s, _, rfl⟩ := List.mem_map.mp hx
    exact ⟨.var 1, by simp, by simp [keyD]⟩) (fun x _ => by simp)
  have hm : mergeG ((l.map D.str).map fun x => ((match x with | .str s => Sum.inr s | _ => Sum.inl 0 : Key), frzQ (.bl true))) [] = l.map fun s => ((Sum.inr s : Key), D.bl true) := by
    rw [mergeG_new]
    · simp
    · simp only [List.map_nil, List.nil_append, List.map_map]
      unfold List.Nodup
      rw [List.pairwise_map]
      exact List.Pairwise.imp (fun h e => h (Sum.inr.inj e)) hu
  rw [hm] at hdc
  have hfz : fzL ((l.map fun s => ((Sum.inr s : Key), D.bl true)).map (·.2)) = true := by rw [List.map_map]; exact fzL_map _ (fun _ => by simp) _
  simp [g_are_unlike, m_are_unlike, runD, ownOk, outsD, List.range, List.range.loop, z, frzQ_fz, sqV_ok hs, hdc, restV, frz_dicG hfz, hn]
end Mi
namespace Mi
open PySem PySem.Spec PyProof.Rows L2
@[simp] theorem ixD_t0 {x y : D} (h : fz x = true) : ixD (.tup [x, y]) (.int 0) = some x := by simp [ixD, atI, ixN, pick, h]
@[simp] theorem ixD_t1 {x y : D} (h : fz y = true) : ixD (.tup [x, y]) (.int 1) = some y := by simp [ixD, atI, ixN, pick, h]
theorem s_is_pair {l : List D} (z : fzL l = true) : g_is_pair [.tup l] = .ok (.bl (decide ((l.length : Int) = 2)), [some (.tup l)]) := by
  simp [g_is_pair, runD, ownOk, m_is_pair, isK, outsD, List.range, List.range.loop, z]
/-! ### tables -/
def tabD (p : Str × Int) : D := .tup [.str p.1, .int p.2]
def tabsD (l : List (Str × Int)) : D := .tup (l.map tabD)
def okTab (p : Str × Int) : Prop := okLab p.1 ∧ 0 ≤ p.2 ∧ p.2 ≤ 3
theorem fz_tab (p : Str × Int) : fz (tabD p) = true := by simp [tabD]
theorem fz_tabs (l : List (Str × Int)) : fzL (l.map tabD) = true := fzL_map _ fz_tab l
def labs (l : List (Str × Int)) : List Str := l.map (·.1)
theorem labs_len (l : List (Str × Int)) : (labs l).length = l.length := List.length_map _
structure okTabs (l : List (Str × Int)) : Prop where
  n1 : 1 ≤ l.length
  n4 : l.length ≤ 4
  tab : ∀ p ∈ l, okTab p
  srt : sortS (labs l) = labs l
  nd : (labs l).Nodup
  big : (l.filter fun p => decide (p.2 = 3)).length ≤ 1
theorem s_is_table {p : Str × Int} (h : okTab p) : g_is_table [tabD p] = .ok (.bl true, [some (tabD p)]) := by
  have hp := s_is_pair (l := [.str p.1, .int p.2]) (by simp)
  have hl := s_is_label h.1
  have hw := s_is_within (fz_int' p.2) 0 3
  simp [within, h.2.1, h.2.2] at hw hp
  simp [g_is_table, m_is_table, runD, ownOk, outsD, List.range, List.range.loop, ownVars, putBack, tabD, hp, hl, hw]
theorem strOk_lab {s : Str} (h : okLab s) : PyData.strOk s = true := by
  have hs : ∀ c ∈ sm.cps.toList, c < 0x110000 := by decide +kernel
  unfold PyData.strOk
  rw [← Array.all_toList, List.all_eq_true]
  exact fun c hc => by simpa using hs c (h.2.2 c hc)
theorem okPL_strs : ∀ (l : List Str) (n : Nat), (∀ s ∈ l, PyData.strOk s = true) → okPL n (l.map .str) = true
  | [], n, _ => by simp [okPL]
  | s :: l, n, h => by
    rw [List.map_cons]
    simp only [okPL, Bool.and_eq_true]
    exact ⟨by cases n <;> simp [okP, h s List.mem_cons_self], okPL_strs l n fun x hx => h x (List.mem_cons_of_mem _ hx)⟩
theorem eqv_strs : ∀ l : List Str, PyData.eqvAll (toPL (l.map .str)) (toPL (l.map .str)) = true
  | [] => rfl
  | s :: l => by
    rw [List.map_cons]
    simp only [toPL, toP, PyData.eqvAll, PyData.eqv, eqv_strs l]
    simp
theorem neD_strs {a b : Bool} {l : List Str} (h : ∀ s ∈ l, PyData.strOk s = true) : neD (.lst a (l.map .str)) (.lst b (l.map .str)) = some (.bl false) := by
  have h1 := okPL_strs l 63 h
  simp [neD, eqQ, scalD, okP, h1, eqB, toP, PyData.eqv, eqv_strs]
theorem vE_own (i : Nat) (env : EnvD) {l : List D} (z : fzL l = true) : vE i env (some (some (.lst true l))) = .ok (.lst false l, env.set i (some (.lst false l))) := by
  simp [vE, frz, frzL_fz l z]
theorem s_are_unlikeO {l : List Str} (hl : l.length ≤ 1000) (hu : l.Nodup) : g_are_unlike [.lst true (l.map .str)] = .ok (.bl true, [some (.lst false (l.map .str))]) := by
  have hfl : fzL (l.map D.str) = true := fzL_strs l
  have h1 := s_are_unlike (d := .lst false (l.map .str)) (l := l) (by simp [hfl]) (by simp [seqI, hfl]) hl (by simp) hu
  have hs : seqI [.lst false (l.map .str)] = some (l.map .str) := by simp [seqI, hfl]
  have hv := vE_own 0 [some (.lst true (l.map .str)), none] hfl
  simp only [List.set_cons_zero] at hv
  simp [g_are_unlike, m_are_unlike, runD, ownOk, outsD, List.range, List.range.loop, hfl, frzQ_fz, sqV_ok hs] at h1 ⊢
  simp [hv, hfl, frzQ_fz, sqV_ok hs]
  exact h1
theorem s_are_tables {l : List (Str × Int)} (h : okTabs l) : g_are_tables [tabsD l] = .ok (.bl true, [some (tabsD l)]) := by
  have hf := fz_tabs l
  have hlen : (l.map tabD).length ≤ 1000 := by rw [List.length_map]; have := h.n4; omega
  have hsq : seqI [tabsD l] = some (l.map tabD) := by simp [tabsD, seqI, hf]
  have z : fz (tabsD l) = true := by simp [tabsD, hf]
  have e1 := lc_pure (k := 1) (elt := mCall g_is_table (mArgs [mVarA 1])) (fun _ => .bl true) (e := [some (tabsD l), none, none]) (ds := l.map tabD) hf hlen (fun d hd => by
    obtain ⟨p, hp, rfl⟩ := List.mem_map.mp hd
    simp [ownVars, putBack, fz_tab, s_is_table (h.tab p hp)])
  have e1' : ((l.map tabD).map fun _ => frzQ (.bl true)) = l.map fun _ => D.bl true := by rw [List.map_map]; rfl
  rw [e1'] at e1
  have hall : allD [.lst false (l.map fun _ => D.bl true)] = some (.bl true) := allD_true fun d hd => by
    obtain ⟨_, _, rfl⟩ := List.mem_map.mp hd; rfl
  have hfl : fzL (l.map fun _ => D.bl true) = true := fzL_map _ (fun _ => by simp) _
  have e2 := lc_pure (k := 1) (elt := mBin ixD (mVarA 1) (mFrz (mC (.int 0)))) (fun x => match x with | .tup (y :: _) => y | _ => .non) (e := [some (tabsD l), none, none]) (ds := l.map tabD) hf hlen (fun d hd => by
    obtain ⟨p, hp, rfl⟩ := List.mem_map.mp hd
    simp [tabD])
  have e2' : ((l.map tabD).map fun d => frzQ ((fun x => match x with | .tup (y :: _) => y | _ => .non) d)) = (labs l).map D.str := by
    unfold labs
    rw [List.map_map, List.map_map]; rfl
  rw [e2'] at e2
  have hs : ∀ s ∈ labs l, PyData.strOk s = true := fun s hs => by
    obtain ⟨p, hp, rfl⟩ := List.mem_map.mp hs
    exact strOk_lab (h.tab p hp).1
  have hfs := fzL_strs (labs l)
  have hsort : sortD [.lst true ((labs l).map .str)] = some (.lst true ((labs l).map .str)) := by
    simp only [sortD, strsOf_map]
    rw [if_pos (by rw [labs_len]; have := h.n4; omega), h.srt]
  have hsort2 : sortD [.lst false ((labs l).map .str)] = some (.lst true ((labs l).map .str)) := hsort
  have hne := neD_strs (a := true) (b := false) hs
  have hu := s_are_unlikeO (l := labs l) (by rw [labs_len]; have := h.n4; omega) h.nd
  have e3 := lc_filter (k := 1) (cond := mTB (mBin eqD (mFrz (mBin ixD (mVarA 1) (mFrz (mC (.int 1))))) (mFrz (mC (.int 3))))) (elt := mVarE 1) (fun x => x) (fun x => match x with | .tup [_, .int i] => decide (i = 3) | _ => false)
    (e := [some (tabsD l), none, some (.lst false ((labs l).map .str))]) (ds := l.map tabD) hf hlen (fun d hd => by
      obtain ⟨p, hp, rfl⟩ := List.mem_map.mp hd
      simp [tabD]) (fun d hd _ => by
      obtain ⟨p, hp, rfl⟩ := List.mem_map.mp hd
      simp [fz_tab])
  have l1 : (1 : Int) ≤ l.length := by have := h.n1; omega
  have l2 : (l.length : Int) ≤ 4 := by have := h.n4; omega
  have e3' : (((l.map tabD).filter fun x => match x with | .tup [_, .int i] => decide (i = 3) | _ => false).map fun d => frzQ d) = (l.filter fun p => decide (p.2 = 3)).map tabD := by
    rw [List.filter_map, List.map_map]
    have : (fun x => match x with | .tup [_, .int i] => decide (i = 3) | _ => false) ∘ tabD = fun p : Str × Int => decide (p.2 = 3) := rfl
    rw [this]
    exact List.map_congr_left fun p _ => frzQ_fz (fz_tab p)
  rw [e3'] at e3
  have hff := fz_tabs (l.filter fun p => decide (p.2 = 3))
  have l3 : ((l.filter fun p => decide (p.2 = 3)).length : Int) ≤ 1 := by have := h.big; omega
  have hlen2 : lenD [tabsD l] = some (.int l.length) := by simp [tabsD]
  have hk : isK .tTup (tabsD l) = some true := rfl
  simp [g_are_tables, m_are_tables, runD, ownOk, outsD, List.range, List.range.loop, ownVars, putBack, z, hk, hlen2, l1, l2, frzQ_fz, sqV_ok hsq, e1, restV, frz_lstt hfl, hall, e2, hsort, frz_lstt hfs, hne, hfs, hu, e3, frz_lstt hff, l3]
end Mi
namespace Mi
open PySem PySem.Spec PyProof.Rows L2
/-! ### the tables as a dict -/
def knG (l : List (Str × Int)) : List (Key × D) := l.map fun p => (.inr p.1, .int p.2)
def knD (l : List (Str × Int)) : D := .dic false (l.map fun p => .str p.1) (l.map fun p => .int p.2)
theorem pairs_tabs : ∀ l : List (Str × Int), pairsD (l.map tabD) = some (knG l)
  | [] => rfl
  | p :: l => by
    rw [List.map_cons]
    show (match keyD (D.str p.1), pairsD (l.map tabD) with | some x, some ds => if fz (D.int p.2) = true then some ((x, D.int p.2) :: ds) else none | _, _ => none) = _
    rw [pairs_tabs l]
    simp [keyD, knG]
theorem dict_tabs {l : List (Str × Int)} (h : (labs l).Nodup) : dictD [tabsD l] = some (dicG (knG l)) := by
  have hm : mergeG (knG l) [] = knG l := by
    rw [mergeG_new]
    · simp
    · simp only [List.map_nil, List.nil_append, knG, List.map_map]
      unfold List.Nodup labs at *
      rw [List.pairwise_map] at h ⊢
      exact List.Pairwise.imp (fun h e => h (Sum.inr.inj e)) h
  simp only [dictD, tabsD, pairs_tabs, Option.map_some, hm]
theorem frz_kn (l : List (Str × Int)) : frzQ (dicG (knG l)) = knD l := by
  rw [frz_dicG (by rw [knG, List.map_map]; exact fzL_map _ (fun _ => by simp) _)]
  simp only [knG, knD, List.map_map]
  rfl
theorem fz_kn (l : List (Str × Int)) : fz (knD l) = true := by
  have h1 : fzL (l.map fun p => D.str p.1) = true := fzL_map _ (fun _ => by simp) _
  have h2 : fzL (l.map fun p => D.int p.2) = true := fzL_map _ (fun _ => by simp) _
  simp [knD, h1, h2]
theorem getK_kn : ∀ {l : List (Str × Int)} {s : Str} {n : Int}, (labs l).Nodup → (s, n) ∈ l → getK (l.map fun p => .str p.1) (l.map fun p => .int p.2) (.inr s) = some (.int n)
  | p :: l, s, n, nd, h => by
    rw [List.map_cons, List.map_cons, getK]
    rcases List.mem_cons.mp h with e | h
    · subst e
      simp [keyD]
    · have nd' : (labs l).Nodup := (List.nodup_cons.mp nd).2
      have hn : ¬ p.1 = s := by
        rintro rfl
        exact (List.nodup_cons.mp nd).1 (List.mem_map.mpr ⟨(p.1, n), h, rfl⟩)
      rw [if_neg (by simp [keyD, hn])]
      exact getK_kn nd' h
theorem ix_kn {l : List (Str × Int)} {s : Str} {n : Int} (nd : (labs l).Nodup) (h : (s, n) ∈ l) : ixD (knD l) (.str s) = some (.int n) := by
  simp only [knD, ixD, keyD, getK_kn nd h, pick, fz_int, if_true]
theorem nin_kn {l : List (Str × Int)} {s : Str} {n : Int} (nd : (labs l).Nodup) (h : (s, n) ∈ l) : ninD (.str s) (knD l) = some (.bl false) := by
  simp only [knD, ninD, inQ, keyD, getK_kn nd h]
  rfl
/-! ### terms, demands -/
structure Trm where
  f : Int
  s : Str
  n : Int
  t : Str
def trmD (x : Trm) : D := .tup [.int x.f, .str x.s, .str x.t]
structure okTrm (l : List (Str × Int)) (x : Trm) : Prop where
  f1 : -99 ≤ x.f
  f2 : x.f ≤ 99
  f0 : x.f ≠ 0
  kn : (x.s, x.n) ∈ l
  ln : (x.t.length : Int) = x.n
  l4 : x.t.length ≤ 4
  nd : x.t.cps.toList.Nodup
  ab : ∀ c ∈ x.t.cps.toList, c ∈ ("abcd" : Str).cps.toList
theorem fz_trm (x : Trm) : fz (trmD x) = true := by simp [trmD]
theorem s_unlike_txt {t : Str} (h : t.length ≤ 1000) (nd : t.cps.toList.Nodup) : g_are_unlike [.str t] = .ok (.bl true, [some (.str t)]) := by
  refine s_are_unlike (l := t.cps.toList.map one) (by simp) ?_ (by simpa [Str.length] using h) ?_ ?_
  · rw [seqI_str, chs, List.map_map]; rfl
  · rw [lenD_s h]; simp [Str.length]
  · unfold List.Nodup
    rw [List.pairwise_map]
    refine List.Pairwise.imp (fun h e => h ?_) nd
    have := congrArg (fun s : Str => s.cps.toList) e
    simpa [one] using this
theorem ix3 {x y z : D} (hx : fz x = true) (hy : fz y = true) (hz : fz z = true) : ixD (.tup [x, y, z]) (.int 0) = some x ∧ ixD (.tup [x, y, z]) (.int 1) = some y ∧ ixD (.tup [x, y, z]) (.int 2) = some z := by
  refine ⟨?_, ?_, ?_⟩ <;> simp [ixD, atI, ixN, pick, hx, hy, hz]
theorem s_is_term {l : List (Str × Int)} {x : Trm} (nd : (labs l).Nodup) (h : okTrm l x) : g_is_term [knD l, trmD x] = .ok (.bl true, [some (knD l), some (trmD x)]) := by
  obtain ⟨i0, i1, i2⟩ := ix3 (x := .int x.f) (y := .str x.s) (z := .str x.t) (by simp) (by simp) (by simp)
  have hw := s_is_within (fz_int' x.f) (-99) 99
  have w1 := h.f1
  have w2 := h.f2
  simp [within, w1, w2] at hw
  have hk := nin_kn nd h.kn
  have hi := ix_kn nd h.kn
  have hu := s_unlike_txt (t := x.t) (by have := h.l4; omega) h.nd
  have hn := lenD_s (s := x.t) (by have := h.l4; omega)
  have hlc := lc_pure (k := 2) (elt := mBin inD (mVarA 2) (mFrz (mC (.str "abcd")))) (fun _ => .bl true) (e := [some (knD l), some (.tup [.int x.f, .str x.s, .str x.t]), none]) (ds := chs x.t) (fz_chs x.t) (by rw [len_chs]; have := h.l4; omega) (fun d hd => by
    obtain ⟨c, hc, rfl⟩ := List.mem_map.mp hd
    simp [inD_one, h.ab c hc])
  have hall : allD [.lst false ((chs x.t).map fun _ => .bl true)] = some (.bl true) := allD_true fun d hd => by
    obtain ⟨_, _, rfl⟩ := List.mem_map.mp hd; rfl
  have hfl : fzL ((chs x.t).map fun _ => D.bl true) = true := fzL_map _ (fun _ => by simp) _
  simp only [frzQ_bl] at hlc
  have f0 := h.f0
  have ln := h.ln
  have kz := fz_kn l
  simp [g_is_term, m_is_term, runD, ownOk, outsD, List.range, List.range.loop, ownVars, putBack, isK, trmD, kz, i0, i1, i2, hw, f0, hk, hi, hn, ln, hu, sqV_ok (seqI_str x.t), hlc, restV, frz_lstt hfl, hall]
end Mi
namespace Mi
open PySem PySem.Spec PyProof.Rows L2
structure Dmd where
  ts : List Trm
  k : Int
def dmdD (x : Dmd) : D := .tup [.tup (x.ts.map trmD), .int x.k]
structure okDmd (l : List (Str × Int)) (x : Dmd) : Prop where
  n1 : 1 ≤ x.ts.length
  n8 : x.ts.length ≤ 8
  tr : ∀ t ∈ x.ts, okTrm l t
  k1 : -999 ≤ x.k
  k2 : x.k ≤ 999
theorem fz_trms (l : List Trm) : fzL (l.map trmD) = true := fzL_map _ fz_trm l
theorem fz_dmd (x : Dmd) : fz (dmdD x) = true := by simp [dmdD, fz_trms]
theorem fz_dmds (l : List Dmd) : fzL (l.map dmdD) = true := fzL_map _ fz_dmd l
theorem s_is_demand {l : List (Str × Int)} {x : Dmd} (nd : (labs l).Nodup) (h : okDmd l x) : g_is_demand [knD l, dmdD x] = .ok (.bl true, [some (knD l), some (dmdD x)]) := by
  have hf := fz_trms x.ts
  have hlen : (x.ts.map trmD).length ≤ 1000 := by rw [List.length_map]; have := h.n8; omega
  have kz := fz_kn l
  have z : fz (dmdD x) = true := fz_dmd x
  have hp : g_is_pair [dmdD x] = .ok (.bl true, [some (dmdD x)]) := s_is_pair (l := [.tup (x.ts.map trmD), .int x.k]) (by simp [hf])
  have i0 : ixD (dmdD x) (.int 0) = some (.tup (x.ts.map trmD)) := ixD_t0 (by simp [hf])
  have i1 : ixD (dmdD x) (.int 1) = some (.int x.k) := ixD_t1 (by simp)
  have hw := s_is_within (fz_int' x.k) (-999) 999
  have w1 := h.k1
  have w2 := h.k2
  simp [within, w1, w2] at hw
  have l1 : (1 : Int) ≤ x.ts.length := by have := h.n1; omega
  have l2 : (x.ts.length : Int) ≤ 8 := by have := h.n8; omega
  have hsq : seqI [.tup (x.ts.map trmD)] = some (x.ts.map trmD) := by simp [seqI, hf]
  have e1 := lc_pure (k := 2) (elt := mCall g_is_term (mArgs [mVarA 0, mVarA 2])) (fun _ => .bl true) (e := [some (knD l), some (dmdD x), none]) (ds := x.ts.map trmD) hf hlen (fun d hd => by
    obtain ⟨p, hp, rfl⟩ := List.mem_map.mp hd
    simp [ownVars, putBack, fz_trm, kz, s_is_term nd (h.tr p hp)])
  have e1' : ((x.ts.map trmD).map fun _ => frzQ (.bl true)) = x.ts.map fun _ => D.bl true := by rw [List.map_map]; rfl
  rw [e1'] at e1
  have hall : allD [.lst false (x.ts.map fun _ => D.bl true)] = some (.bl true) := allD_true fun d hd => by
    obtain ⟨_, _, rfl⟩ := List.mem_map.mp hd; rfl
  have hfl : fzL (x.ts.map fun _ => D.bl true) = true := fzL_map _ (fun _ => by simp) _
  have hk : isK .tTup (.tup (x.ts.map trmD)) = some true := rfl
  have hq : frzQ (.tup (x.ts.map trmD)) = .tup (x.ts.map trmD) := frzQ_fz (by simp [hf])
  simp [hq, g_is_demand, m_is_demand, runD, ownOk, outsD, List.range, List.range.loop, ownVars, putBack, kz, z, hp, i0, i1, hk, l1, l2, hf, sqV_ok hsq, e1, restV, frz_lstt hfl, hall, hw]
/-! ### the book -/
structure Bk where
  w : Int
  ts : List (Str × Int)
  ds : List Dmd
def bkD (o : Bool) (b : Bk) : D := .ins o "Book" ["world", "tables", "demands"] [.int b.w, tabsD b.ts, .tup (b.ds.map dmdD)]
structure okBk (b : Bk) : Prop where
  w0 : 0 ≤ b.w
  w1 : b.w ≤ 1000
  ts : okTabs b.ts
  n6 : b.ds.length ≤ 6
  ds : ∀ d ∈ b.ds, okDmd b.ts d
theorem s_Book {b : Bk} (h : okBk b) : g_Book__init [.ins true "Book" [] [], .int b.w, tabsD b.ts, .tup (b.ds.map dmdD)] = .ok (.non, [some (bkD true b), some (.int b.w), some (tabsD b.ts), some (.tup (b.ds.map dmdD))]) := by
  have hw : g_is_world [.int b.w] = .ok (.bl true, [some (.int b.w)]) := by
    have := s_is_world (fz_int' b.w)
    simp [within, h.w0, h.w1] at this
    exact this
  have ht := s_are_tables h.ts
  have hf := fz_tabs b.ts
  have hfd := fz_dmds b.ds
  have hlen : (b.ds.map dmdD).length ≤ 1000 := by rw [List.length_map]; have := h.n6; omega
  have z : fz (tabsD b.ts) = true := by simp [tabsD, hf]
  have hsq : seqI [.tup (b.ds.map dmdD)] = some (b.ds.map dmdD) := by simp [seqI, hfd]
  have hdt := dict_tabs h.ts.nd
  have e1 := lc_pure (k := 4) (elt := mCall g_is_demand (mArgs [mFrz (mCB dictD (mArgs [mVarA 2])), mVarA 4])) (fun _ => .bl true) (e := [some (.ins true "Book" [] []), some (.int b.w), some (tabsD b.ts), some (.tup (b.ds.map dmdD)), none]) (ds := b.ds.map dmdD) hfd hlen (fun d hd => by
    obtain ⟨p, hp, rfl⟩ := List.mem_map.mp hd
    simp [ownVars, putBack, fz_dmd, fz_kn, hdt, frz_kn, z, s_is_demand h.ts.nd (h.ds p hp)])
  have e1' : ((b.ds.map dmdD).map fun _ => frzQ (.bl true)) = b.ds.map fun _ => D.bl true := by rw [List.map_map]; rfl
  rw [e1'] at e1
  have hall : allD [.lst false (b.ds.map fun _ => D.bl true)] = some (.bl true) := allD_true fun d hd => by
    obtain ⟨_, _, rfl⟩ := List.mem_map.mp hd; rfl
  have hfl : fzL (b.ds.map fun _ => D.bl true) = true := fzL_map _ (fun _ => by simp) _
  have hk : isK .tTup (.tup (b.ds.map dmdD)) = some true := rfl
  have l2 : ¬ (6 : Int) < b.ds.length := by have := h.n6; omega
  have n1 : ¬ ("world" : Str) = "tables" := by decide
  have n2 : ¬ ("world" : Str) = "demands" := by decide
  have n3 : ¬ ("tables" : Str) = "demands" := by decide
  have hq : frzQ (.tup (b.ds.map dmdD)) = .tup (b.ds.map dmdD) := frzQ_fz (by simp [hfd])
  simp [n1, n2, n3, hq, g_Book__init, m_Book__init, runD, ownOk, outsD, List.range, List.range.loop, ownVars, putBack, z, hw, ht, hk, l2, hfd, sqV_ok hsq, e1, restV, frz_lstt hfl, hall, fsetG, cs_world, cs_tables, cs_demands, putW, frzQ_fz, bkD]
end Mi
namespace Mi
open PySem PySem.Spec PyProof.Rows L2
/-! ### reading the book -/
@[simp] theorem fld_tables (o : Bool) (b : Bk) : fldG cs_tables "tables" (bkD o b) = some (tabsD b.ts) := by
  have z : fz (tabsD b.ts) = true := by simp [tabsD, fz_tabs]
  have n1 : ¬ ("tables" : Str) = "world" := by decide
  simp [bkD, fldG, fldD, cs_tables, pick, z, n1]
/-! ### sets of letters -/
theorem kds_of : ∀ ds : List (Key × D), kds (ds.map fun p => unkD p.1) (ds.map (·.2)) = some ds
  | [] => rfl
  | (k, d) :: ds => by
    simp only [List.map_cons, kds, kds_of ds]
    cases k <;> rfl
end Mi
namespace Mi
open PySem PySem.Spec PyProof.Rows L2
theorem fz_bk (b : Bk) : fz (bkD true b) = false := by rw [bkD, fz]; rfl
theorem ix_tup {l : List D} (z : fzL l = true) {i : Nat} (h : i < l.length) : ixD (.tup l) (.int i) = some l[i] := by
  have h2 : (i : Int) < l.length := by omega
  have h0 : (0 : Int) ≤ i := by omega
  simp [ixD, atI, ixN, h, h0, pick, fzL_mem z _ (List.getElem_mem h)]
/-! the most letters -/
end Mi
namespace Mi
open PySem PySem.Spec PyProof.Rows L2
def ownT (l : List (Str × Int)) : D := dicG (knG l)
theorem ownT_eq (l : List (Str × Int)) : ownT l = .dic true (l.map fun p => .str p.1) (l.map fun p => .int p.2) := by
  simp only [ownT, dicG, knG, List.map_map]; rfl
theorem fzL_keysT (l : List (Str × Int)) : fzL (l.map fun p => D.str p.1) = true := fzL_map _ (fun _ => by simp) _
theorem fzL_valsT (l : List (Str × Int)) : fzL (l.map fun p => D.int p.2) = true := fzL_map _ (fun _ => by simp) _
theorem fz_ownT (l : List (Str × Int)) : fz (ownT l) = false := by rw [ownT_eq, fz]; rfl
theorem ix_own {l : List (Str × Int)} {s : Str} {n : Int} (nd : (labs l).Nodup) (h : (s, n) ∈ l) : ixD (ownT l) (.str s) = some (.int n) := by
  rw [ownT_eq]
  simp only [ixD, keyD, getK_kn nd h, pick, fz_int, if_true]
theorem nin_own {l : List (Str × Int)} {s : Str} {n : Int} (nd : (labs l).Nodup) (h : (s, n) ∈ l) : ninD (.str s) (ownT l) = some (.bl false) := by
  rw [ownT_eq]
  simp only [ninD, inQ, keyD, getK_kn nd h]
  rfl
theorem ks_own (l : List (Str × Int)) : isK .tDic (ownT l) = some true := by rw [ownT_eq]; rfl
theorem len_own (l : List (Str × Int)) : lenD [ownT l] = some (.int l.length) := by rw [ownT_eq]; simp
/-! the owned table takes any text as key -/
theorem setX_own {b : Bool} {ds : List (Key × D)} {s : Str} {n : Int} (h : fzL (ds.map (·.2)) = true) (h2 : ds.length < 16000000) : setX (dicG ds) (.str s) (.int n) = some (dicG (putG ds (.inr s) (.int n))) := by
  simp only [dicG, setX, kds_of, keyD]
  rw [if_pos ⟨h, h2⟩]
theorem fz_putG {ds : List (Key × D)} {k : Key} {d : D} (h : fzL (ds.map (·.2)) = true) (hd : fz d = true) : fzL ((putG ds k d).map (·.2)) = true := by
  refine fzL_all fun x hx => ?_
  obtain ⟨p, hp, rfl⟩ := List.mem_map.mp hx
  unfold putG at hp
  split at hp
  · obtain ⟨q, hq, rfl⟩ := List.mem_map.mp hp
    split
    · exact hd
    · exact fzL_mem h _ (List.mem_map.mpr ⟨q, hq, rfl⟩)
  · rcases List.mem_append.mp hp with hp | hp
    · exact fzL_mem h _ (List.mem_map.mpr ⟨p, hp, rfl⟩)
    · rw [List.mem_singleton] at hp
      subst hp; exact hd
end Mi
namespace Mi
open PySem PySem.Spec PyProof.Rows L2
/-! ### the law's own drawing: fold, tables -/
/-! tables -/
def putL (l : List (Str × Int)) (s : Str) (n : Int) : List (Str × Int) := if s ∈ labs l then l.map (fun p => if p.1 = s then (p.1, n) else p) else l ++ [(s, n)]
theorem putL_kn (l : List (Str × Int)) (s : Str) (n : Int) : putG (knG l) (.inr s) (.int n) = knG (putL l s n) := by
  have e : ((knG l).any fun p => decide (p.1 = .inr s)) = true ↔ s ∈ labs l := by
    rw [List.any_eq_true]
    constructor
    · rintro ⟨x, hx, hk⟩
      obtain ⟨p, hp, rfl⟩ := List.mem_map.mp hx
      have : p.1 = s := by simpa using hk
      exact List.mem_map.mpr ⟨p, hp, this⟩
    · intro h
      obtain ⟨p, hp, rfl⟩ := List.mem_map.mp h
      exact ⟨_, List.mem_map.mpr ⟨p, hp, rfl⟩, by simp⟩
  unfold putG putL
  by_cases h : s ∈ labs l
  · rw [if_pos (e.mpr h), if_pos h]
    simp only [knG, List.map_map]
    refine List.map_congr_left fun p _ => ?_
    simp only [Function.comp]
    by_cases hp : p.1 = s
    · rw [if_pos (by rw [hp]), if_pos hp]
    · rw [if_neg (fun e => hp (Sum.inr.inj e)), if_neg hp]
  · rw [if_neg (fun x => h (e.mp x)), if_neg h]
    simp [knG]
theorem labs_put (l : List (Str × Int)) (s : Str) (n : Int) : labs (putL l s n) = if s ∈ labs l then labs l else labs l ++ [s] := by
  unfold putL
  split
  · simp only [labs, List.map_map]
    refine List.map_congr_left fun p _ => ?_
    simp only [Function.comp]
    split <;> rfl
  · simp [labs]
theorem put_nd {l : List (Str × Int)} {s : Str} {n : Int} (h : (labs l).Nodup) : (labs (putL l s n)).Nodup := by
  rw [labs_put]
  split
  · exact h
  · rename_i hn
    rw [List.nodup_append]
    exact ⟨h, by simp, fun a ha b hb => by rw [List.mem_singleton] at hb; subst hb; rintro rfl; exact hn ha⟩
theorem put_mem {l : List (Str × Int)} {s : Str} {n : Int} {p : Str × Int} (h : p ∈ putL l s n) : p = (s, n) ∨ p ∈ l := by
  unfold putL at h
  split at h
  · obtain ⟨q, hq, rfl⟩ := List.mem_map.mp h
    split
    · rename_i e; rw [e]; exact .inl rfl
    · exact .inr hq
  · rcases List.mem_append.mp h with h | h
    · exact .inr h
    · exact .inl (List.mem_singleton.mp h)
theorem put_len (l : List (Str × Int)) (s : Str) (n : Int) : (putL l s n).length ≤ l.length + 1 ∧ l.length ≤ (putL l s n).length ∧ 1 ≤ (putL l s n).length := by
  unfold putL
  split
  · rename_i h
    have : l ≠ [] := by rintro rfl; simp [labs] at h
    have := List.length_pos_iff.mpr this
    rw [List.length_map]; omega
  · simp
theorem setX_kn {l : List (Str × Int)} {s : Str} {n : Int} (h : l.length < 16000000) : setX (dicG (knG l)) (.str s) (.int n) = some (dicG (knG (putL l s n))) := by
  rw [← putL_kn]
  refine setX_own (b := true) ?_ (by simpa [knG] using h)
  rw [show ((knG l).map (·.2)) = l.map fun p => D.int p.2 by simp only [knG, List.map_map]; rfl]
  exact fzL_valsT _
theorem tupleD_l {o : Bool} {l : List D} (h : fzL l = true) : tupleD [.lst o l] = some (.tup l) := by simp [tupleD, h]
@[simp] theorem truD_bl (b : Bool) : truD (.bl b) = some b := rfl
theorem fz_knG (l : List (Str × Int)) : fz (dicG (knG l)) = false := fz_ownT l
theorem kn_one {l : List (Str × Int)} {s : Str} {n m : Int} (nd : (labs l).Nodup) (h : (s, n) ∈ l) (g : (s, m) ∈ l) : n = m := by
  have h1 := getK_kn nd h
  rw [getK_kn nd g] at h1
  cases h1; rfl
def vl (l : List (Str × Int)) (s : Str) : Int := ((l.find? fun p => decide (p.1 = s)).map (·.2)).getD 0
theorem vl_mem {l : List (Str × Int)} {s : Str} (h : s ∈ labs l) : (s, vl l s) ∈ l := by
  unfold vl
  cases e : l.find? fun p => decide (p.1 = s) with
  | none =>
    obtain ⟨p, hp, rfl⟩ := List.mem_map.mp h
    have := List.find?_eq_none.mp e p hp
    simp at this
  | some p =>
    have h1 := List.mem_of_find?_eq_some e
    have h2 := List.find?_some e
    have h3 : p.1 = s := by simpa using h2
    rw [← h3]
    exact h1
theorem vl_all {l : List (Str × Int)} (nd : (labs l).Nodup) : ((labs l).map fun s => (s, vl l s)) = l := by
  unfold labs
  rw [List.map_map]
  conv => rhs; rw [← List.map_id l]
  refine List.map_congr_left fun p hp => ?_
  have := vl_mem (l := l) (s := p.1) (List.mem_map.mpr ⟨p, hp, rfl⟩)
  have e := kn_one nd this (n := vl l p.1) (m := p.2) hp
  simp only [Function.comp, id]
  rw [e]
def srtT (l : List (Str × Int)) : List (Str × Int) := (sortS (labs l)).map fun s => (s, vl l s)
theorem srtT_perm {l : List (Str × Int)} (nd : (labs l).Nodup) : (srtT l).Perm l := by
  have h : (srtT l).Perm ((labs l).map fun s => (s, vl l s)) := (List.mergeSort_perm (labs l) leS).map _
  rw [vl_all nd] at h
  exact h
theorem srtT_labs (l : List (Str × Int)) : labs (srtT l) = sortS (labs l) := by
  unfold srtT labs
  rw [List.map_map]
  exact (List.map_congr_left fun _ _ => rfl).trans (List.map_id _)
theorem one3 {l : List (Str × Int)} {s : Str} (nd : (labs l).Nodup) (h : ∀ p ∈ l, p.2 = 3 → p.1 = s) : (l.filter fun p => decide (p.2 = 3)).length ≤ 1 := by
  have hs : (l.filter fun p => decide (p.2 = 3)).Sublist l := List.filter_sublist
  have hn : (labs (l.filter fun p => decide (p.2 = 3))).Nodup := List.Nodup.sublist (hs.map _) nd
  have hm : ∀ p ∈ l.filter fun p => decide (p.2 = 3), p.1 = s := fun p hp => by
    obtain ⟨h1, h2⟩ := List.mem_filter.mp hp
    exact h p h1 (by simpa using h2)
  generalize (l.filter fun p => decide (p.2 = 3)) = m at hn hm
  match m, hn, hm with
  | [], _, _ => simp
  | [_], _, _ => simp
  | p :: q :: m, hn, hm =>
    have h1 := hm p (by simp)
    have h2 := hm q (by simp)
    have := (List.nodup_cons.mp hn).1
    exact absurd (List.mem_map.mpr ⟨q, by simp, h2.trans h1.symm⟩) this
theorem okTabs_srt {l : List (Str × Int)} (nd : (labs l).Nodup) (h1 : 1 ≤ l.length) (h4 : l.length ≤ 4) (ht : ∀ p ∈ l, okTab p) (hb : (l.filter fun p => decide (p.2 = 3)).length ≤ 1) : okTabs (srtT l) := by
  have hp := srtT_perm nd
  refine ⟨by rw [hp.length_eq]; exact h1, by rw [hp.length_eq]; exact h4, fun p h => ht p (hp.mem_iff.mp h), ?_, ?_, ?_⟩
  · rw [srtT_labs]
    exact List.mergeSort_of_pairwise (sortS_pw (labs l))
  · rw [srtT_labs]
    exact (List.mergeSort_perm (labs l) leS).nodup_iff.mpr nd
  · rw [(hp.filter _).length_eq]; exact hb
theorem listX_kn (l : List (Str × Int)) : listX [dicG (knG l)] = some (.lst true ((labs l).map .str)) := by
  rw [show dicG (knG l) = ownT l from rfl, ownT_eq]
  simp only [listX, fzL_keysT, if_true, labs, List.map_map]; rfl
theorem sortD_labs (o : Bool) {l : List Str} (h : l.length < 64) : sortD [.lst o (l.map .str)] = some (.lst true ((sortS l).map .str)) := by
  simp only [sortD, strsOf_map]
  rw [if_pos h]
def tsF (l : List (Str × Int)) : D → D := fun d => match d with
  | .str s => tabD (s, vl l s)
  | _ => .non
theorem ts_lc {l : List (Str × Int)} (nd : (labs l).Nodup) (h : l.length ≤ 1000) (p q x y : Option D) : kLc (.nm 5) mYes (mTup (mArgs [mFrz (mVarE 5), mFrz (mBin ixD (mVarA 2) (mVarA 5))])) [5] ((sortS (labs l)).map .str, [p, q, some (dicG (knG l)), x, y, none]) = .ok (.lst true ((srtT l).map tabD), [p, q, some (dicG (knG l)), x, y, none]) := by
  have hl : (sortS (labs l)).length = l.length := by rw [sortS, List.length_mergeSort, labs_len]
  have e1 := lc_pure (k := 5) (elt := mTup (mArgs [mFrz (mVarE 5), mFrz (mBin ixD (mVarA 2) (mVarA 5))])) (tsF l) (e := [p, q, some (dicG (knG l)), x, y, none]) (ds := (sortS (labs l)).map .str) (fzL_strs _) (by rw [List.length_map]; omega) (fun d hd => by
    obtain ⟨s, hs, rfl⟩ := List.mem_map.mp hd
    have hs' : s ∈ labs l := (List.mergeSort_perm (labs l) leS).mem_iff.mp hs
    have hi := ix_own nd (vl_mem hs')
    rw [show ownT l = dicG (knG l) from rfl] at hi
    simp [hi, tsF, tabD])
  rw [e1]
  simp only [srtT, List.map_map]
  refine congrArg Res.ok (Prod.ext ?_ (by simp [restV]))
  refine congrArg (D.lst true) (List.map_congr_left fun s _ => ?_)
  simp only [Function.comp, tsF]
  exact frzQ_fz (fz_tab _)
end Mi
namespace Mi
open PySem PySem.Spec PyProof.Rows L2
/-! ### a comprehension that draws -/
theorem draw {α : Type} {k : Nat} {elt : EM D} (E : Int → Int → Int → Option D → EnvD) (out : α → D) (ok : α → Prop) (hw : ∀ a b c x y, (E a b c x).set k y = E a b c y) (hz : ∀ z, fz (out z) = true)
    (hs : ∀ a b c d, ∃ z a' b' c', elt (E a b c (some d)) = .ok (out z, E a' b' c' (some d)) ∧ ok z) : ∀ (ds : List D) (acc : List D) (a b c : Int) (x : Option D), ∃ (l : List α) (a' b' c' : Int) (y : Option D),
    loopL (.nm k) mYes elt [k] ds acc (E a b c x) = .ok (acc ++ l.map out, E a' b' c' y) ∧ l.length = ds.length ∧ ∀ z ∈ l, ok z
  | [], acc, a, b, c, x => ⟨[], a, b, c, x, by simp [loopL], rfl, by simp⟩
  | d :: ds, acc, a, b, c, x => by
    obtain ⟨z, a1, b1, c1, h1, h2⟩ := hs a b c d
    obtain ⟨l, a2, b2, c2, y, k1, k2, k3⟩ := draw E out ok hw hz hs ds (acc ++ [out z]) a1 b1 c1 (some d)
    refine ⟨z :: l, a2, b2, c2, y, ?_, by simp [k2], fun w hw' => ?_⟩
    · simp only [loopL, wipeE, hw, tg_nm, e_yes, h1]
      rw [frzQ_fz (hz z), k1]
      simp
    · rcases List.mem_cons.mp hw' with rfl | hw'
      · exact h2
      · exact k3 w hw'
/-! ### terms and demands drawn -/
theorem er_map {α β : Type} (f : α → β) : ∀ (l : List α) (k : Nat), (l.map f).eraseIdx k = (l.eraseIdx k).map f
  | [], k => by simp
  | x :: l, 0 => by simp
  | x :: l, k + 1 => by simp [er_map f l k]
theorem er_perm {α : Type} : ∀ (l : List α) (k : Nat) (h : k < l.length), (l[k] :: l.eraseIdx k).Perm l
  | x :: l, 0, h => by simp
  | x :: l, k + 1, h => by
    have := er_perm l k (by simpa using h)
    simp only [List.getElem_cons_succ, List.eraseIdx_cons_succ]
    exact (List.Perm.swap _ _ _).trans (this.cons x)
theorem pop_at {rs : List Nat} {r : Int} (h : 0 ≤ r) (h2 : r < rs.length) (h4 : rs.length ≤ 1000) : ∃ c rs', popF (rs.map fun c => .str (one c)) [.int r] = some (.str (one c), rs'.map fun c => .str (one c)) ∧ (c :: rs').Perm rs ∧ rs'.length + 1 = rs.length := by
  have hk : r.toNat < rs.length := by omega
  refine ⟨rs[r.toNat], rs.eraseIdx r.toNat, ?_, ?_, ?_⟩
  · have hz : fzL (rs.map fun c => D.str (one c)) = true := fzL_map _ (fun _ => by simp) _
    have hi : seqIndex? r (rs.map fun c => D.str (one c)).length = some r.toNat := by
      rw [List.length_map]
      unfold seqIndex?
      have : ¬ r < 0 := by omega
      simp [this, h, h2]
    simp only [popF]
    rw [if_pos ⟨hz, by omega, by omega⟩, hi]
    simp [hk, er_map]
  · exact er_perm rs r.toNat hk
  · rw [List.length_eraseIdx_of_lt hk]; omega
def plE : EM FlowD := (mAsg 5 (mBin addD (mVarA 5) (mFrz (mMet 4 (mArgs [mFrz (mCall g__law_pick (mArgs [mVarA 0, mFrz (mCB lenD (mArgs [mVarA 4]))]))]) popF))))
theorem add_one (acc : List Nat) (c : Nat) (h : acc.length ≤ 1000) : addD (.str (txt acc)) (.str (one c)) = some (.str (txt (acc ++ [c]))) := by
  have e : txt acc ++ one c = txt (acc ++ [c]) := by
    apply str_ext
    rw [txt_cps]
    show (Array.mk acc ++ #[c]).toList = _
    simp
  simp only [addD]
  rw [if_pos (by rw [szl, txt_len]; show acc.length + 1 ≤ _; omega), e]
theorem pl_loop (cells : List Int) (p q r : Option D) : ∀ (ds : List D) (rs acc : List Nat) (a b c : Int) (x : Option D), ds.length ≤ rs.length → rs.length + acc.length ≤ 1000 → ∃ (rs' acc' : List Nat) (a' b' c' : Int) (y : Option D),
    loopF (.nm 6) plE ds [some (dk cells a b c), p, q, r, some (.lst true (rs.map fun c => .str (one c))), some (.str (txt acc)), x] = .ok (.next, [some (dk cells a' b' c'), p, q, r, some (.lst true (rs'.map fun c => .str (one c))), some (.str (txt acc')), y]) ∧ (acc' ++ rs').Perm (acc ++ rs) ∧ acc'.length = acc.length + ds.length
  | [], rs, acc, a, b, c, x, _, _ => ⟨rs, acc, a, b, c, x, by simp [e_lp0], List.Perm.refl _, by simp⟩
  | d :: ds, rs, acc, a, b, c, x, hl, h4 => by
    simp only [List.length_cons] at hl
    obtain ⟨z, a1, b1, c1, k1, k2, k3⟩ := s_law_pick cells a b c (m := (rs.length : Int)) (by omega) (Nat.lt_of_le_of_lt (Nat.log2_le_self _) (by omega))
    obtain ⟨ch, rs1, g1, g2, g3⟩ := pop_at k2 k3 (by omega)
    obtain ⟨rs', acc', a2, b2, c2, y, j1, j2, j3⟩ := pl_loop cells p q r ds rs1 (acc ++ [ch]) a1 b1 c1 (some d) (by omega) (by rw [List.length_append]; simp; omega)
    refine ⟨rs', acc', a2, b2, c2, y, ?_, ?_, by rw [j3]; simp; omega⟩
    · rw [e_lp]
      have ha := add_one acc ch (by omega)
      simp only [plE] at j1 ⊢
      simp [ownVars, putBack, k1, g1, ha]
      exact j1
    · refine j2.trans ?_
      rw [List.append_assoc]
      exact List.Perm.append_left acc g2
end Mi
namespace Mi
open PySem PySem.Spec PyProof.Rows L2
/-! ### tables, terms, demands drawn -/
def kmyz : Str := "kmyz"
def kl8 : List Str := ["k", "kk", "m", "mm", "y", "yy", "z", "zz"]
theorem kl8_lab : ∀ s ∈ kl8, okLab s := by unfold okLab; decide +kernel
theorem kl8_le : ∀ s ∈ kl8, leS s "zzzz" = true ∧ leS s "zzzzz" = true ∧ s ≠ "zzzz" ∧ s ≠ "zzzzz" := by decide +kernel
theorem ix_s {t : Str} {r : Int} (h : 0 ≤ r) (h2 : r < t.cps.toList.length) (hs : t.cps.toList.length ≤ 1000) : ∃ c ∈ t.cps.toList, ixD (.str t) (.int r) = some (.str (one c)) := by
  have hz : t.length ≤ sizeLine := by rw [szl]; show t.cps.size ≤ _; rw [← Array.length_toList]; omega
  have e : r.toNat < t.cps.toList.length := by omega
  refine ⟨t.cps.toList[r.toNat], List.getElem_mem e, ?_⟩
  simp only [ixD, hz, if_true, atI, ixN, h, h2, Option.bind_some, List.getElem?_eq_getElem e, Option.map_some, one]
theorem rep_kl8 {c : Nat} (hc : c ∈ [107, 109, 121, 122]) {r : Int} (h0 : 0 ≤ r) (h2 : r < 2) : mulSD (.str (one c)) (.int (1 + r)) = some (.str (repS (one c) (1 + r))) ∧ repS (one c) (1 + r) ∈ kl8 := by
  have hl : (one c).length = 1 := rfl
  refine ⟨by simp only [mulSD]; rw [if_pos ⟨by rw [hl]; omega, by omega, by omega⟩], ?_⟩
  have hr : r = 0 ∨ r = 1 := by omega
  have key : ∀ c ∈ [107, 109, 121, 122], repS (one c) 1 ∈ kl8 ∧ repS (one c) 2 ∈ kl8 := by decide +kernel
  rcases hr with rfl | rfl
  · exact (key c hc).1
  · exact (key c hc).2
def tbE : EM FlowD := (mSetX 1 (mBin mulSD (mFrz (mBin ixD (mFrz (mC (.str "kmyz"))) (mFrz (mCall g__law_pick (mArgs [mVarA 0, mFrz (mC (.int 4))]))))) (mFrz (mBin addD (mFrz (mC (.int 1))) (mFrz (mCall g__law_pick (mArgs [mVarA 0, mFrz (mC (.int 2))])))))) (mCall g__law_pick (mArgs [mVarA 0, mFrz (mC (.int 3))])))
theorem tb_loop (cells : List Int) (v : Option D) : ∀ (ds : List D) (l : List (Str × Int)) (a b c : Int) (x : Option D), l.length + ds.length ≤ 1000 → (labs l).Nodup → (∀ p ∈ l, p.1 ∈ kl8 ∧ 0 ≤ p.2 ∧ p.2 ≤ 2) → ∃ (l' : List (Str × Int)) (a' b' c' : Int) (y : Option D),
    loopF (.nm 2) tbE ds [some (dk cells a b c), some (dicG (knG l)), x, v] = .ok (.next, [some (dk cells a' b' c'), some (dicG (knG l')), y, v]) ∧ (labs l').Nodup ∧ (∀ p ∈ l', p.1 ∈ kl8 ∧ 0 ≤ p.2 ∧ p.2 ≤ 2) ∧ l'.length ≤ l.length + ds.length ∧ (1 ≤ l.length + ds.length → 1 ≤ l'.length)
  | [], l, a, b, c, x, _, h1, h2 => ⟨l, a, b, c, x, by simp [e_lp0], h1, h2, by simp, by simp⟩
  | d :: ds, l, a, b, c, x, hl, h1, h2 => by
    obtain ⟨r, a1, b1, c1, k1, k2, k3⟩ := s_law_pick cells a b c (m := 3) (by decide) (by decide)
    obtain ⟨z, a2, b2, c2, k4, k5, k6⟩ := s_law_pick cells a1 b1 c1 (m := 4) (by decide) (by decide)
    obtain ⟨q, a3, b3, c3, k7, k8, k9⟩ := s_law_pick cells a2 b2 c2 (m := 2) (by decide) (by decide)
    obtain ⟨ch, hch, hi⟩ := ix_s (t := kmyz) k5 (by have : kmyz.cps.toList.length = 4 := by decide +kernel
                                                    rw [this]; exact k6) (by decide +kernel)
    have hch' : ch ∈ [107, 109, 121, 122] := by
      have : kmyz.cps.toList = [107, 109, 121, 122] := by decide +kernel
      rwa [this] at hch
    obtain ⟨m1, m2⟩ := rep_kl8 hch' k8 k9
    simp only [List.length_cons] at hl
    obtain ⟨p1, p2, p3⟩ := put_len l (repS (one ch) (1 + q)) r
    obtain ⟨l', a4, b4, c4, y, j1, j2, j3, j4, j5⟩ := tb_loop cells v ds (putL l (repS (one ch) (1 + q)) r) a3 b3 c3 (some d) (by omega) (put_nd h1) (fun p hp => by
      rcases put_mem hp with rfl | hp
      · exact ⟨m2, k2, by show r ≤ 2; omega⟩
      · exact h2 p hp)
    refine ⟨l', a4, b4, c4, y, ?_, j2, j3, by simp only [List.length_cons]; omega, fun _ => j5 (by omega)⟩
    rw [e_lp]
    simp only [tbE] at j1 ⊢
    simp only [kmyz] at hi
    have hx := setX_kn (l := l) (s := repS (one ch) (1 + q)) (n := r) (by omega)
    generalize repS (one ch) (1 + q) = w at *
    simp (implicitDefEqProofs := false) [ownVars, putBack, k1, k4, k7, hi, hx, m1]
    exact j1
theorem ts_lc4 {l : List (Str × Int)} (nd : (labs l).Nodup) (h : l.length ≤ 1000) (p x : Option D) : kLc (.nm 3) mYes (mTup (mArgs [mFrz (mVarE 3), mFrz (mBin ixD (mVarA 1) (mVarA 3))])) [3] ((sortS (labs l)).map .str, [p, some (dicG (knG l)), x, none]) = .ok (.lst true ((srtT l).map tabD), [p, some (dicG (knG l)), x, none]) := by
  have hl : (sortS (labs l)).length = l.length := by rw [sortS, List.length_mergeSort, labs_len]
  have e1 := lc_pure (k := 3) (elt := mTup (mArgs [mFrz (mVarE 3), mFrz (mBin ixD (mVarA 1) (mVarA 3))])) (tsF l) (e := [p, some (dicG (knG l)), x, none]) (ds := (sortS (labs l)).map .str) (fzL_strs _) (by rw [List.length_map]; omega) (fun d hd => by
    obtain ⟨s, hs, rfl⟩ := List.mem_map.mp hd
    have hs' : s ∈ labs l := (List.mergeSort_perm (labs l) leS).mem_iff.mp hs
    have hi := ix_own nd (vl_mem hs')
    rw [show ownT l = dicG (knG l) from rfl] at hi
    simp [hi, tsF, tabD])
  rw [e1]
  simp only [srtT, List.map_map]
  refine congrArg Res.ok (Prod.ext ?_ (by simp [restV]))
  refine congrArg (D.lst true) (List.map_congr_left fun s _ => ?_)
  simp only [Function.comp, tsF]
  exact frzQ_fz (fz_tab _)
/- tables of this law -/
structure kT (l : List (Str × Int)) : Prop where
  ok : okTabs l
  l2 : l.length ≤ 2
  k8 : ∀ p ∈ l, p.1 ∈ kl8 ∧ 0 ≤ p.2 ∧ p.2 ≤ 2
theorem s_law_tables (cells : List Int) (a b c : Int) : ∃ (l : List (Str × Int)) (a' b' c' : Int), g__law_tables [dk cells a b c] = .ok (tabsD l, [some (dk cells a' b' c')]) ∧ kT l := by
  obtain ⟨r, a1, b1, c1, h1, h2, h3⟩ := s_law_pick cells a b c (m := 2) (by decide) (by decide)
  have hz : fzL (rngD 0 (1 + r).toNat) = true := fzL_map _ (fun _ => by simp) _
  have hr : rng1 [.int (1 + r)] = some (rngD 0 (1 + r).toNat) := by
    show (if _ then _ else _) = _
    rw [if_pos (by omega)]
  have hlen : (rngD 0 (1 + r).toNat).length = (1 + r).toNat := by simp [rngD]
  obtain ⟨l, a2, b2, c2, y, k1, k2, k3, k4, k5⟩ := tb_loop cells none (rngD 0 (1 + r).toNat) [] a1 b1 c1 none (by rw [hlen]; simp; omega) (by simp [labs]) (by simp)
  rw [hlen] at k4 k5
  simp only [List.length_nil, Nat.zero_add] at k4 k5
  have l1 : 1 ≤ l.length := k5 (by omega)
  have l4 : l.length ≤ 2 := by omega
  have hs := sortD_labs false (l := labs l) (by rw [labs_len]; omega)
  have hL := listX_kn l
  have hfs : fzL ((labs l).map D.str) = true := fzL_strs _
  have hfS : fzL ((sortS (labs l)).map D.str) = true := fzL_strs _
  have hsl : (sortS (labs l)).length = l.length := by rw [sortS, List.length_mergeSort, labs_len]
  have hsq : seqI [.lst false ((sortS (labs l)).map D.str)] = some ((sortS (labs l)).map D.str) := by simp [seqI, hfS]
  have hft := fz_tabs (srtT l)
  simp only [tbE] at k1
  rw [show dicG (knG []) = .dic true [] [] from rfl] at k1
  have hfk := fz_knG l
  have hp := srtT_perm k2
  have hlc := ts_lc4 k2 (by omega) (some (dk cells a2 b2 c2)) y
  refine ⟨srtT l, a2, b2, c2, ?_, okTabs_srt k2 l1 (by omega) (fun p hp => ⟨kl8_lab _ (k3 p hp).1, (k3 p hp).2.1, by have := (k3 p hp).2.2; omega⟩) ?_, by rw [hp.length_eq]; exact l4, fun p h => k3 p (hp.mem_iff.mp h)⟩
  · simp (implicitDefEqProofs := false) [g__law_tables, m__law_tables, runD, ownOk, outsD, List.range, List.range.loop, ownVars, putBack, h1, rV_ok hr, kFor_ok hz, k1, hL, hs, hfk, frz_lstt hfs, frz_lstt hfS, frz_lstt hft, hft, sqV_ok hsq, hlc, tupleD_l hft, tabsD]
  · exact one3 (s := "") k2 fun p hp e => by have := (k3 p hp).2.2; omega
/-! terms -/
theorem pick_l {l : List Int} {r : Int} (h : 0 ≤ r) (h2 : r < l.length) (o : Bool) : ∃ z ∈ l, ixD (.lst o (l.map .int)) (.int r) = some (.int z) := by
  have e : r.toNat < l.length := by omega
  refine ⟨l[r.toNat], List.getElem_mem e, ?_⟩
  simp [ixD, atI, ixN, h, h2, pick, e]
def fls : List Int := [1, -1, 2, 99, -99]
def rls : List Int := [0, 1, -1, 999, -999]
theorem s_law_term {l : List (Str × Int)} (h : okTabs l) (cells : List Int) (a b c : Int) : ∃ (x : Trm) (a' b' c' : Int), g__law_term [dk cells a b c, tabsD l] = .ok (trmD x, [some (dk cells a' b' c'), some (tabsD l)]) ∧ okTrm l x ∧ x.f ∈ fls := by
  have n1 := h.n1
  have n4 := h.n4
  obtain ⟨r, a1, b1, c1, h1, h2, h3⟩ := s_law_pick cells a b c (m := (l.length : Int)) (by omega) (Nat.lt_of_le_of_lt (Nat.log2_le_self _) (by omega))
  have hr : r.toNat < l.length := by omega
  have hp : l[r.toNat] ∈ l := List.getElem_mem hr
  have hx := ix_tup (fz_tabs l) (i := r.toNat) (by rw [List.length_map]; exact hr)
  rw [List.getElem_map, show ((r.toNat : Nat) : Int) = r by omega] at hx
  rw [show D.tup (l.map tabD) = tabsD l from rfl] at hx
  generalize l[r.toNat] = p at hp hx
  obtain ⟨o1, o2, o3⟩ := h.tab p hp
  have zt : fz (tabsD l) = true := by simp [tabsD, fz_tabs]
  have hlt : lenD [tabsD l] = some (.int l.length) := by simp [tabsD]
  have hrg : rng1 [.int p.2] = some (rngD 0 p.2.toNat) := by
    show (if _ then _ else _) = _
    rw [if_pos (by omega)]
  have hzr : fzL (rngD 0 p.2.toNat) = true := fzL_map _ (fun _ => by simp) _
  have hlr : (rngD 0 p.2.toNat).length = p.2.toNat := by simp [rngD]
  obtain ⟨rs, acc, a2, b2, c2, y, j1, j2, j3⟩ := pl_loop cells (some (tabsD l)) (some (.str p.1)) (some (.int p.2)) (rngD 0 p.2.toNat) [97, 98, 99, 100] [] a1 b1 c1 none (by rw [hlr]; simp; omega) (by simp)
  rw [hlr] at j3
  simp only [List.length_nil, Nat.zero_add] at j3
  obtain ⟨f, a3, b3, c3, k1, k2, k3⟩ := s_law_pick cells a2 b2 c2 (m := 5) (by decide) (by decide)
  obtain ⟨w, hw, hwi⟩ := pick_l (l := fls) k2 k3 false
  have hw99 : -99 ≤ w ∧ w ≤ 99 ∧ w ≠ 0 := by
    have : ∀ w ∈ fls, -99 ≤ w ∧ w ≤ 99 ∧ w ≠ 0 := by decide
    exact this w hw
  have hsub : acc.Sublist (acc ++ rs) := List.sublist_append_left acc rs
  have hj : (acc ++ rs).Perm [97, 98, 99, 100] := j2
  have hnd : (acc ++ rs).Nodup := hj.nodup_iff.mpr (by decide)
  refine ⟨⟨w, p.1, p.2, txt acc⟩, a3, b3, c3, ?_, ?_, hw⟩
  · simp only [plE] at j1
    rw [show ([97, 98, 99, 100].map fun c => D.str (one c)) = [.str "a", .str "b", .str "c", .str "d"] from rfl, show (.str (txt []) : D) = .str "" from rfl] at j1
    have zp : fz (tabD p) = true := fz_tab p
    have hq : frzQ (.tup [.str p.1, .int p.2]) = .tup [.str p.1, .int p.2] := frzQ_fz (by simp)
    have hfl : frzQ (.lst true [.int 1, .int (-1), .int 2, .int 99, .int (-99)]) = .lst false (fls.map .int) := frz_lstt rfl
    simp (implicitDefEqProofs := false) [g__law_term, m__law_term, runD, ownOk, outsD, List.range, List.range.loop, ownVars, putBack, zt, hlt, h1, hx, mTg, mTgs, hq, tabD, rV_ok hrg, kFor_ok hzr, j1, k1, hfl, hwi, trmD]
  · refine ⟨hw99.1, hw99.2.1, hw99.2.2, hp, ?_, ?_, ?_, ?_⟩
    · show ((txt acc).length : Int) = p.2
      rw [txt_len]; omega
    · show (txt acc).length ≤ 4
      rw [txt_len]; omega
    · show (txt acc).cps.toList.Nodup
      rw [txt_cps]; exact hnd.sublist hsub
    · show ∀ c ∈ (txt acc).cps.toList, _
      rw [txt_cps]
      intro c hc
      have : c ∈ [97, 98, 99, 100] := hj.mem_iff.mp (hsub.subset hc)
      exact this
end Mi
namespace Mi
open PySem PySem.Spec PyProof.Rows L2
/-! ### folk drawn -/
def gm : Str := "ABCDEFGHIJKLMNOPQRSTUVWXYZ"
def fg : Str := "0123456789"
def okNam (s : Str) : Prop := 1 ≤ s.length ∧ s.length ≤ 8 ∧ ∀ c ∈ s.cps.toList, c ∈ gm.cps.toList
def okFk (s : Str) : Prop := okNam s ∨ ∃ c ∈ fg.cps.toList, s = one c
theorem gm_len : gm.cps.toList.length = 26 := by decide +kernel
end Mi
namespace Mi
open PySem PySem.Spec PyProof.Rows L2
/-! ### folk judged -/
theorem allD_bls {α : Type} {b : Bool} (p : α → Bool) : ∀ (l : List α), allD [.lst b (l.map fun x => .bl (p x))] = some (.bl (l.all p)) := by
  intro l
  have : blsOf (l.map fun x => .bl (p x)) = some (l.map p) := by
    induction l with
    | nil => rfl
    | cons x l ih => rw [List.map_cons, blsOf, ih]; rfl
  simp only [allD, this, Option.map_some, List.all_map]
  congr 2
def ofB (s t : Str) : Bool := decide (1 ≤ s.length) && decide (s.length ≤ 8) && s.cps.toList.all fun c => decide (c ∈ t.cps.toList)
theorem s_is_ofB {s t : Str} (hl : s.length ≤ 1000) : g_is_of [.str s, .str t] = .ok (.bl (ofB s t), [some (.str s), some (.str t)]) := by
  have hL := lenD_s hl
  by_cases h1 : 1 ≤ s.length
  · have l1 : (1 : Int) ≤ s.length := by omega
    by_cases h2 : s.length ≤ 8
    · have l2 : (s.length : Int) ≤ 8 := by omega
      have hlc := lc_pure (k := 2) (elt := mBin inD (mVarA 2) (mVarA 1)) (fun d => match d with | .str s => .bl (s.cps.toList.all fun c => decide (c ∈ t.cps.toList)) | _ => .non) (e := [some (.str s), some (.str t), none]) (ds := chs s) (fz_chs s) (by rw [len_chs]; omega) (fun d hd => by
        obtain ⟨c, hc, rfl⟩ := List.mem_map.mp hd
        simp [inD_one]
        simp [one])
      have e2 : ((chs s).map fun d => frzQ ((fun d => match d with | .str s => D.bl (s.cps.toList.all fun c => decide (c ∈ t.cps.toList)) | _ => .non) d)) = s.cps.toList.map fun c => D.bl (decide (c ∈ t.cps.toList)) := by
        rw [chs, List.map_map]
        refine List.map_congr_left fun c _ => ?_
        simp [one]
      rw [e2] at hlc
      have hall := allD_bls (b := false) (fun c => decide (c ∈ t.cps.toList)) s.cps.toList
      have hfl : fzL (s.cps.toList.map fun c => D.bl (decide (c ∈ t.cps.toList))) = true := fzL_map _ (fun _ => by simp) _
      have hb : ofB s t = s.cps.toList.all fun c => decide (c ∈ t.cps.toList) := by simp [ofB, h1, h2]
      rw [hb]
      generalize (s.cps.toList.map fun c => D.bl (decide (c ∈ t.cps.toList))) = X at hlc hall hfl
      generalize (s.cps.toList.all fun c => decide (c ∈ t.cps.toList)) = Y at hall
      simp (implicitDefEqProofs := false) [g_is_of, m_is_of, runD, ownOk, outsD, List.range, List.range.loop, isK, hL, l1, l2, sqV_ok (seqI_str s), hlc, restV, frz_lstt hfl, hall]
    · have l2 : ¬ (s.length : Int) ≤ 8 := by omega
      have hb : ofB s t = false := by simp [ofB, h2]
      rw [hb]
      simp (implicitDefEqProofs := false) [g_is_of, m_is_of, runD, ownOk, outsD, List.range, List.range.loop, isK, hL, l1, l2]
  · have l1 : ¬ (1 : Int) ≤ s.length := by omega
    have hb : ofB s t = false := by simp [ofB, h1]
    rw [hb]
    simp (implicitDefEqProofs := false) [g_is_of, m_is_of, runD, ownOk, outsD, List.range, List.range.loop, isK, hL, l1]
end Mi
namespace Mi
open PySem PySem.Spec PyProof.Rows L2
/-! ### instances -/
end Mi
namespace Mi
open PySem PySem.Spec PyProof.Rows L2
/-! ### the due list; what is told -/
theorem frz_any {o : Bool} {l : List D} (h : fzL l = true) : frzQ (.lst o l) = .lst false l := by
  cases o with
  | true => exact frz_lstt h
  | false => exact frzQ_fz (by simp [h])
/-! told -/
end Mi
namespace Mi
open PySem PySem.Spec PyProof.Rows L2
theorem strOk_fk {s : Str} (h : okFk s) : PyData.strOk s = true := by
  have h1 : ∀ c ∈ gm.cps.toList, c < 0x110000 := by decide +kernel
  have h2 : ∀ c ∈ fg.cps.toList, c < 0x110000 := by decide +kernel
  unfold PyData.strOk
  rw [← Array.all_toList, List.all_eq_true]
  rcases h with ⟨_, _, h3⟩ | ⟨c, hc, rfl⟩
  · exact fun c hc => by simpa using h1 c (h3 c hc)
  · intro x hx
    have : x = c := by simpa [one] using hx
    subst this
    simpa using h2 _ hc
end Mi
namespace Mi
open PySem PySem.Spec PyProof.Rows L2
/-! ### parties without numbers; the forms -/
theorem s_is_name {s : Str} (h : okNam s) : g_is_name [.str s] = .ok (.bl true, [some (.str s)]) := by
  have h1 := s_is_ofB (s := s) (t := gm) (by have := h.2.1; omega)
  have h2 : ofB s gm = true := by
    simp only [ofB, h.1, h.2.1, decide_true, Bool.true_and, List.all_eq_true, decide_eq_true_eq]
    exact h.2.2
  rw [h2] at h1
  simp only [gm] at h1
  simp (implicitDefEqProofs := false) [g_is_name, m_is_name, runD, ownOk, outsD, List.range, List.range.loop, ownVars, putBack, h1]
theorem eqD_strs {a b : Bool} {l : List Str} (h : ∀ s ∈ l, PyData.strOk s = true) : eqD (.lst a (l.map .str)) (.lst b (l.map .str)) = some (.bl true) := by
  have h1 := okPL_strs l 63 h
  simp [eqD, eqQ, scalD, okP, h1, eqB, toP, PyData.eqv, eqv_strs]
theorem listY_t {l : List D} (h : fzL l = true) : listY [.tup l] = some (.lst true l) := by
  show (if fzL l = true then _ else _) = _
  rw [if_pos h]
theorem s_are_names {K : List Str} (h : ∀ s ∈ K, okNam s) (h3 : K.length ≤ 3) (nd : K.Nodup) (hs : sortS K = K) : g_are_names [.tup (K.map .str)] = .ok (.bl true, [some (.tup (K.map .str))]) := by
  have zK := fzL_strs K
  have z : fz (.tup (K.map D.str)) = true := by rw [fz, zK]
  have hsq : seqI [.tup (K.map D.str)] = some (K.map .str) := by simp only [seqI, zK, if_true]
  have hln : lenD [.tup (K.map D.str)] = some (.int K.length) := by simp
  have hu := s_are_unlike z hsq (by omega) hln nd
  have e1 := lc_pure (k := 1) (elt := mCall g_is_name (mArgs [mVarA 1])) (fun _ => .bl true) (e := [some (.tup (K.map .str)), none]) (ds := K.map .str) zK (by rw [List.length_map]; omega) (fun x hx => by
    obtain ⟨s, hs, rfl⟩ := List.mem_map.mp hx
    have := s_is_name (h s hs)
    simp [ownVars, putBack, this])
  have e2 : ((K.map D.str).map fun d => frzQ ((fun _ => D.bl true) d)) = (K.map D.str).map fun _ => .bl true := List.map_congr_left fun x _ => by simp
  rw [e2] at e1
  have ha : allD [.lst false ((K.map D.str).map fun _ => D.bl true)] = some (.bl true) := allD_true fun d hd => by
    obtain ⟨_, _, rfl⟩ := List.mem_map.mp hd; rfl
  have hfl : fzL ((K.map D.str).map fun _ => D.bl true) = true := fzL_map _ (fun _ => by simp) _
  have hk : isK .tTup (.tup (K.map D.str)) = some true := rfl
  have hq : frzQ (.tup (K.map D.str)) = .tup (K.map .str) := frzQ_fz z
  have hly := listY_t zK
  have hst : sortX [.tup (K.map .str)] = some (.lst true (K.map .str)) := by
    simp only [sortX, strsOf_map]
    rw [if_pos (by omega), hs]
  have hf := frz_lstt zK
  have heq : eqD (.lst false (K.map .str)) (.lst false (K.map .str)) = some (.bl true) := eqD_strs fun s hs => strOk_fk (.inl (h s hs))
  have hgt : ¬ (3 : Int) < K.length := by omega
  generalize (K.length : Int) = n at hln hgt
  generalize ((K.map D.str).map fun _ => D.bl true) = X at e1 ha hfl
  generalize K.map D.str = Y at *
  simp (implicitDefEqProofs := false) [g_are_names, m_are_names, runD, ownOk, outsD, List.range, List.range.loop, ownVars, putBack, zK, hk, hln, hgt, hq, sqV_ok hsq, e1, restV, frz_lstt hfl, ha, hly, hst, hf, heq, hu]
def ptD (o : Bool) (b : Bk) (K : List Str) : D := .ins o "Party" ["book", "names", "kept"] [bkD false b, .tup (K.map .str), .dic false [] []]
theorem fz_bkF (b : Bk) : fz (bkD false b) = true := by
  have h1 := fz_tabs b.ts
  have h2 := fz_dmds b.ds
  simp [bkD, fz, fzL, tabsD, h1, h2]
theorem s_are_numbers {x y : D} (hx : fz x = true) (hy : fz y = true) : g_are_numbers [x, y, .dic false [] []] = .ok (.bl true, [some x, some y, some (.dic false [] [])]) := by
  have hk : isK .tDic (.dic false [] []) = some true := rfl
  have ha : allD [.lst false []] = some (.bl true) := rfl
  have hf : frzQ (.lst true []) = .lst false [] := frz_lstt rfl
  simp (implicitDefEqProofs := false) [g_are_numbers, m_are_numbers, runD, ownOk, outsD, List.range, List.range.loop, hx, hy, hk, ha, hf]
theorem s_Party {b : Bk} {K : List Str} (h : ∀ s ∈ K, okNam s) (h3 : K.length ≤ 3) (nd : K.Nodup) (hs : sortS K = K) : g_Party__init [.ins true "Party" [] [], bkD false b, .tup (K.map .str), .dic false [] []] = .ok (.non, [some (ptD true b K), some (bkD false b), some (.tup (K.map .str)), some (.dic false [] [])]) := by
  have zb := fz_bkF b
  have zK := fzL_strs K
  have z : fz (.tup (K.map D.str)) = true := by rw [fz, zK]
  have hn := s_are_names h h3 nd hs
  have hu := s_are_numbers zb z
  have hqb : frzQ (bkD false b) = bkD false b := frzQ_fz zb
  have hq : frzQ (.tup (K.map D.str)) = .tup (K.map .str) := frzQ_fz z
  have hc : copyD (.dic false [] []) = some (.dic true [] []) := rfl
  have hqd : frzQ (.dic true [] []) = .dic false [] [] := by simp [frzQ, frz, frzL]
  have hqe : frzQ (.dic false [] []) = .dic false [] [] := frzQ_fz (by simp)
  have n1 : fz (.ins true "Party" [] []) = false := by rw [fz]; rfl
  have n2 : ¬ ("book" : Str) = "names" := by decide
  have n3 : ¬ ("book" : Str) = "kept" := by decide
  have n4 : ¬ ("names" : Str) = "kept" := by decide
  unfold ptD
  generalize hB : bkD false b = B at *
  generalize K.map D.str = Y at *
  simp (implicitDefEqProofs := false) [g_Party__init, m_Party__init, runD, ownOk, outsD, List.range, List.range.loop, ownVars, putBack, zb, z, zK, hn, hu, hqb, hq, hc, hqd, hqe, n1, cs_book, cs_names, cs_kept, fsetG, putW, n2, n3, n4]
end Mi
namespace Mi
open PySem PySem.Spec PyProof.Rows L2
/-! ### demands drawn -/
structure kD (l : List (Str × Int)) (x : Dmd) : Prop where
  ok : okDmd l x
  f : ∀ t ∈ x.ts, t.f ∈ fls
  k : x.k ∈ rls
def dmE : EM FlowD := (mSeq (mAsg 4 (mLc (mIt (mArgs [mFrz (mBin addD (mFrz (mC (.int 1))) (mFrz (mCall g__law_pick (mArgs [mVarA 0, mFrz (mC (.int 3))]))))]) rng1) (.nm 5) (mYes) (mCall g__law_term (mArgs [mVarA 0, mVarA 1])) [5]))
  (mDrop (mMet 2 (mArgs [mFrz (mTup (mArgs [mFrz (mCB tupleD (mArgs [mVarA 4])), mFrz (mBin ixD (mFrz (mLst (mArgs [mFrz (mC (.int 0)), mFrz (mC (.int 1)), mFrz (mUn negD (mFrz (mC (.int 1)))), mFrz (mC (.int 999)), mFrz (mUn negD (mFrz (mC (.int 999))))]))) (mFrz (mCall g__law_pick (mArgs [mVarA 0, mFrz (mC (.int 5))]))))]))]) appF)))
theorem appD {A : List D} {d : D} (z : fzL A = true) (zd : fz d = true) (h : A.length ≤ 1000) : appF A [d] = some (.non, A ++ [d]) := by
  simp only [appF]
  rw [if_pos ⟨z, zd, by omega⟩]
theorem dm_turn {l : List (Str × Int)} (h : okTabs l) (cells : List Int) (a b c : Int) {A : List D} (zA : fzL A = true) (hA : A.length ≤ 1000) (p4 p3 : Option D) : ∃ (x : Dmd) (a' b' c' : Int) (y : Option D), dmE [some (dk cells a b c), some (tabsD l), some (.lst true A), p3, p4, none] = .ok (.next, [some (dk cells a' b' c'), some (tabsD l), some (.lst true (A ++ [dmdD x])), p3, y, none]) ∧ kD l x := by
  obtain ⟨r, a1, b1, c1, h1, h2, h3⟩ := s_law_pick cells a b c (m := 3) (by decide) (by decide)
  have hz : fzL (rngD 0 (1 + r).toNat) = true := fzL_map _ (fun _ => by simp) _
  have hr : rng1 [.int (1 + r)] = some (rngD 0 (1 + r).toNat) := by
    show (if _ then _ else _) = _
    rw [if_pos (by omega)]
  have hlen : (rngD 0 (1 + r).toNat).length = (1 + r).toNat := by simp [rngD]
  have zt : fz (tabsD l) = true := by simp [tabsD, fz_tabs]
  obtain ⟨ts, a2, b2, c2, y, k1, k2, k3⟩ := draw (k := 5) (elt := mCall g__law_term (mArgs [mVarA 0, mVarA 1])) (fun a b c x => [some (dk cells a b c), some (tabsD l), some (.lst true A), p3, p4, x]) trmD (fun t => okTrm l t ∧ t.f ∈ fls) (fun _ _ _ _ _ => rfl) fz_trm (fun a b c d => by
    obtain ⟨x, a', b', c', h1, h2⟩ := s_law_term h cells a b c
    exact ⟨x, a', b', c', by simp [ownVars, putBack, zt, h1], h2⟩) (rngD 0 (1 + r).toNat) [] a1 b1 c1 none
  rw [hlen] at k2
  obtain ⟨g, a3, b3, c3, m1, m2, m3⟩ := s_law_pick cells a2 b2 c2 (m := 5) (by decide) (by decide)
  obtain ⟨w, hw, hwi⟩ := pick_l (l := rls) m2 m3 false
  have hw9 : -999 ≤ w ∧ w ≤ 999 := by
    have : ∀ w ∈ rls, -999 ≤ w ∧ w ≤ 999 := by decide
    exact this w hw
  have hft := fz_trms ts
  have zx := fz_dmd ⟨ts, w⟩
  have hq1 : frzQ (.tup (ts.map trmD)) = .tup (ts.map trmD) := frzQ_fz (by simp [hft])
  have hq2 : frzQ (.tup [.tup (ts.map trmD), .int w]) = dmdD ⟨ts, w⟩ := frzQ_fz zx
  have hap := appD zA zx hA
  have hfl : frzQ (.lst true [.int 0, .int 1, .int (-1), .int 999, .int (-999)]) = .lst false (rls.map .int) := frz_lstt rfl
  have htp := tupleD_l (o := true) hft
  have hkl : (rngD 0 (1 + r).toNat).length ≤ 1000 := by rw [hlen]; omega
  refine ⟨⟨ts, w⟩, a3, b3, c3, some (.lst true (ts.map trmD)), ?_, ⟨⟨by show 1 ≤ ts.length; omega, by show ts.length ≤ 8; omega, fun t ht => (k3 t ht).1, hw9.1, hw9.2⟩, fun t ht => (k3 t ht).2, hw⟩⟩
  generalize dmdD ⟨ts, w⟩ = DX at *
  generalize ts.map trmD = TS at *
  generalize rngD 0 (1 + r).toNat = RR at *
  simp (implicitDefEqProofs := false) [dmE, ownVars, putBack, h1, rV_ok hr, kLc_ok hz hkl, k1, restE, restV, hft, htp, hq1, m1, hfl, hwi, hq2, hap]
theorem dm_loop {l : List (Str × Int)} (h : okTabs l) (cells : List Int) : ∀ (ds : List D) (xs : List Dmd) (a b c : Int) (p3 p4 : Option D), xs.length + ds.length ≤ 1000 → (∀ x ∈ xs, kD l x) → ∃ (xs' : List Dmd) (a' b' c' : Int) (y3 y4 : Option D), loopF (.nm 3) dmE ds [some (dk cells a b c), some (tabsD l), some (.lst true (xs.map dmdD)), p3, p4, none] = .ok (.next, [some (dk cells a' b' c'), some (tabsD l), some (.lst true (xs'.map dmdD)), y3, y4, none]) ∧ (∀ x ∈ xs', kD l x) ∧ xs'.length = xs.length + ds.length
  | [], xs, a, b, c, p3, p4, _, hx => ⟨xs, a, b, c, p3, p4, by simp [e_lp0], hx, by simp⟩
  | d :: ds, xs, a, b, c, p3, p4, hl, hx => by
    simp only [List.length_cons] at hl
    obtain ⟨x, a1, b1, c1, y, k1, k2⟩ := dm_turn h cells a b c (fz_dmds xs) (by rw [List.length_map]; omega) p4 (some d)
    obtain ⟨xs', a2, b2, c2, y3, y4, j1, j2, j3⟩ := dm_loop h cells ds (xs ++ [x]) a1 b1 c1 (some d) y (by rw [List.length_append]; simp; omega) (fun z hz => by
      rcases List.mem_append.mp hz with hz | hz
      · exact hx z hz
      · rw [List.mem_singleton] at hz; subst hz; exact k2)
    refine ⟨xs', a2, b2, c2, y3, y4, ?_, j2, by rw [j3, List.length_append]; simp; omega⟩
    rw [e_lp]
    simp only [lpV, tg_nm, List.set_cons_succ, List.set_cons_zero]
    rw [k1]
    simp only [bind_ok, kLp]
    rw [List.map_append] at j1
    exact j1
theorem s_law_demands {l : List (Str × Int)} (h : okTabs l) (cells : List Int) (a b c : Int) : ∃ (xs : List Dmd) (a' b' c' : Int), g__law_demands [dk cells a b c, tabsD l] = .ok (.tup (xs.map dmdD), [some (dk cells a' b' c'), some (tabsD l)]) ∧ (∀ x ∈ xs, kD l x) ∧ xs.length ≤ 3 := by
  obtain ⟨r, a1, b1, c1, h1, h2, h3⟩ := s_law_pick cells a b c (m := 4) (by decide) (by decide)
  have hz : fzL (rngD 0 r.toNat) = true := fzL_map _ (fun _ => by simp) _
  have hr : rng1 [.int r] = some (rngD 0 r.toNat) := by
    show (if _ then _ else _) = _
    rw [if_pos (by omega)]
  have hlen : (rngD 0 r.toNat).length = r.toNat := by simp [rngD]
  obtain ⟨xs, a2, b2, c2, y3, y4, j1, j2, j3⟩ := dm_loop h cells (rngD 0 r.toNat) [] a1 b1 c1 none none (by rw [hlen]; simp; omega) (by simp)
  rw [hlen] at j3
  rw [List.map_nil] at j1
  have zt : fz (tabsD l) = true := by simp [tabsD, fz_tabs]
  have zx := fz_dmds xs
  have htp := tupleD_l (o := true) zx
  have hkf := kFor_ok (t := .nm 3) (ms := dmE) (e := [some (dk cells a1 b1 c1), some (tabsD l), some (.lst true []), none, none, none]) hz
  rw [j1] at hkf
  simp (implicitDefEqProofs := false) only [dmE] at hkf
  refine ⟨xs, a2, b2, c2, ?_, j2, by simp at j3; omega⟩
  have hmm : ∃ e, m__law_demands [some (dk cells a b c), some (tabsD l), none, none, none, none] = .ok (.ret (.tup (xs.map dmdD)), some (dk cells a2 b2 c2) :: some (tabsD l) :: e) := by
    refine ⟨[some (.lst true (xs.map dmdD)), y3, y4, none], ?_⟩
    generalize xs.map dmdD = XX at *
    generalize rngD 0 r.toNat = RR at *
    simp (implicitDefEqProofs := false) [m__law_demands, ownVars, putBack, h1, rV_ok hr, hkf, zx, htp, zt]
  obtain ⟨e, hmm⟩ := hmm
  simp (implicitDefEqProofs := false) [g__law_demands, runD, ownOk, outsD, List.range, List.range.loop, zt, hmm]
end Mi
namespace Mi
open PySem PySem.Spec PyProof.Rows L2
/-! ### changed demands -/
def put1 {α : Type} (l : List α) (k : Int) (x : α) : List α := cutD l none (some k) ++ [x] ++ cutD l (some (k + 1)) none
theorem cut_mem {α : Type} {l : List α} {a b : Option Int} {x : α} (h : x ∈ cutD l a b) : x ∈ l := List.mem_of_mem_drop (List.mem_of_mem_take h)
theorem cut_le {α : Type} (l : List α) (a b : Option Int) : (cutD l a b).length ≤ l.length := by
  unfold cutD; rw [List.length_take, List.length_drop]; omega
theorem put1_mem {α : Type} {l : List α} {k : Int} {x y : α} (h : y ∈ put1 l k x) : y = x ∨ y ∈ l := by
  unfold put1 at h
  rcases List.mem_append.mp h with h | h
  · rcases List.mem_append.mp h with h | h
    · exact .inr (cut_mem h)
    · exact .inl (List.mem_singleton.mp h)
  · exact .inr (cut_mem h)
theorem put1_len {α : Type} {l : List α} {k : Int} (x : α) (h0 : 0 ≤ k) (h : k < l.length) : (put1 l k x).length = l.length := by
  have e1 : (cutD l none (some k)).length = k.toNat := by
    unfold cutD
    have a1 : HT.sIx l.length l.length (some k) = min k.toNat l.length := by show (if k < 0 then _ else _) = _; rw [if_neg (by omega)]
    have a2 : HT.sIx l.length 0 none = 0 := rfl
    rw [a1, a2, List.length_take, List.length_drop]; omega
  have e2 : (cutD l (some (k + 1)) none).length = l.length - (k + 1).toNat := by
    unfold cutD
    have a1 : HT.sIx l.length 0 (some (k + 1)) = min (k + 1).toNat l.length := by show (if k + 1 < 0 then _ else _) = _; rw [if_neg (by omega)]
    have a2 : HT.sIx l.length l.length none = l.length := rfl
    rw [a1, a2, List.length_take, List.length_drop]; omega
  unfold put1
  rw [List.length_append, List.length_append, e1, e2, List.length_singleton]
  omega
theorem add_tt {l m : List D} (zl : fzL l = true) (zm : fzL m = true) (h : l.length + m.length ≤ 10000) : addD (.tup l) (.tup m) = some (.tup (l ++ m)) := by
  have : l.length + m.length ≤ 16777216 := by omega
  simp [addD, zl, zm, szl, this]
theorem sl_t {l : List D} (z : fzL l = true) (a b : Option Int) : slD (.tup l) a b = some (.tup (cutD l a b)) := by simp [slD, z]
theorem fz_cut {l : List D} (z : fzL l = true) (a b : Option Int) : fzL (cutD l a b) = true := fzL_all fun x h => fzL_mem z x (cut_mem h)
theorem fdiv2 (x : Int) : fdivD (.int x) (.int 2) = some (.int (x / 2)) := fdivD_i (by decide) (by decide)
/- the three steps t[:k] + (x,) + t[k + 1:] -/
theorem put1_D {α : Type} (f : α → D) (zf : ∀ x, fz (f x) = true) {l : List α} (hl : l.length ≤ 1000) (k : Int) (x : α) : ∃ A B : List D, slD (.tup (l.map f)) none (some k) = some (.tup A) ∧ slD (.tup (l.map f)) (some (k + 1)) none = some (.tup B) ∧ fzL A = true ∧ fzL B = true ∧ addD (.tup A) (.tup [f x]) = some (.tup (A ++ [f x])) ∧ addD (.tup (A ++ [f x])) (.tup B) = some (.tup ((put1 l k x).map f)) ∧ fzL (A ++ [f x]) = true := by
  have z := fzL_map f zf l
  have z1 := fz_cut z none (some k)
  have z2 := fz_cut z (some (k + 1)) none
  have l1 := cut_le (l.map f) none (some k)
  have l2 := cut_le (l.map f) (some (k + 1)) none
  rw [List.length_map] at l1 l2
  have z3 : fzL (cutD (l.map f) none (some k) ++ [f x]) = true := by rw [fzL_append, z1]; simp [zf]
  refine ⟨_, _, sl_t z _ _, sl_t z _ _, z1, z2, add_tt z1 (by simp [zf]) (by simp; omega), ?_, z3⟩
  rw [add_tt z3 z2 (by rw [List.length_append]; simp; omega)]
  congr 2
  rw [put1, List.map_append, List.map_append, ← map_cut, ← map_cut]
  rfl
theorem trm_ok {l : List (Str × Int)} {t : Trm} (h : okTrm l t) (hf : t.f ∈ fls) : okTrm l ⟨t.f / 2 + 3, t.s, t.n, t.t⟩ := by
  have key : ∀ w ∈ fls, -99 ≤ w / 2 + 3 ∧ w / 2 + 3 ≤ 99 ∧ w / 2 + 3 ≠ 0 := by decide
  obtain ⟨a, b, c⟩ := key _ hf
  exact ⟨a, b, c, h.kn, h.ln, h.l4, h.nd, h.ab⟩
theorem s_other_factor {l : List (Str × Int)} {xs : List Dmd} (h : ∀ x ∈ xs, kD l x) (h1 : 1 ≤ xs.length) (h3 : xs.length ≤ 3) (cells : List Int) (a b c : Int) : ∃ (xs' : List Dmd) (a' b' c' : Int), g__law_other_factor [dk cells a b c, .tup (xs.map dmdD)] = .ok (.tup (xs'.map dmdD), [some (dk cells a' b' c'), some (.tup (xs.map dmdD))]) ∧ (∀ x ∈ xs', okDmd l x) ∧ xs'.length = xs.length := by
  obtain ⟨r, a1, b1, c1, k1, k2, k3⟩ := s_law_pick cells a b c (m := (xs.length : Int)) (by omega) (Nat.lt_of_le_of_lt (Nat.log2_le_self _) (by omega))
  have hr : r.toNat < xs.length := by omega
  have hx := ix_tup (fz_dmds xs) (i := r.toNat) (by rw [List.length_map]; exact hr)
  rw [List.getElem_map, show ((r.toNat : Nat) : Int) = r by omega] at hx
  have hm : xs[r.toNat] ∈ xs := List.getElem_mem hr
  generalize xs[r.toNat] = x at hx hm
  have hk := h x hm
  have t1 := hk.ok.n1
  have t8 := hk.ok.n8
  obtain ⟨q, a2, b2, c2, j1, j2, j3⟩ := s_law_pick cells a1 b1 c1 (m := (x.ts.length : Int)) (by omega) (Nat.lt_of_le_of_lt (Nat.log2_le_self _) (by omega))
  have hq : q.toNat < x.ts.length := by omega
  have hy := ix_tup (fz_trms x.ts) (i := q.toNat) (by rw [List.length_map]; exact hq)
  rw [List.getElem_map, show ((q.toNat : Nat) : Int) = q by omega] at hy
  have hn : x.ts[q.toNat] ∈ x.ts := List.getElem_mem hq
  generalize x.ts[q.toNat] = t at hy hn
  obtain ⟨A, B, p1, p2, p3, p4, p5, p6, p7⟩ := put1_D trmD fz_trm (l := x.ts) (by omega) q ⟨t.f / 2 + 3, t.s, t.n, t.t⟩
  obtain ⟨A2, B2, q1, q2, q3, q4, q5, q6, q7⟩ := put1_D dmdD fz_dmd (l := xs) (by omega) r ⟨put1 x.ts q ⟨t.f / 2 + 3, t.s, t.n, t.t⟩, x.k⟩
  refine ⟨put1 xs r ⟨put1 x.ts q ⟨t.f / 2 + 3, t.s, t.n, t.t⟩, x.k⟩, a2, b2, c2, ?_, fun z hz => ?_, put1_len _ k2 (by omega)⟩
  · have zx := fz_dmds xs
    have hln : lenD [.tup (xs.map dmdD)] = some (.int xs.length) := by simp
    have hln2 : lenD [.tup (x.ts.map trmD)] = some (.int x.ts.length) := by simp
    have zts := fz_trms x.ts
    have zdx := fz_dmd x
    have zp := fz_trms (put1 x.ts q ⟨t.f / 2 + 3, t.s, t.n, t.t⟩)
    have zq := fz_dmds (put1 xs r ⟨put1 x.ts q ⟨t.f / 2 + 3, t.s, t.n, t.t⟩, x.k⟩)
    have tg1 : ∀ (e0 e1 e2 e3 e4 e5 e6 e7 e8 e9 : Option D), mTg (.tp [(.nm 3), (.nm 4)]) (dmdD x) [e0, e1, e2, e3, e4, e5, e6, e7, e8, e9] = some [e0, e1, e2, some (.tup (x.ts.map trmD)), some (.int x.k), e5, e6, e7, e8, e9] := fun e0 e1 e2 e3 e4 e5 e6 e7 e8 e9 => by simp [dmdD, mTg, mTgs, zts]
    have tg2 : ∀ (e0 e1 e2 e3 e4 e5 e6 e7 e8 e9 : Option D), mTg (.tp [(.nm 6), (.nm 7), (.nm 8)]) (trmD t) [e0, e1, e2, e3, e4, e5, e6, e7, e8, e9] = some [e0, e1, e2, e3, e4, e5, some (.int t.f), some (.str t.s), some (.str t.t), e9] := fun e0 e1 e2 e3 e4 e5 e6 e7 e8 e9 => by simp [trmD, mTg, mTgs]
    have hd := fdiv2 t.f
    have f1 : frzQ (.tup [.tup [.int (t.f / 2 + 3), .str t.s, .str t.t]]) = .tup [trmD ⟨t.f / 2 + 3, t.s, t.n, t.t⟩] := frzQ_fz (by simp [fz_trm])
    have f2 : frzQ (.tup [.int (t.f / 2 + 3), .str t.s, .str t.t]) = .tup [.int (t.f / 2 + 3), .str t.s, .str t.t] := frzQ_fz (by simp)
    have f3 : frzQ (.tup A) = .tup A := frzQ_fz (by rw [fz, p3])
    have f4 : frzQ (.tup B) = .tup B := frzQ_fz (by rw [fz, p4])
    have f5 : frzQ (.tup (A ++ [trmD ⟨t.f / 2 + 3, t.s, t.n, t.t⟩])) = .tup (A ++ [trmD ⟨t.f / 2 + 3, t.s, t.n, t.t⟩]) := frzQ_fz (by rw [fz, p7])
    have f6 : frzQ (.tup A2) = .tup A2 := frzQ_fz (by rw [fz, q3])
    have f7 : frzQ (.tup B2) = .tup B2 := frzQ_fz (by rw [fz, q4])
    have f8 : frzQ (.tup (A2 ++ [dmdD ⟨put1 x.ts q ⟨t.f / 2 + 3, t.s, t.n, t.t⟩, x.k⟩])) = .tup (A2 ++ [dmdD ⟨put1 x.ts q ⟨t.f / 2 + 3, t.s, t.n, t.t⟩, x.k⟩]) := frzQ_fz (by rw [fz, q7])
    have f9 : frzQ (.tup ((put1 x.ts q ⟨t.f / 2 + 3, t.s, t.n, t.t⟩).map trmD)) = .tup ((put1 x.ts q ⟨t.f / 2 + 3, t.s, t.n, t.t⟩).map trmD) := frzQ_fz (by rw [fz, zp])
    have f10 : frzQ (.tup [.tup ((put1 x.ts q ⟨t.f / 2 + 3, t.s, t.n, t.t⟩).map trmD), .int x.k]) = .tup [.tup ((put1 x.ts q ⟨t.f / 2 + 3, t.s, t.n, t.t⟩).map trmD), .int x.k] := frzQ_fz (by simp [zp])
    have f11 : frzQ (.tup [.tup [.tup ((put1 x.ts q ⟨t.f / 2 + 3, t.s, t.n, t.t⟩).map trmD), .int x.k]]) = .tup [dmdD ⟨put1 x.ts q ⟨t.f / 2 + 3, t.s, t.n, t.t⟩, x.k⟩] := frzQ_fz (by simp [zp])
    have g1 : frzQ (dmdD x) = dmdD x := frzQ_fz (fz_dmd x)
    have g2 : frzQ (trmD t) = trmD t := frzQ_fz (fz_trm t)
    generalize dmdD ⟨put1 x.ts q ⟨t.f / 2 + 3, t.s, t.n, t.t⟩, x.k⟩ = DX at *
    generalize trmD ⟨t.f / 2 + 3, t.s, t.n, t.t⟩ = TX at *
    generalize (put1 xs r ⟨put1 x.ts q ⟨t.f / 2 + 3, t.s, t.n, t.t⟩, x.k⟩).map dmdD = RX at *
    generalize (put1 x.ts q ⟨t.f / 2 + 3, t.s, t.n, t.t⟩).map trmD = PX at *
    generalize dmdD x = Dx at *
    generalize trmD t = Tt at *
    generalize (xs.length : Int) = n1 at *
    generalize (x.ts.length : Int) = n2 at *
    generalize A ++ [TX] = A3 at *
    generalize A2 ++ [DX] = A4 at *
    generalize xs.map dmdD = XX at *
    generalize x.ts.map trmD = TT at *
    simp (implicitDefEqProofs := false) [g__law_other_factor, m__law_other_factor, runD, ownOk, outsD, List.range, List.range.loop, ownVars, putBack, zx, zts, hln, k1, hx, tg1, hln2, j1, hy, tg2, hd, p1, p2, p5, p6, q1, q2, q5, q6, f1, f2, f3, f4, f5, f6, f7, f8, f9, f10, f11, zdx, fz_trm, g1, g2, zp, zq, -lenD_t]
  · rcases put1_mem hz with rfl | hz
    · refine ⟨by show 1 ≤ (put1 _ _ _).length; rw [put1_len _ j2 (by omega)]; exact t1, by show (put1 _ _ _).length ≤ 8; rw [put1_len _ j2 (by omega)]; exact t8, fun y hy => ?_, hk.ok.k1, hk.ok.k2⟩
      rcases put1_mem hy with rfl | hy
      · exact trm_ok (hk.ok.tr _ hn) (hk.f _ hn)
      · exact hk.ok.tr _ hy
    · exact (h z hz).ok
end Mi
namespace Mi
open PySem PySem.Spec PyProof.Rows L2
theorem s_other_right {l : List (Str × Int)} {xs : List Dmd} (h : ∀ x ∈ xs, kD l x) (h1 : 1 ≤ xs.length) (h3 : xs.length ≤ 3) (cells : List Int) (a b c : Int) : ∃ (xs' : List Dmd) (a' b' c' : Int), g__law_other_right [dk cells a b c, .tup (xs.map dmdD)] = .ok (.tup (xs'.map dmdD), [some (dk cells a' b' c'), some (.tup (xs.map dmdD))]) ∧ (∀ x ∈ xs', okDmd l x) ∧ xs'.length = xs.length := by
  obtain ⟨r, a1, b1, c1, k1, k2, k3⟩ := s_law_pick cells a b c (m := (xs.length : Int)) (by omega) (Nat.lt_of_le_of_lt (Nat.log2_le_self _) (by omega))
  have hr : r.toNat < xs.length := by omega
  have hx := ix_tup (fz_dmds xs) (i := r.toNat) (by rw [List.length_map]; exact hr)
  rw [List.getElem_map, show ((r.toNat : Nat) : Int) = r by omega] at hx
  have hm : xs[r.toNat] ∈ xs := List.getElem_mem hr
  generalize xs[r.toNat] = x at hx hm
  have hk := h x hm
  obtain ⟨A2, B2, q1, q2, q3, q4, q5, q6, q7⟩ := put1_D dmdD fz_dmd (l := xs) (by omega) r ⟨x.ts, x.k / 2 + 1⟩
  refine ⟨put1 xs r ⟨x.ts, x.k / 2 + 1⟩, a1, b1, c1, ?_, fun z hz => ?_, put1_len _ k2 (by omega)⟩
  · have zx := fz_dmds xs
    have hln : lenD [.tup (xs.map dmdD)] = some (.int xs.length) := by simp
    have zts := fz_trms x.ts
    have zdx := fz_dmd x
    have zq := fz_dmds (put1 xs r ⟨x.ts, x.k / 2 + 1⟩)
    have tg1 : ∀ (e0 e1 e2 e3 e4 : Option D), mTg (.tp [(.nm 3), (.nm 4)]) (dmdD x) [e0, e1, e2, e3, e4] = some [e0, e1, e2, some (.tup (x.ts.map trmD)), some (.int x.k)] := fun e0 e1 e2 e3 e4 => by simp [dmdD, mTg, mTgs, zts]
    have hd := fdiv2 x.k
    have f6 : frzQ (.tup A2) = .tup A2 := frzQ_fz (by rw [fz, q3])
    have f7 : frzQ (.tup B2) = .tup B2 := frzQ_fz (by rw [fz, q4])
    have f8 : frzQ (.tup (A2 ++ [dmdD ⟨x.ts, x.k / 2 + 1⟩])) = .tup (A2 ++ [dmdD ⟨x.ts, x.k / 2 + 1⟩]) := frzQ_fz (by rw [fz, q7])
    have f9 : frzQ (.tup (x.ts.map trmD)) = .tup (x.ts.map trmD) := frzQ_fz (by rw [fz, zts])
    have f10 : frzQ (.tup [.tup (x.ts.map trmD), .int (x.k / 2 + 1)]) = .tup [.tup (x.ts.map trmD), .int (x.k / 2 + 1)] := frzQ_fz (by simp [zts])
    have f11 : frzQ (.tup [.tup [.tup (x.ts.map trmD), .int (x.k / 2 + 1)]]) = .tup [dmdD ⟨x.ts, x.k / 2 + 1⟩] := frzQ_fz (by simp [zts])
    have g1 : frzQ (dmdD x) = dmdD x := frzQ_fz (fz_dmd x)
    generalize dmdD ⟨x.ts, x.k / 2 + 1⟩ = DX at *
    generalize (put1 xs r ⟨x.ts, x.k / 2 + 1⟩).map dmdD = RX at *
    generalize dmdD x = Dx at *
    generalize (xs.length : Int) = n1 at *
    generalize A2 ++ [DX] = A4 at *
    generalize xs.map dmdD = XX at *
    generalize x.ts.map trmD = TT at *
    simp (implicitDefEqProofs := false) [g__law_other_right, m__law_other_right, runD, ownOk, outsD, List.range, List.range.loop, ownVars, putBack, zx, zts, hln, k1, hx, tg1, hd, q1, q2, q5, q6, f6, f7, f8, f9, f10, f11, zdx, g1, zq, -lenD_t]
  · rcases put1_mem hz with rfl | hz
    · exact ⟨hk.ok.n1, hk.ok.n8, hk.ok.tr, by have := hk.ok.k1; show _ ≤ x.k / 2 + 1; omega, by have := hk.ok.k2; show x.k / 2 + 1 ≤ _; omega⟩
    · exact (h z hz).ok
/-! the list of other books' parts -/
def parD (b : Bk) : D := .tup [.int b.w, tabsD b.ts, .tup (b.ds.map dmdD)]
theorem fz_par (b : Bk) : fz (parD b) = true := by
  have h1 := fz_tabs b.ts
  have h2 := fz_dmds b.ds
  simp [parD, tabsD, h1, h2]
theorem fz_pars (l : List Bk) : fzL (l.map parD) = true := fzL_map _ fz_par l
theorem okDmd_more {l m : List (Str × Int)} {x : Dmd} (h : okDmd l x) : okDmd (l ++ m) x :=
  ⟨h.n1, h.n8, fun t ht => by
    have q := h.tr t ht
    exact ⟨q.f1, q.f2, q.f0, List.mem_append_left _ q.kn, q.ln, q.l4, q.nd, q.ab⟩, h.k1, h.k2⟩
theorem kT_more {l : List (Str × Int)} (h : kT l) {s : Str} {n : Int} (hs : okLab s) (hle : ∀ t ∈ kl8, leS t s = true ∧ t ≠ s) (h0 : 0 ≤ n) (h2 : n ≤ 2) : okTabs (l ++ [(s, n)]) := by
  have hlab : labs (l ++ [(s, n)]) = labs l ++ [s] := by simp [labs]
  refine ⟨by simp, by have := h.l2; simp; omega, fun p hp => ?_, ?_, ?_, ?_⟩
  · rcases List.mem_append.mp hp with hp | hp
    · exact h.ok.tab p hp
    · rw [List.mem_singleton] at hp; subst hp
      exact ⟨hs, h0, by show n ≤ 3; omega⟩
  · rw [hlab]
    refine List.mergeSort_of_pairwise ?_
    rw [List.pairwise_append]
    refine ⟨?_, by simp, fun a ha b hb => ?_⟩
    · have := sortS_pw (labs l)
      rw [h.ok.srt] at this
      exact this
    · rw [List.mem_singleton] at hb; subst hb
      obtain ⟨p, hp, rfl⟩ := List.mem_map.mp ha
      exact (hle _ (h.k8 p hp).1).1
  · rw [hlab, List.nodup_append]
    refine ⟨h.ok.nd, by simp, fun a ha b hb => ?_⟩
    rw [List.mem_singleton] at hb; subst hb
    obtain ⟨p, hp, rfl⟩ := List.mem_map.mp ha
    exact (hle _ (h.k8 p hp).1).2
  · have : ((l ++ [(s, n)]).filter fun p => decide (p.2 = 3)) = [] := by
      rw [List.filter_eq_nil_iff]
      intro p hp
      rcases List.mem_append.mp hp with hp | hp
      · have := (h.k8 p hp).2.2
        simp; omega
      · rw [List.mem_singleton] at hp; subst hp
        simp; omega
    rw [this]; simp
theorem z4_lab : okLab "zzzz" ∧ okLab "zzzzz" := by unfold okLab; decide +kernel
theorem s_law_others {b : Bk} (hb : okBk b) (ht : kT b.ts) (hd : ∀ x ∈ b.ds, kD b.ts x) (h3 : b.ds.length ≤ 3) (cells : List Int) (a0 b0 c0 : Int) : ∃ (bs : List Bk) (a' b' c' : Int), g__law_others [dk cells a0 b0 c0, parD b] = .ok (.lst true (bs.map parD), [some (dk cells a' b' c'), some (parD b)]) ∧ (∀ z ∈ bs, okBk z) ∧ bs.length ≤ 9 := by
  obtain ⟨w, l, xs⟩ := b
  simp only at ht hd h3
  obtain ⟨r, a1, b1, c1, k1, k2, k3⟩ := s_law_pick cells a0 b0 c0 (m := 3) (by decide) (by decide)
  have hl2 := ht.l2
  have hw0 := hb.w0
  have hw1 := hb.w1
  simp only at hw0 hw1
  have okd : ∀ x ∈ xs, okDmd l x := fun x hx => (hd x hx).ok
  have t4 := kT_more ht z4_lab.1 (fun t h => ⟨(kl8_le t h).1, (kl8_le t h).2.2.1⟩) k2 (by omega)
  have t5 := kT_more ht (n := 1) z4_lab.2 (fun t h => ⟨(kl8_le t h).2.1, (kl8_le t h).2.2.2⟩) (by decide) (by decide)
  have zt := fz_tabs l
  have ztt : fz (tabsD l) = true := by rw [tabsD, fz, zt]
  have zx := fz_dmds xs
  have ztx : fz (.tup (xs.map dmdD)) = true := by rw [fz, zx]
  have zb := fz_par ⟨w, l, xs⟩
  have hq : frzQ (parD ⟨w, l, xs⟩) = parD ⟨w, l, xs⟩ := frzQ_fz zb
  have qt : frzQ (tabsD l) = tabsD l := frzQ_fz ztt
  have qx : frzQ (.tup (xs.map dmdD)) = .tup (xs.map dmdD) := frzQ_fz ztx
  have fq : ∀ (b : Bk), frzQ (.tup [.int b.w, tabsD b.ts, .tup (b.ds.map dmdD)]) = parD b := fun b => frzQ_fz (fz_par b)
  have tg : ∀ (e0 e1 e2 e3 e4 e5 e6 : Option D), mTg (.tp [(.nm 2), (.nm 3), (.nm 4)]) (parD ⟨w, l, xs⟩) [e0, e1, e2, e3, e4, e5, e6] = some [e0, e1, some (.int w), some (tabsD l), some (.tup (xs.map dmdD)), e5, e6] := fun e0 e1 e2 e3 e4 e5 e6 => by simp [parD, mTg, mTgs, ztt, ztx, zx]
  have hmod : modD (.int (w + 1)) (.int 1001) = some (.int ((w + 1) % 1001)) := modD_i (by decide)
  have hint : intD [.int (w + 1)] = some (.int (w + 1)) := rfl
  have hrev : revT (.tup (xs.map dmdD)) = some (.tup (xs.reverse.map dmdD)) := by simp [revT, zx]
  have qrev : frzQ (.tup (xs.reverse.map dmdD)) = .tup (xs.reverse.map dmdD) := frzQ_fz (by rw [fz, fz_dmds])
  have hcut : slD (.tup (xs.map dmdD)) none (some (-1)) = some (.tup ((cutD xs none (some (-1))).map dmdD)) := by rw [sl_t zx, map_cut]
  have qcut : frzQ (.tup ((cutD xs none (some (-1))).map dmdD)) = .tup ((cutD xs none (some (-1))).map dmdD) := frzQ_fz (by rw [fz, fz_dmds])
  have ha4 : addD (tabsD l) (.tup [.tup [.str "zzzz", .int r]]) = some (tabsD (l ++ [(("zzzz" : Str), r)])) := by
    have := add_tt (l := l.map tabD) (m := [tabD (("zzzz" : Str), r)]) zt (by simp [fz_tab]) (by simp; omega)
    rw [tabsD, tabsD, List.map_append]
    exact this
  have ha5 : addD (tabsD l) (.tup [.tup [.str "zzzzz", .int 1]]) = some (tabsD (l ++ [(("zzzzz" : Str), (1 : Int))])) := by
    have := add_tt (l := l.map tabD) (m := [tabD (("zzzzz" : Str), (1 : Int))]) zt (by simp [fz_tab]) (by simp; omega)
    rw [tabsD, tabsD, List.map_append]
    exact this
  have q41 : frzQ (.tup [.str "zzzz", .int r]) = .tup [.str "zzzz", .int r] := frzQ_fz (by simp)
  have q42 : frzQ (.tup [.tup [.str "zzzz", .int r]]) = .tup [.tup [.str "zzzz", .int r]] := frzQ_fz (by simp)
  have q51 : frzQ (.tup [.str "zzzzz", .int 1]) = .tup [.str "zzzzz", .int 1] := frzQ_fz (by simp)
  have q52 : frzQ (.tup [.tup [.str "zzzzz", .int 1]]) = .tup [.tup [.str "zzzzz", .int 1]] := frzQ_fz (by simp)
  have qt4 : frzQ (tabsD (l ++ [(("zzzz" : Str), r)])) = tabsD (l ++ [(("zzzz" : Str), r)]) := frzQ_fz (by rw [tabsD, fz, fz_tabs])
  have qt5 : frzQ (tabsD (l ++ [(("zzzzz" : Str), (1 : Int))])) = tabsD (l ++ [(("zzzzz" : Str), (1 : Int))]) := frzQ_fz (by rw [tabsD, fz, fz_tabs])
  have zP2 := fz_par ⟨(w + 1) % 1001, l, xs⟩
  have zP3 := fz_par ⟨w, l, xs.reverse⟩
  have zY3 := fz_dmds xs.reverse
  have zY4 := fz_dmds (cutD xs none (some (-1)))
  have zL4 : fz (tabsD (l ++ [(("zzzz" : Str), r)])) = true := by rw [tabsD, fz, fz_tabs]
  have zL5 : fz (tabsD (l ++ [(("zzzzz" : Str), (1 : Int))])) = true := by rw [tabsD, fz, fz_tabs]
  have hln : lenD [.tup (xs.map dmdD)] = some (.int xs.length) := by simp
  have B1 := fq ⟨w, l, xs⟩
  have B2 := fq ⟨(w + 1) % 1001, l, xs⟩
  have B3 := fq ⟨w, l, xs.reverse⟩
  have B4 := fq ⟨w, l, cutD xs none (some (-1))⟩
  have B5 := fq ⟨w, l ++ [(("zzzz" : Str), r)], xs⟩
  have B6 := fq ⟨w, l ++ [(("zzzzz" : Str), (1 : Int))], xs⟩
  simp only at B1 B2 B3 B4 B5 B6
  have app : ∀ (bs : List Bk) (b : Bk), bs.length ≤ 100 → appF (bs.map parD) [parD b] = some (.non, (bs ++ [b]).map parD) := fun bs b h => by
    rw [appD (fz_pars bs) (fz_par b) (by rw [List.length_map]; omega), List.map_append]; rfl
  have A4 := app [⟨w, l, xs⟩, ⟨(w + 1) % 1001, l, xs⟩, ⟨w, l, xs.reverse⟩] ⟨w, l, cutD xs none (some (-1))⟩ (by simp)
  have A5 := app [⟨w, l, xs⟩, ⟨(w + 1) % 1001, l, xs⟩, ⟨w, l, xs.reverse⟩, ⟨w, l, cutD xs none (some (-1))⟩] ⟨w, l ++ [(("zzzz" : Str), r)], xs⟩ (by simp)
  have A6 := app [⟨w, l, xs⟩, ⟨(w + 1) % 1001, l, xs⟩, ⟨w, l, xs.reverse⟩, ⟨w, l, cutD xs none (some (-1))⟩, ⟨w, l ++ [(("zzzz" : Str), r)], xs⟩] ⟨w, l ++ [(("zzzzz" : Str), (1 : Int))], xs⟩ (by simp)
  have ok6 : ∀ z ∈ ([⟨w, l, xs⟩, ⟨(w + 1) % 1001, l, xs⟩, ⟨w, l, xs.reverse⟩, ⟨w, l, cutD xs none (some (-1))⟩, ⟨w, l ++ [(("zzzz" : Str), r)], xs⟩, ⟨w, l ++ [(("zzzzz" : Str), (1 : Int))], xs⟩] : List Bk), okBk z := by
    have hc := cut_le xs none (some (-1))
    intro z hz
    simp only [List.mem_cons, List.not_mem_nil, or_false] at hz
    rcases hz with rfl | rfl | rfl | rfl | rfl | rfl
    · exact hb
    · exact ⟨by show 0 ≤ (w + 1) % 1001; omega, by show (w + 1) % 1001 ≤ 1000; omega, hb.ts, hb.n6, hb.ds⟩
    · exact ⟨hw0, hw1, hb.ts, by show xs.reverse.length ≤ 6; rw [List.length_reverse]; omega, fun d hd => okd d (List.mem_reverse.mp hd)⟩
    · exact ⟨hw0, hw1, hb.ts, by show (cutD xs none (some (-1))).length ≤ 6; omega, fun d hd => okd d (cut_mem hd)⟩
    · exact ⟨hw0, hw1, t4, hb.n6, fun d hd => okDmd_more (okd d hd)⟩
    · exact ⟨hw0, hw1, t5, hb.n6, fun d hd => okDmd_more (okd d hd)⟩
  have hm : ∀ (L : List Bk) env, vM 2 5 env (some (some (.lst true (L.map parD)))) = .ok (.lst true (L.map parD), env.set 5 none) := fun L env => vM_mv (by simp) (by omega)
  by_cases hx : 0 < xs.length
  · obtain ⟨x7, a2, b2, c2, m1, m2, m3⟩ := s_other_factor hd hx h3 cells a1 b1 c1
    obtain ⟨x8, a3, b3, c3, n1, n2, n3⟩ := s_other_right hd hx h3 cells a2 b2 c2
    have hcut1 : slD (.tup (xs.map dmdD)) none (some 1) = some (.tup ((cutD xs none (some 1)).map dmdD)) := by rw [sl_t zx, map_cut]
    have qcut1 : frzQ (.tup ((cutD xs none (some 1)).map dmdD)) = .tup ((cutD xs none (some 1)).map dmdD) := frzQ_fz (by rw [fz, fz_dmds])
    have ha9 : addD (.tup (xs.map dmdD)) (.tup ((cutD xs none (some 1)).map dmdD)) = some (.tup ((xs ++ cutD xs none (some 1)).map dmdD)) := by
      have hc := cut_le xs none (some 1)
      rw [add_tt zx (fz_dmds _) (by rw [List.length_map, List.length_map]; omega), List.map_append]
    have B7 := fq ⟨w, l, x7⟩
    have B8 := fq ⟨w, l, x8⟩
    have B9 := fq ⟨w, l, xs ++ cutD xs none (some 1)⟩
    simp only at B7 B8 B9
    have zY7 := fz_dmds x7
    have zY8 := fz_dmds x8
    have zY9 := fz_dmds (xs ++ cutD xs none (some 1))
    have zY1 := fz_dmds (cutD xs none (some 1))
    have q7 : frzQ (.tup (x7.map dmdD)) = .tup (x7.map dmdD) := frzQ_fz (by rw [fz, fz_dmds])
    have q8 : frzQ (.tup (x8.map dmdD)) = .tup (x8.map dmdD) := frzQ_fz (by rw [fz, fz_dmds])
    have q9 : frzQ (.tup ((xs ++ cutD xs none (some 1)).map dmdD)) = .tup ((xs ++ cutD xs none (some 1)).map dmdD) := frzQ_fz (by rw [fz, fz_dmds])
    have A7 := app [⟨w, l, xs⟩, ⟨(w + 1) % 1001, l, xs⟩, ⟨w, l, xs.reverse⟩, ⟨w, l, cutD xs none (some (-1))⟩, ⟨w, l ++ [(("zzzz" : Str), r)], xs⟩, ⟨w, l ++ [(("zzzzz" : Str), (1 : Int))], xs⟩] ⟨w, l, x7⟩ (by simp)
    have A8 := app [⟨w, l, xs⟩, ⟨(w + 1) % 1001, l, xs⟩, ⟨w, l, xs.reverse⟩, ⟨w, l, cutD xs none (some (-1))⟩, ⟨w, l ++ [(("zzzz" : Str), r)], xs⟩, ⟨w, l ++ [(("zzzzz" : Str), (1 : Int))], xs⟩, ⟨w, l, x7⟩] ⟨w, l, x8⟩ (by simp)
    have A9 := app [⟨w, l, xs⟩, ⟨(w + 1) % 1001, l, xs⟩, ⟨w, l, xs.reverse⟩, ⟨w, l, cutD xs none (some (-1))⟩, ⟨w, l ++ [(("zzzz" : Str), r)], xs⟩, ⟨w, l ++ [(("zzzzz" : Str), (1 : Int))], xs⟩, ⟨w, l, x7⟩, ⟨w, l, x8⟩] ⟨w, l, xs ++ cutD xs none (some 1)⟩ (by simp)
    refine ⟨[⟨w, l, xs⟩, ⟨(w + 1) % 1001, l, xs⟩, ⟨w, l, xs.reverse⟩, ⟨w, l, cutD xs none (some (-1))⟩, ⟨w, l ++ [(("zzzz" : Str), r)], xs⟩, ⟨w, l ++ [(("zzzzz" : Str), (1 : Int))], xs⟩, ⟨w, l, x7⟩, ⟨w, l, x8⟩, ⟨w, l, xs ++ cutD xs none (some 1)⟩], a3, b3, c3, ?_, fun z hz => ?_, by simp⟩
    · have hm9 := hm [⟨w, l, xs⟩, ⟨(w + 1) % 1001, l, xs⟩, ⟨w, l, xs.reverse⟩, ⟨w, l, cutD xs none (some (-1))⟩, ⟨w, l ++ [(("zzzz" : Str), r)], xs⟩, ⟨w, l ++ [(("zzzzz" : Str), (1 : Int))], xs⟩, ⟨w, l, x7⟩, ⟨w, l, x8⟩, ⟨w, l, xs ++ cutD xs none (some 1)⟩]
      have hgt : (0 : Int) < xs.length := by omega
      simp only [List.map_cons, List.map_nil, List.cons_append, List.nil_append] at A4 A5 A6 A7 A8 A9 hm9 ⊢
      generalize parD ⟨w, l, xs⟩ = P1 at *
      generalize parD ⟨(w + 1) % 1001, l, xs⟩ = P2 at *
      generalize parD ⟨w, l, xs.reverse⟩ = P3 at *
      generalize parD ⟨w, l, cutD xs none (some (-1))⟩ = P4 at *
      generalize parD ⟨w, l ++ [(("zzzz" : Str), r)], xs⟩ = P5 at *
      generalize parD ⟨w, l ++ [(("zzzzz" : Str), (1 : Int))], xs⟩ = P6 at *
      generalize parD ⟨w, l, x7⟩ = P7 at *
      generalize parD ⟨w, l, x8⟩ = P8 at *
      generalize parD ⟨w, l, xs ++ cutD xs none (some 1)⟩ = P9 at *
      generalize (xs ++ cutD xs none (some 1)).map dmdD = Y9 at *
      generalize (cutD xs none (some (-1))).map dmdD = Y4 at *
      generalize (cutD xs none (some 1)).map dmdD = Y1 at *
      generalize xs.reverse.map dmdD = Y3 at *
      generalize x7.map dmdD = Y7 at *
      generalize x8.map dmdD = Y8 at *
      generalize xs.map dmdD = XX at *
      generalize tabsD (l ++ [(("zzzz" : Str), r)]) = L4 at *
      generalize tabsD (l ++ [(("zzzzz" : Str), (1 : Int))]) = L5 at *
      generalize tabsD l = LL at *
      generalize (xs.length : Int) = nn at *
      simp (implicitDefEqProofs := false) [g__law_others, m__law_others, runD, ownOk, outsD, List.range, List.range.loop, ownVars, putBack, zb, hq, tg, hint, hmod, qt, qx, B1, B2, hrev, qrev, B3, hcut, qcut, B4, A4, k1, q41, q42, ha4, qt4, B5, A5, q51, q52, ha5, qt5, B6, A6, hln, hgt, m1, q7, B7, A7, n1, q8, B8, A8, hcut1, qcut1, ha9, q9, B9, A9, ztt, zx, hm9, zP2, zP3, zY3, zY4, zL4, zL5, zY7, zY8, zY9, zY1, -lenD_t]
    · rw [show ([⟨w, l, xs⟩, ⟨(w + 1) % 1001, l, xs⟩, ⟨w, l, xs.reverse⟩, ⟨w, l, cutD xs none (some (-1))⟩, ⟨w, l ++ [(("zzzz" : Str), r)], xs⟩, ⟨w, l ++ [(("zzzzz" : Str), (1 : Int))], xs⟩, ⟨w, l, x7⟩, ⟨w, l, x8⟩, ⟨w, l, xs ++ cutD xs none (some 1)⟩] : List Bk) = [⟨w, l, xs⟩, ⟨(w + 1) % 1001, l, xs⟩, ⟨w, l, xs.reverse⟩, ⟨w, l, cutD xs none (some (-1))⟩, ⟨w, l ++ [(("zzzz" : Str), r)], xs⟩, ⟨w, l ++ [(("zzzzz" : Str), (1 : Int))], xs⟩] ++ [⟨w, l, x7⟩, ⟨w, l, x8⟩, ⟨w, l, xs ++ cutD xs none (some 1)⟩] from rfl] at hz
      rcases List.mem_append.mp hz with hz | hz
      · exact ok6 z hz
      · simp only [List.mem_cons, List.not_mem_nil, or_false] at hz
        have hc := cut_le xs none (some 1)
        rcases hz with rfl | rfl | rfl
        · exact ⟨hw0, hw1, hb.ts, by show x7.length ≤ 6; omega, m2⟩
        · exact ⟨hw0, hw1, hb.ts, by show x8.length ≤ 6; omega, n2⟩
        · refine ⟨hw0, hw1, hb.ts, by show (xs ++ cutD xs none (some 1)).length ≤ 6; rw [List.length_append]; omega, fun d hd => ?_⟩
          rcases List.mem_append.mp hd with hd | hd
          · exact okd d hd
          · exact okd d (cut_mem hd)
  · refine ⟨[⟨w, l, xs⟩, ⟨(w + 1) % 1001, l, xs⟩, ⟨w, l, xs.reverse⟩, ⟨w, l, cutD xs none (some (-1))⟩, ⟨w, l ++ [(("zzzz" : Str), r)], xs⟩, ⟨w, l ++ [(("zzzzz" : Str), (1 : Int))], xs⟩], a1, b1, c1, ?_, ok6, by simp⟩
    have hm6 := hm [⟨w, l, xs⟩, ⟨(w + 1) % 1001, l, xs⟩, ⟨w, l, xs.reverse⟩, ⟨w, l, cutD xs none (some (-1))⟩, ⟨w, l ++ [(("zzzz" : Str), r)], xs⟩, ⟨w, l ++ [(("zzzzz" : Str), (1 : Int))], xs⟩]
    have hgt : ¬ (0 : Int) < xs.length := by omega
    simp only [List.map_cons, List.map_nil, List.cons_append, List.nil_append] at A4 A5 A6 hm6 ⊢
    generalize parD ⟨w, l, xs⟩ = P1 at *
    generalize parD ⟨(w + 1) % 1001, l, xs⟩ = P2 at *
    generalize parD ⟨w, l, xs.reverse⟩ = P3 at *
    generalize parD ⟨w, l, cutD xs none (some (-1))⟩ = P4 at *
    generalize parD ⟨w, l ++ [(("zzzz" : Str), r)], xs⟩ = P5 at *
    generalize parD ⟨w, l ++ [(("zzzzz" : Str), (1 : Int))], xs⟩ = P6 at *
    generalize (cutD xs none (some (-1))).map dmdD = Y4 at *
    generalize xs.reverse.map dmdD = Y3 at *
    generalize xs.map dmdD = XX at *
    generalize tabsD (l ++ [(("zzzz" : Str), r)]) = L4 at *
    generalize tabsD (l ++ [(("zzzzz" : Str), (1 : Int))]) = L5 at *
    generalize tabsD l = LL at *
    generalize (xs.length : Int) = nn at *
    simp (implicitDefEqProofs := false) [g__law_others, m__law_others, runD, ownOk, outsD, List.range, List.range.loop, ownVars, putBack, zb, hq, tg, hint, hmod, qt, qx, B1, B2, hrev, qrev, B3, hcut, qcut, B4, A4, k1, q41, q42, ha4, qt4, B5, A5, q51, q52, ha5, qt5, B6, A6, hln, hgt, ztt, zx, hm6, zP2, zP3, zY3, zY4, zL4, zL5, -lenD_t]
end Mi
namespace Mi
open PySem PySem.Spec PyProof.Rows L2
/-! ### books compared -/
def dsD (b : Bk) : D := .tup (b.ds.map dmdD)
theorem strOk_abcd {t : Str} (h : ∀ c ∈ t.cps.toList, c ∈ ("abcd" : Str).cps.toList) : PyData.strOk t = true := by
  have h1 : ∀ c ∈ ("abcd" : Str).cps.toList, c < 0x110000 := by decide +kernel
  unfold PyData.strOk
  rw [← Array.all_toList, List.all_eq_true]
  exact fun c hc => by simpa using h1 c (h c hc)
theorem okPL_all : ∀ {L : List D} {n : Nat}, (∀ d ∈ L, okP n d = true) → okPL n L = true
  | [], n, _ => by simp [okPL]
  | d :: L, n, h => by
    simp only [okPL, Bool.and_eq_true]
    exact ⟨h d List.mem_cons_self, okPL_all fun x hx => h x (List.mem_cons_of_mem _ hx)⟩
theorem okP_tabs {l : List (Str × Int)} (h : okTabs l) (n : Nat) : okP (n + 2) (tabsD l) = true := by
  rw [tabsD, okP]
  refine okPL_all fun d hd => ?_
  obtain ⟨p, hp, rfl⟩ := List.mem_map.mp hd
  have := strOk_lab (h.tab p hp).1
  simp [tabD, okP, okPL, this]
theorem okP_dmd {l : List (Str × Int)} (hl : okTabs l) {x : Dmd} (h : okDmd l x) (n : Nat) : okP (n + 3) (dmdD x) = true := by
  have h1 : okPL (n + 1) (x.ts.map trmD) = true := okPL_all fun d hd => by
    obtain ⟨t, ht, rfl⟩ := List.mem_map.mp hd
    have q := h.tr t ht
    have a1 := strOk_lab (hl.tab _ q.kn).1
    have a2 := strOk_abcd q.ab
    simp only at a1
    simp [trmD, okP, okPL, a1, a2]
  simp [dmdD, okP, okPL, h1]
theorem okP_ds {b : Bk} (h : okBk b) (n : Nat) : okP (n + 4) (dsD b) = true := by
  rw [dsD, okP]
  refine okPL_all fun d hd => ?_
  obtain ⟨x, hx, rfl⟩ := List.mem_map.mp hd
  exact okP_dmd h.ts (h.ds x hx) n
theorem okP_par {b : Bk} (h : okBk b) (n : Nat) : okP (n + 5) (parD b) = true := by
  have h1 := okP_tabs h.ts (n + 2)
  have h2 := okP_ds h n
  rw [dsD] at h2
  have h3 : okPL (n + 3) (b.ds.map dmdD) = true := by simpa [okP] using h2
  simp [parD, okP, okPL, h1, h3]
def E (b c : Bk) : Bool := decide (b.w = c.w) && (eqB (tabsD b.ts) (tabsD c.ts) && eqB (dsD b) (dsD c))
theorem eqB_par (b c : Bk) : eqB (parD b) (parD c) = E b c := by
  unfold eqB E
  rw [parD, parD]
  simp only [toP, toPL, PyData.eqv, PyData.eqvAll, Bool.and_true]
  rfl
theorem eqB_comm (d e : D) : eqB d e = eqB e d := PySem.W.eqv_comm _ _
theorem E_comm (b c : Bk) : E b c = E c b := by
  unfold E
  rw [eqB_comm (tabsD b.ts), eqB_comm (dsD b), decide_eq_decide.mpr (eq_comm (a := b.w) (b := c.w))]
theorem eqB_self {d : D} (h : okP 64 d = true) : eqB d d = true := PySem.SeqAt.eqv_refl _ (okP_shape _ _ h).1
theorem eq_tabs {b c : Bk} (hb : okBk b) (hc : okBk c) : eqD (tabsD b.ts) (tabsD c.ts) = some (.bl (eqB (tabsD b.ts) (tabsD c.ts))) := by
  have h1 := okP_tabs hb.ts 62
  have h2 := okP_tabs hc.ts 62
  have hs : scalD (tabsD b.ts) (tabsD c.ts) = none := rfl
  simp [eqD, eqQ, hs, h1, h2]
theorem eq_ds {b c : Bk} (hb : okBk b) (hc : okBk c) : eqD (dsD b) (dsD c) = some (.bl (eqB (dsD b) (dsD c))) := by
  have h1 := okP_ds hb 60
  have h2 := okP_ds hc 60
  have hs : scalD (dsD b) (dsD c) = none := rfl
  simp [eqD, eqQ, hs, h1, h2]
theorem eq_par {b c : Bk} (hb : okBk b) (hc : okBk c) : eqD (parD b) (parD c) = some (.bl (E b c)) := by
  have h1 := okP_par hb 59
  have h2 := okP_par hc 59
  have hs : scalD (parD b) (parD c) = none := rfl
  rw [← eqB_par]
  simp [eqD, eqQ, hs, h1, h2]
theorem fld3 (o : Bool) (b : Bk) : fldG cs_world "world" (bkD o b) = some (.int b.w) ∧ fldG cs_tables "tables" (bkD o b) = some (tabsD b.ts) ∧ fldG cs_demands "demands" (bkD o b) = some (dsD b) := by
  have n1 : ¬ ("tables" : Str) = "world" := by decide
  have n2 : ¬ ("demands" : Str) = "world" := by decide
  have n3 : ¬ ("demands" : Str) = "tables" := by decide
  have zt : fz (tabsD b.ts) = true := by rw [tabsD, fz, fz_tabs]
  have zx : fzL (b.ds.map dmdD) = true := fz_dmds b.ds
  refine ⟨by simp [bkD, fldG, fldD, cs_world, pick], by simp [bkD, fldG, fldD, cs_tables, pick, n1, zt], by simp [bkD, fldG, fldD, cs_demands, pick, n2, n3, zx, dsD]⟩
theorem s_Book_eq {b c : Bk} (hb : okBk b) (hc : okBk c) : g_Book___eq__ [bkD false b, bkD false c] = .ok (.bl (E b c), [some (bkD false b), some (bkD false c)]) := by
  have z1 := fz_bkF b
  have z2 := fz_bkF c
  obtain ⟨w1, t1, d1⟩ := fld3 false b
  obtain ⟨w2, t2, d2⟩ := fld3 false c
  have hi : isC clsl "Book" (bkD false c) = some (.bl true) := by simp [isC, bkD, clsl]
  have e1 := eq_tabs hb hc
  have e2 := eq_ds hb hc
  have zt1 : fz (tabsD b.ts) = true := by rw [tabsD, fz, fz_tabs]
  have zt2 : fz (tabsD c.ts) = true := by rw [tabsD, fz, fz_tabs]
  have zd1 : fz (dsD b) = true := by rw [dsD, fz, fz_dmds]
  have zd2 : fz (dsD c) = true := by rw [dsD, fz, fz_dmds]
  have q1 : frzQ (tabsD b.ts) = tabsD b.ts := frzQ_fz zt1
  have q2 : frzQ (tabsD c.ts) = tabsD c.ts := frzQ_fz zt2
  have q3 : frzQ (dsD b) = dsD b := frzQ_fz zd1
  have q4 : frzQ (dsD c) = dsD c := frzQ_fz zd2
  unfold E
  generalize eqB (tabsD b.ts) (tabsD c.ts) = x at *
  generalize eqB (dsD b) (dsD c) = y at *
  generalize bkD false b = B at *
  generalize bkD false c = C at *
  generalize tabsD b.ts = T1 at *
  generalize tabsD c.ts = T2 at *
  generalize dsD b = D1 at *
  generalize dsD c = D2 at *
  by_cases hw : b.w = c.w
  · cases x <;> simp (implicitDefEqProofs := false) [g_Book___eq__, m_Book___eq__, runD, ownOk, outsD, List.range, List.range.loop, ownVars, putBack, z1, z2, hi, w1, w2, t1, t2, d1, d2, hw, q1, q2, q3, q4, e1, e2]
  · simp (implicitDefEqProofs := false) [g_Book___eq__, m_Book___eq__, runD, ownOk, outsD, List.range, List.range.loop, ownVars, putBack, z1, z2, hi, w1, w2, hw]
theorem s_Book_other {b : Bk} {d : D} (z : fz d = true) (hi : isC clsl "Book" d = some (.bl false)) : g_Book___eq__ [bkD false b, d] = .ok (.bl false, [some (bkD false b), some d]) := by
  have z1 := fz_bkF b
  generalize bkD false b = B at *
  simp (implicitDefEqProofs := false) [g_Book___eq__, m_Book___eq__, runD, ownOk, outsD, List.range, List.range.loop, ownVars, putBack, z1, z, hi]
theorem s_Party_other {d e : D} (z1 : fz d = true) (z : fz e = true) (hi : isC clsl "Party" e = some (.bl false)) : g_Party___eq__ [d, e] = .ok (.bl false, [some d, some e]) := by
  simp (implicitDefEqProofs := false) [g_Party___eq__, m_Party___eq__, runD, ownOk, outsD, List.range, List.range.loop, ownVars, putBack, z1, z, hi]
theorem tab_B : List.lookup ("Book" : Str) eqtab = some g_Book___eq__ := by simp [eqtab]
theorem tab_P : List.lookup ("Party" : Str) eqtab = some g_Party___eq__ := by
  have : (("Party" : Str) == "Book") = false := by decide
  simp [eqtab, List.lookup_cons, this]
theorem cls_bk (o : Bool) (b : Bk) : clsD (bkD o b) = some ("Book" : Str) := rfl
theorem ty_bk (o : Bool) (b : Bk) : tyD (bkD o b) = none := rfl
/- a book beside a book -/
theorem eqO_bk {b c : Bk} (hb : okBk b) (hc : okBk c) (neg : Bool) : eqOD eqtab neg (bkD false b) (bkD false c) = some (.bl (E b c != neg)) := by
  have z1 := fz_bkF b
  have z2 := fz_bkF c
  have h := s_Book_eq hb hc
  have ok : okRt eqtab (bkD false c) = true := by simp [okRt, cls_bk, ty_bk, tab_B]
  unfold eqOD
  rw [if_pos ⟨z1, z2⟩, cls_bk]
  simp only
  rw [if_pos ok, tab_B]
  simp only [Option.bind_some, h, resB]
/- a book beside a thing that is none -/
structure Oth (d : D) : Prop where
  z : fz d = true
  t : (∃ t, tyD d = some t ∧ ∃ u, bltD d = some u) ∨ ∃ b, d = ptD false b []
theorem oth_isC {d : D} (h : Oth d) : isC clsl "Book" d = some (.bl false) := by
  rcases h.t with ⟨t, ht, _⟩ | ⟨b, rfl⟩
  · cases d <;> simp only [tyD] at ht <;> (try (cases ht; done)) <;> simp [isC, tyD]
  · have : (("Party" : Str) == "Book") = false := by decide
    simp [isC, ptD, clsl, this]
theorem eqO_left {b : Bk} {d : D} (h : Oth d) (neg : Bool) : eqOD eqtab neg (bkD false b) d = some (.bl neg) := by
  have z1 := fz_bkF b
  have hB := s_Book_other (b := b) h.z (oth_isC h)
  have ok : okRt eqtab d = true := by
    rcases h.t with ⟨t, ht, _⟩ | ⟨b, rfl⟩
    · simp [okRt, ht]
    · simp [okRt, ptD, tyD, clsD, tab_P]
  unfold eqOD
  rw [if_pos ⟨z1, h.z⟩, cls_bk]
  simp only
  rw [if_pos ok, tab_B]
  simp only [Option.bind_some, hB, resB]
  cases neg <;> rfl
theorem eqO_right {b : Bk} {d : D} (h : Oth d) : eqOD eqtab false d (bkD false b) = some (.bl false) := by
  have z1 := fz_bkF b
  unfold eqOD
  rw [if_pos ⟨h.z, z1⟩]
  rcases h.t with ⟨t, ht, u, hu⟩ | ⟨c, rfl⟩
  · have hc : clsD d = none := by cases d <;> simp only [bltD] at hu <;> (try (cases hu; done)) <;> rfl
    have hB := s_Book_other (b := b) h.z (oth_isC h)
    rw [hc, hu, cls_bk]
    simp only
    rw [tab_B]
    simp only [Option.bind_some, hB, resB]
    rfl
  · have hi : isC clsl "Party" (bkD false b) = some (.bl false) := by
      have : (("Book" : Str) == "Party") = false := by decide
      simp [isC, bkD, clsl, this]
    have hP := s_Party_other h.z z1 hi
    have hc : clsD (ptD false c []) = some ("Party" : Str) := rfl
    have ok : okRt eqtab (bkD false b) = true := by simp [okRt, cls_bk, ty_bk, tab_B]
    rw [hc]
    simp only
    rw [if_pos ok, tab_P]
    simp only [Option.bind_some, hP, resB]
    rfl
end Mi
namespace Mi
open PySem PySem.Spec PyProof.Rows L2
theorem s_is_flag (f d : Bool) : g__law_is_flag [.bl f, .bl d] = .ok (.bl (f == d), [some (.bl f), some (.bl d)]) := by
  have hI : ∀ a b : Bool, isD (.bl a) (.bl b) = some (.bl (decide (a = b))) := fun a b => by cases a <;> cases b <;> rfl
  cases f <;> cases d <;> simp (implicitDefEqProofs := false) [g__law_is_flag, m__law_is_flag, runD, ownOk, outsD, List.range, List.range.loop, hI, truD]
theorem s_is_compared {b c : Bk} (hb : okBk b) (hc : okBk c) : g__law_is_compared [bkD false b, parD b, bkD false c, parD c] = .ok (.bl true, [some (bkD false b), some (parD b), some (bkD false c), some (parD c)]) := by
  have h1 : eqOD eqtab false (bkD false b) (bkD false c) = some (.bl (E b c)) := by
    have := eqO_bk hb hc false
    simpa using this
  have h2 : eqOD eqtab false (bkD false c) (bkD false b) = some (.bl (E b c)) := by
    have := eqO_bk hc hb false
    rw [E_comm c b] at this
    simpa using this
  have h3 : eqOD eqtab true (bkD false b) (bkD false c) = some (.bl (!E b c)) := by
    have := eqO_bk hb hc true
    rw [this]
    cases E b c <;> rfl
  have hp := eq_par hb hc
  have z1 := fz_bkF b
  have z2 := fz_bkF c
  have z3 := fz_par b
  have z4 := fz_par c
  have q1 : frzQ (bkD false b) = bkD false b := frzQ_fz z1
  have q2 : frzQ (bkD false c) = bkD false c := frzQ_fz z2
  generalize E b c = e at *
  generalize bkD false b = B at *
  generalize bkD false c = C at *
  generalize parD b = P at *
  generalize parD c = R at *
  have f1 : g__law_is_flag [.bl e, .bl e] = .ok (.bl true, [some (.bl e), some (.bl e)]) := by
    have := s_is_flag e e
    simpa using this
  have f2 : g__law_is_flag [.bl (!e), .bl (!e)] = .ok (.bl true, [some (.bl (!e)), some (.bl (!e))]) := by
    have := s_is_flag (!e) (!e)
    simpa using this
  simp (implicitDefEqProofs := false) [g__law_is_compared, m__law_is_compared, runD, ownOk, outsD, List.range, List.range.loop, ownVars, putBack, z1, z2, z3, z4, q1, q2, hp, h1, h2, h3, f1, f2]
theorem s_is_kept {b : Bk} (hb : okBk b) : g__law_is_kept [bkD false b, parD b] = .ok (.bl true, [some (bkD false b), some (parD b)]) := by
  have z1 := fz_bkF b
  have z3 := fz_par b
  obtain ⟨w1, t1, d1⟩ := fld3 false b
  have zt1 : fz (tabsD b.ts) = true := by rw [tabsD, fz, fz_tabs]
  have zd1 : fz (dsD b) = true := by rw [dsD, fz, fz_dmds]
  have q1 : frzQ (tabsD b.ts) = tabsD b.ts := frzQ_fz zt1
  have q3 : frzQ (dsD b) = dsD b := frzQ_fz zd1
  have e1 := eq_tabs hb hb
  have e2 := eq_ds hb hb
  rw [eqB_self (okP_tabs hb.ts 62)] at e1
  rw [eqB_self (okP_ds hb 60)] at e2
  have k1 : isK .tTup (tabsD b.ts) = some true := rfl
  have k2 : isK .tTup (dsD b) = some true := rfl
  have hkB : isK .tBool (.int b.w) = some false := rfl
  have zl : fzL [.int b.w, tabsD b.ts, dsD b] = true := by simp [fzL, zt1, zd1]
  have i0 : ixD (parD b) (.int 0) = some (.int b.w) := by simp [parD, ixD, atI, ixN, pick]
  have i1 : ixD (parD b) (.int 1) = some (tabsD b.ts) := by simp [parD, ixD, atI, ixN, pick, zt1]
  have i2 : ixD (parD b) (.int 2) = some (dsD b) := by
    have := ix_tup zl (i := 2) (by simp)
    exact this
  generalize bkD false b = B at *
  generalize parD b = P at *
  generalize tabsD b.ts = T1 at *
  generalize dsD b = D1 at *
  simp (implicitDefEqProofs := false) [g__law_is_kept, m__law_is_kept, runD, ownOk, outsD, List.range, List.range.loop, ownVars, putBack, z1, z3, w1, t1, d1, q1, q3, k1, k2, i0, i1, i2, e1, e2, hkB]
def apE : EM FlowD := (mIfS (mOrT (mTB (mBin (eqOD eqtab false) (mFrz (mVarE 0)) (mFrz (mVarE 2)))) (mOrT (mTB (mBin (eqOD eqtab false) (mFrz (mVarE 2)) (mFrz (mVarE 0)))) (mNotT (mTB (mBin (eqOD eqtab true) (mFrz (mVarE 0)) (mFrz (mVarE 2))))))) (mRet (mC (.bl false))) (mNext))
theorem ap_loop (b : Bk) (p : Option D) : ∀ (ds : List D) (x : Option D), (∀ d ∈ ds, Oth d) → ∃ y, loopF (.nm 2) apE ds [some (bkD false b), p, x] = .ok (.next, [some (bkD false b), p, y])
  | [], x, _ => ⟨x, by simp [e_lp0]⟩
  | d :: ds, x, h => by
    obtain ⟨y, hy⟩ := ap_loop b p ds (some d) fun z hz => h z (List.mem_cons_of_mem _ hz)
    have hd := h d List.mem_cons_self
    have z1 := fz_bkF b
    have z2 := hd.z
    have a1 := eqO_left (b := b) hd false
    have a2 := eqO_right (b := b) hd
    have a3 := eqO_left (b := b) hd true
    have q1 : frzQ (bkD false b) = bkD false b := frzQ_fz z1
    have q2 : frzQ d = d := frzQ_fz z2
    refine ⟨y, ?_⟩
    rw [e_lp]
    simp only [apE] at hy ⊢
    generalize bkD false b = B at *
    simp (implicitDefEqProofs := false) [ownVars, putBack, z1, z2, a1, a2, a3, q1, q2]
    exact hy
theorem s_is_apart {b : Bk} (hb : okBk b) : g__law_is_apart [bkD false b, parD b] = .ok (.bl true, [some (bkD false b), some (parD b)]) := by
  have z1 := fz_bkF b
  have z3 := fz_par b
  have zt1 : fz (tabsD b.ts) = true := by rw [tabsD, fz, fz_tabs]
  have zd1 : fz (dsD b) = true := by rw [dsD, fz, fz_dmds]
  have zl : fzL [.int b.w, tabsD b.ts, dsD b] = true := by simp [fzL, zt1, zd1]
  have i0 : ixD (parD b) (.int 0) = some (.int b.w) := by simp [parD, ixD, atI, ixN, pick]
  have i1 : ixD (parD b) (.int 1) = some (tabsD b.ts) := by simp [parD, ixD, atI, ixN, pick, zt1]
  have hly : listY [parD b] = some (.lst true [.int b.w, tabsD b.ts, dsD b]) := listY_t zl
  have q0 : frzQ (parD b) = parD b := frzQ_fz z3
  have q1 : frzQ (bkD false b) = bkD false b := frzQ_fz z1
  have q2 : frzQ (tabsD b.ts) = tabsD b.ts := frzQ_fz zt1
  have q3 : frzQ (.lst true [.int b.w, tabsD b.ts, dsD b]) = .lst false [.int b.w, tabsD b.ts, dsD b] := frz_lstt zl
  have hP := s_Party (b := b) (K := []) (by simp) (by simp) .nil (by simp [sortS])
  simp only [List.map_nil] at hP
  have q4 : frzQ (.tup []) = .tup [] := frzQ_fz (by simp)
  have q5 : frzQ (.dic true [] []) = .dic false [] [] := by simp [frzQ, frz, frzL]
  have q6 : frzQ (ptD true b []) = ptD false b [] := by
    have h3 : fz (ptD true b []) = false := by rw [ptD, fz]; rfl
    unfold frzQ
    rw [if_neg (by rw [h3]; decide)]
    have h2 := frz_fz _ z1
    simp only [ptD, frz, frzL, h2, List.map_nil]
  have zp : fz (ptD false b []) = true := by simp [ptD, fz, fzL, z1]
  have zq : fz (.lst false [.int b.w, tabsD b.ts, dsD b]) = true := by rw [fz, zl]; rfl
  have ni : ∀ c, fz (.ins true c [] []) = false := fun c => by rw [fz]; rfl
  have oth : ∀ d ∈ [parD b, .lst false [.int b.w, tabsD b.ts, dsD b], .int b.w, tabsD b.ts, .str "book", .non, .bl true, ptD false b []], Oth d := by
    intro d hd
    simp only [List.mem_cons, List.not_mem_nil, or_false] at hd
    rcases hd with rfl | rfl | rfl | rfl | rfl | rfl | rfl | rfl
    · exact ⟨z3, .inl ⟨_, rfl, _, rfl⟩⟩
    · exact ⟨zq, .inl ⟨_, rfl, _, rfl⟩⟩
    · exact ⟨by simp, .inl ⟨_, rfl, _, rfl⟩⟩
    · exact ⟨zt1, .inl ⟨_, rfl, _, rfl⟩⟩
    · exact ⟨by simp, .inl ⟨_, rfl, _, rfl⟩⟩
    · exact ⟨by simp, .inl ⟨_, rfl, _, rfl⟩⟩
    · exact ⟨by simp, .inl ⟨_, rfl, _, rfl⟩⟩
    · exact ⟨zp, .inr ⟨b, rfl⟩⟩
  obtain ⟨y, hy⟩ := ap_loop b (some (parD b)) _ none oth
  have zA : fzL [parD b, .lst false [.int b.w, tabsD b.ts, dsD b], .int b.w, tabsD b.ts, .str "book", .non, .bl true, ptD false b []] = true := fzL_all fun d hd => (oth d hd).z
  have hfA := frz_lstt zA
  have hlA : [parD b, .lst false [.int b.w, tabsD b.ts, dsD b], .int b.w, tabsD b.ts, .str "book", .non, .bl true, ptD false b []].length ≤ 1000 := by simp
  have hsq : seqI [.lst false [parD b, .lst false [.int b.w, tabsD b.ts, dsD b], .int b.w, tabsD b.ts, .str "book", .non, .bl true, ptD false b []]] = some [parD b, .lst false [.int b.w, tabsD b.ts, dsD b], .int b.w, tabsD b.ts, .str "book", .non, .bl true, ptD false b []] := by simp only [seqI, zA, if_true]
  have hkf := kFor_ok (t := .nm 2) (ms := apE) (e := [some (bkD false b), some (parD b), none]) zA
  rw [hy] at hkf
  simp (implicitDefEqProofs := false) only [apE] at hkf
  have hmm : ∃ e, m__law_is_apart [some (bkD false b), some (parD b), none] = .ok (.ret (.bl true), some (bkD false b) :: some (parD b) :: e) := by
    refine ⟨[y], ?_⟩
    generalize hLL : (.lst false [.int b.w, tabsD b.ts, dsD b] : D) = LL at *
    generalize hLT : (.lst true [.int b.w, tabsD b.ts, dsD b] : D) = LT at *
    generalize ptD true b [] = PT at *
    generalize ptD false b [] = PF at *
    generalize bkD false b = B at *
    generalize parD b = P at *
    generalize tabsD b.ts = T1 at *
    generalize hAL : [P, LL, .int b.w, T1, .str "book", .non, .bl true, PF] = AL at *
    simp (implicitDefEqProofs := false) [m__law_is_apart, ownVars, putBack, z1, z3, q0, q1, i0, i1, hly, q2, q3, hP, mkV2, ni, q4, q5, q6, zq, zt1, zp, hAL, hfA, zA, hlA, sqV_ok hsq, hkf]
  obtain ⟨e, hmm⟩ := hmm
  simp (implicitDefEqProofs := false) [g__law_is_apart, runD, ownOk, outsD, List.range, List.range.loop, z1, z3, hmm]
end Mi
namespace Mi
open PySem PySem.Spec PyProof.Rows L2
def gB (b : Bk) : Prop := okBk b ∧ kT b.ts ∧ (∀ x ∈ b.ds, kD b.ts x) ∧ b.ds.length ≤ 3
def wlE : EM FlowD := (mSeq (mAsg 4 (mBin ixD (mFrz (mLst (mArgs [mFrz (mC (.int 0)), mFrz (mC (.int 1)), mFrz (mC (.int 2)), mFrz (mC (.int 1000)), mFrz (mCall g__law_pick (mArgs [mVarA 1, mFrz (mC (.int 1001))]))]))) (mFrz (mCall g__law_pick (mArgs [mVarA 1, mFrz (mC (.int 5))])))))
  (mSeq (mAsg 5 (mCall g__law_tables (mArgs [mVarA 1])))
  (mDrop (mMet 2 (mArgs [mFrz (mTup (mArgs [mFrz (mVarE 4), mFrz (mVarE 5), mFrz (mCall g__law_demands (mArgs [mVarA 1, mVarA 5]))]))]) appF))))
theorem wl_turn (cells : List Int) (a b c : Int) (bs : List Bk) (hl : bs.length ≤ 100) (p0 p3 p4 p5 p6 p7 p8 p9 : Option D) : ∃ (z : Bk) (a' b' c' : Int) (y4 y5 : Option D), wlE [p0, some (dk cells a b c), some (.lst true (bs.map parD)), p3, p4, p5, p6, p7, p8, p9] = .ok (.next, [p0, some (dk cells a' b' c'), some (.lst true ((bs ++ [z]).map parD)), p3, y4, y5, p6, p7, p8, p9]) ∧ gB z := by
  obtain ⟨r, a1, b1, c1, h1, h2, h3⟩ := s_law_pick cells a b c (m := 1001) (by decide) (by decide)
  obtain ⟨q, a2, b2, c2, k1, k2, k3⟩ := s_law_pick cells a1 b1 c1 (m := 5) (by decide) (by decide)
  obtain ⟨l, a3, b3, c3, t1, t2⟩ := s_law_tables cells a2 b2 c2
  obtain ⟨xs, a4, b4, c4, d1, d2, d3⟩ := s_law_demands t2.ok cells a3 b3 c3
  obtain ⟨w, hw, hwi⟩ := pick_l (l := [0, 1, 2, 1000, r]) k2 k3 false
  have hw2 : 0 ≤ w ∧ w ≤ 1000 := by
    simp only [List.mem_cons, List.not_mem_nil, or_false] at hw
    rcases hw with rfl | rfl | rfl | rfl | rfl <;> omega
  have zt : fz (tabsD l) = true := by rw [tabsD, fz, fz_tabs]
  have zx := fz_dmds xs
  have qt : frzQ (tabsD l) = tabsD l := frzQ_fz zt
  have qx : frzQ (.tup (xs.map dmdD)) = .tup (xs.map dmdD) := frzQ_fz (by rw [fz, zx])
  have fq : frzQ (.tup [.int w, tabsD l, .tup (xs.map dmdD)]) = parD ⟨w, l, xs⟩ := frzQ_fz (fz_par ⟨w, l, xs⟩)
  have hap : appF (bs.map parD) [parD ⟨w, l, xs⟩] = some (.non, (bs ++ [(⟨w, l, xs⟩ : Bk)]).map parD) := by
    rw [appD (fz_pars bs) (fz_par _) (by rw [List.length_map]; omega), List.map_append]; rfl
  have hfl : frzQ (.lst true [.int 0, .int 1, .int 2, .int 1000, .int r]) = .lst false ([0, 1, 2, 1000, r].map .int) := frz_lstt rfl
  simp only [List.map_cons, List.map_nil] at hwi hfl
  refine ⟨⟨w, l, xs⟩, a4, b4, c4, some (.int w), some (tabsD l), ?_, ⟨hw2.1, hw2.2, t2.ok, by show xs.length ≤ 6; omega, fun d hd => (d2 d hd).ok⟩, t2, d2, d3⟩
  have zbs := fz_pars bs
  generalize parD ⟨w, l, xs⟩ = P at *
  generalize (bs ++ [(⟨w, l, xs⟩ : Bk)]).map parD = R at *
  generalize bs.map parD = Q at *
  generalize xs.map dmdD = XX at *
  generalize tabsD l = LL at *
  simp (implicitDefEqProofs := false) [wlE, ownVars, putBack, h1, hfl, k1, hwi, t1, d1, zt, zx, qt, qx, fq, hap]
/-! the law's loop over all books -/
def inE4 : EM FlowD := (mIfS (mNotT (mTB (mCall g__law_is_compared (mArgs [mFrz (mBin ixD (mVarA 6) (mVarA 8)), mFrz (mBin ixD (mVarA 2) (mVarA 8)), mFrz (mBin ixD (mVarA 6) (mVarA 9)), mFrz (mBin ixD (mVarA 2) (mVarA 9))])))) (mRet (mC (.bl false))) (mNext))
def mnE : EM FlowD := (mSeq (mIfS (mNotT (mTB (mCall g__law_is_kept (mArgs [mFrz (mBin ixD (mVarA 6) (mVarA 8)), mFrz (mBin ixD (mVarA 2) (mVarA 8))])))) (mRet (mC (.bl false))) (mNext))
  (mSeq (mFor (mIt1 (mFrz (mLst (mArgs [mFrz (mC (.int 0)), mFrz (mC (.int 1)), mFrz (mCall g__law_pick (mArgs [mVarA 1, mFrz (mCB lenD (mArgs [mVarA 2]))]))])))) (.nm 9) (inE4))
  (mIfS (mNotT (mTB (mCall g__law_is_apart (mArgs [mFrz (mBin ixD (mVarA 6) (mVarA 8)), mFrz (mBin ixD (mVarA 2) (mVarA 8))])))) (mRet (mC (.bl false))) (mNext))))
def bkL (bs : List Bk) : D := .lst true (bs.map (bkD false))
def paL (bs : List Bk) : D := .lst false (bs.map parD)
theorem fz_bks (bs : List Bk) : fzL (bs.map (bkD false)) = true := fzL_map _ fz_bkF bs
theorem ix_two {bs : List Bk} {j : Int} (h0 : 0 ≤ j) (h : j < bs.length) : ∃ b ∈ bs, ixD (bkL bs) (.int j) = some (bkD false b) ∧ ixD (paL bs) (.int j) = some (parD b) := by
  have e : j.toNat < bs.length := by omega
  have z1 := fz_bkF bs[j.toNat]
  have z2 := fz_par bs[j.toNat]
  have hh : j < (bs.length : Int) := h
  refine ⟨bs[j.toNat], List.getElem_mem e, ?_, ?_⟩
  · simp [bkL, ixD, atI, ixN, h0, hh, pick, e, z1]
  · simp [paL, ixD, atI, ixN, h0, hh, pick, e, z2]
theorem in4_loop {bs : List Bk} (hb : ∀ b ∈ bs, okBk b) {b : Bk} (hbm : b ∈ bs) {i : Int} (h1 : ixD (bkL bs) (.int i) = some (bkD false b)) (h2 : ixD (paL bs) (.int i) = some (parD b)) (p0 p1 p3 p4 p5 p7 : Option D) : ∀ (ds : List D) (x : Option D), (∀ d ∈ ds, ∃ j : Int, d = .int j ∧ 0 ≤ j ∧ j < bs.length) → ∃ y, loopF (.nm 9) inE4 ds [p0, p1, some (paL bs), p3, p4, p5, some (bkL bs), p7, some (.int i), x] = .ok (.next, [p0, p1, some (paL bs), p3, p4, p5, some (bkL bs), p7, some (.int i), y])
  | [], x, _ => ⟨x, by simp [e_lp0]⟩
  | d :: ds, x, h => by
    obtain ⟨y, hy⟩ := in4_loop hb hbm h1 h2 p0 p1 p3 p4 p5 p7 ds (some d) fun z hz => h z (List.mem_cons_of_mem _ hz)
    obtain ⟨j, rfl, j0, j1⟩ := h d List.mem_cons_self
    obtain ⟨c, hc, g1, g2⟩ := ix_two j0 j1
    have hcm := s_is_compared (hb b hbm) (hb c hc)
    have q1 : frzQ (bkD false b) = bkD false b := frzQ_fz (fz_bkF b)
    have q2 : frzQ (parD b) = parD b := frzQ_fz (fz_par b)
    have q3 : frzQ (bkD false c) = bkD false c := frzQ_fz (fz_bkF c)
    have q4 : frzQ (parD c) = parD c := frzQ_fz (fz_par c)
    refine ⟨y, ?_⟩
    rw [e_lp]
    simp only [inE4] at hy ⊢
    generalize bkL bs = BL at *
    generalize paL bs = PL at *
    generalize bkD false b = B at *
    generalize bkD false c = C at *
    generalize parD b = P at *
    generalize parD c = R at *
    simp (implicitDefEqProofs := false) [ownVars, putBack, h1, h2, g1, g2, q1, q2, q3, q4, hcm]
    exact hy
theorem mn_loop {bs : List Bk} (hb : ∀ b ∈ bs, okBk b) (l2 : 2 ≤ bs.length) (l11 : bs.length ≤ 100) (cells : List Int) (p0 p3 p4 p5 : Option D) : ∀ (ds : List D) (a b c : Int) (x8 x9 : Option D), (∀ d ∈ ds, ∃ j : Int, d = .int j ∧ 0 ≤ j ∧ j < bs.length) → ∃ (a' b' c' : Int) (y8 y9 : Option D), loopF (.nm 8) mnE ds [p0, some (dk cells a b c), some (paL bs), p3, p4, p5, some (bkL bs), none, x8, x9] = .ok (.next, [p0, some (dk cells a' b' c'), some (paL bs), p3, p4, p5, some (bkL bs), none, y8, y9])
  | [], a, b, c, x8, x9, _ => ⟨a, b, c, x8, x9, by simp [e_lp0]⟩
  | d :: ds, a, b, c, x8, x9, h => by
    obtain ⟨j, rfl, j0, j1⟩ := h d List.mem_cons_self
    obtain ⟨z, hz, g1, g2⟩ := ix_two j0 j1
    obtain ⟨r, a1, b1, c1, k1, k2, k3⟩ := s_law_pick cells a b c (m := (bs.length : Int)) (by omega) (Nat.lt_of_le_of_lt (Nat.log2_le_self _) (by omega))
    obtain ⟨y9, hi⟩ := in4_loop hb hz g1 g2 p0 (some (dk cells a1 b1 c1)) p3 p4 p5 none [.int 0, .int 1, .int r] x9 (fun d hd => by
      simp only [List.mem_cons, List.not_mem_nil, or_false] at hd
      rcases hd with rfl | rfl | rfl
      · exact ⟨0, rfl, by omega, by omega⟩
      · exact ⟨1, rfl, by omega, by omega⟩
      · exact ⟨r, rfl, k2, k3⟩)
    obtain ⟨a2, b2, c2, y8, y9', hy⟩ := mn_loop hb l2 l11 cells p0 p3 p4 p5 ds a1 b1 c1 (some (.int j)) y9 fun z hz => h z (List.mem_cons_of_mem _ hz)
    refine ⟨a2, b2, c2, y8, y9', ?_⟩
    have hkp := s_is_kept (hb z hz)
    have hap := s_is_apart (hb z hz)
    have q1 : frzQ (bkD false z) = bkD false z := frzQ_fz (fz_bkF z)
    have q2 : frzQ (parD z) = parD z := frzQ_fz (fz_par z)
    have hln : lenD [paL bs] = some (.int bs.length) := by simp [paL]
    have hnb : fz (paL bs) = true := by simp [paL, fz_pars]
    have zl : fzL [.int 0, .int 1, .int r] = true := by simp [fzL]
    have hfl := frz_lstt zl
    have hsq : seqI [.lst false [.int 0, .int 1, .int r]] = some [.int 0, .int 1, .int r] := by simp only [seqI, zl, if_true]
    have hkf := kFor_ok (t := .nm 9) (ms := inE4) (e := [p0, some (dk cells a1 b1 c1), some (paL bs), p3, p4, p5, some (bkL bs), none, some (.int j), x9]) zl
    rw [hi] at hkf
    rw [e_lp]
    simp (implicitDefEqProofs := false) only [inE4] at hkf
    simp only [mnE, inE4] at hy ⊢
    generalize bkL bs = BL at *
    generalize paL bs = PL at *
    generalize bkD false z = B at *
    generalize parD z = P at *
    generalize (bs.length : Int) = nn at *
    simp (implicitDefEqProofs := false) [ownVars, putBack, g1, g2, q1, q2, hkp, hap, hln, hnb, k1, hfl, sqV_ok hsq, hkf, -lenD_l]
    exact hy
end Mi
namespace Mi
open PySem PySem.Spec PyProof.Rows L2
/- the comprehension that makes the books -/
def mkF : D → D
  | .tup [.int w, t, x] => .ins true "Book" ["world", "tables", "demands"] [.int w, t, x]
  | d => d
theorem mkF_par (b : Bk) : mkF (parD b) = bkD true b := rfl
theorem frz_bk (b : Bk) : frzQ (bkD true b) = bkD false b := by
  have h3 : fz (bkD true b) = false := fz_bk _
  have zt : fz (tabsD b.ts) = true := by rw [tabsD, fz, fz_tabs]
  have zd : fz (.tup (b.ds.map dmdD)) = true := by rw [fz, fz_dmds]
  unfold frzQ
  rw [if_neg (by rw [h3]; decide)]
  simp only [bkD, frz, frzL, frz_fz _ zt, frz_fz _ zd]
  have := frz_fz _ zd
  simp only [frz] at this
  rw [this]
theorem mk_lc {bs : List Bk} (hb : ∀ b ∈ bs, okBk b) (hl : bs.length ≤ 100) (p0 p1 p3 p4 p5 p6 p8 p9 : Option D) : kLc (.nm 7) mYes (mMake "Book" g_Book__init (mArgs [mFrz (mBin ixD (mVarA 7) (mFrz (mC (.int 0)))), mFrz (mBin ixD (mVarA 7) (mFrz (mC (.int 1)))), mFrz (mBin ixD (mVarA 7) (mFrz (mC (.int 2))))])) [7] (bs.map parD, [p0, p1, some (.lst false (bs.map parD)), p3, p4, p5, p6, none, p8, p9]) = .ok (bkL bs, [p0, p1, some (.lst false (bs.map parD)), p3, p4, p5, p6, none, p8, p9]) := by
  have e1 := lc_pure (k := 7) (elt := mMake "Book" g_Book__init (mArgs [mFrz (mBin ixD (mVarA 7) (mFrz (mC (.int 0)))), mFrz (mBin ixD (mVarA 7) (mFrz (mC (.int 1)))), mFrz (mBin ixD (mVarA 7) (mFrz (mC (.int 2))))])) mkF (e := [p0, p1, some (.lst false (bs.map parD)), p3, p4, p5, p6, none, p8, p9]) (ds := bs.map parD) (fz_pars bs) (by rw [List.length_map]; omega) (fun d hd => by
    obtain ⟨b, hbm, rfl⟩ := List.mem_map.mp hd
    have hk := hb b hbm
    have hB := s_Book hk
    have zt1 : fz (tabsD b.ts) = true := by rw [tabsD, fz, fz_tabs]
    have zd1 : fz (.tup (b.ds.map dmdD)) = true := by rw [fz, fz_dmds]
    have zl : fzL [.int b.w, tabsD b.ts, .tup (b.ds.map dmdD)] = true := by simp only [fzL, zt1, zd1]; rfl
    have i0 : ixD (parD b) (.int 0) = some (.int b.w) := by
      have := ix_tup zl (i := 0) (by simp)
      exact this
    have i1 : ixD (parD b) (.int 1) = some (tabsD b.ts) := by
      have := ix_tup zl (i := 1) (by simp)
      exact this
    have i2 : ixD (parD b) (.int 2) = some (.tup (b.ds.map dmdD)) := by
      have := ix_tup zl (i := 2) (by simp)
      exact this
    have q1 : frzQ (tabsD b.ts) = tabsD b.ts := frzQ_fz zt1
    have q2 : frzQ (.tup (b.ds.map dmdD)) = .tup (b.ds.map dmdD) := frzQ_fz zd1
    have ni : ∀ c, fz (.ins true c [] []) = false := fun c => by rw [fz]; rfl
    have zx : fzL (b.ds.map dmdD) = true := fz_dmds b.ds
    have n1 : fz (bkD true b) = false := fz_bk b
    rw [mkF_par]
    generalize bkD true b = BT at *
    generalize parD b = P at *
    generalize tabsD b.ts = T1 at *
    generalize b.ds.map dmdD = X1 at *
    generalize bs.map parD = PS at *
    simp (implicitDefEqProofs := false) [ownVars, putBack, i0, i1, i2, q1, q2, hB, mkV2, ni, zt1, zx])
  rw [e1]
  refine congrArg Res.ok (Prod.ext ?_ (by simp [restV]))
  refine congrArg (D.lst true) ?_
  rw [List.map_map]
  exact List.map_congr_left fun b _ => by simp only [Function.comp, mkF_par, frz_bk]
theorem rng_mem {n : Int} {d : D} (h : d ∈ rngD 0 n.toNat) : ∃ j : Int, d = .int j ∧ 0 ≤ j ∧ j < n := by
  obtain ⟨j, hj, rfl⟩ := List.mem_map.mp h
  have := List.mem_range.mp hj
  exact ⟨0 + (j : Int), rfl, by omega, by omega⟩
theorem law_true (ns : List Int) (hl : ns.length ≤ 63) (hb : ∀ z ∈ ns, PySem.Builtin.Int.intBits z ≤ 1048576) : ∃ outs, g_law [.scr ns] = .ok (.bl true, outs) := by
  obtain ⟨cells, d1⟩ := s_law_deck hl
  obtain ⟨z0, a1, b1, c1, y4, y5, t0, g0⟩ := wl_turn cells 0 0 0 [] (by simp) (some (.scr ns)) (some (.int 0)) none none none none none none
  obtain ⟨z1, a2, b2, c2, y4', y5', t1, g1⟩ := wl_turn cells a1 b1 c1 [z0] (by simp) (some (.scr ns)) (some (.int 1)) y4 y5 none none none none
  obtain ⟨bs, a3, b3, c3, o1, o2, o3⟩ := s_law_others g0.1 g0.2.1 g0.2.2.1 g0.2.2.2 cells a2 b2 c2
  simp only [List.map_nil, List.nil_append, List.cons_append, List.map_cons] at t0 t1
  have hall : ∀ b ∈ [z0, z1] ++ bs, okBk b := fun b hb => by
    rcases List.mem_append.mp hb with hb | hb
    · simp only [List.mem_cons, List.not_mem_nil, or_false] at hb
      rcases hb with rfl | rfl
      · exact g0.1
      · exact g1.1
    · exact o2 b hb
  have hadd : addD (.lst true [parD z0, parD z1]) (.lst false (bs.map parD)) = some (.lst true (([z0, z1] ++ bs).map parD)) := by
    have : 2 + bs.length ≤ 16777216 := by omega
    have h2 := fz_pars bs
    have h3 := fz_par z0
    have h4 := fz_par z1
    have h5 : fzL [parD z0, parD z1] = true := by simp only [fzL, h3, h4]; rfl
    simp only [addD, h5, h2, szl, List.length_cons, List.length_nil, List.length_map]
    rw [if_pos (by simpa using this)]
    rfl
  have hi0 : ixD (.lst true [parD z0, parD z1]) (.int 0) = some (parD z0) := by
    have h3 := fz_par z0
    simp [ixD, atI, ixN, pick, h3]
  have q0 : frzQ (parD z0) = parD z0 := frzQ_fz (fz_par z0)
  have hfo := frz_lstt (fz_pars bs)
  have zo := fz_pars bs
  have hlen : ([z0, z1] ++ bs).length = 2 + bs.length := by simp; omega
  generalize hBS : [z0, z1] ++ bs = BS at *
  have l2 : 2 ≤ BS.length := by omega
  have l100 : BS.length ≤ 100 := by omega
  have e1 := mk_lc hall l100 (some (.scr ns)) (some (dk cells a3 b3 c3)) (some (.int 1)) y4' y5' none none none
  have hrn0 : ∀ n : Int, 0 ≤ n → n ≤ 1000 → rng1 [.int n] = some (rngD 0 n.toNat) := fun n h0 h => by
    show (if _ then _ else _) = _
    rw [if_pos (by omega)]
  have hrn := hrn0 (BS.length : Int) (by omega) (by omega)
  have hzr : fzL (rngD 0 (BS.length : Int).toNat) = true := fzL_map _ (fun _ => by simp) _
  have hrl : (rngD 0 (BS.length : Int).toNat).length ≤ 1000 := by simp [rngD]; omega
  obtain ⟨a4, b4, c4, y8, y9, hm⟩ := mn_loop hall l2 l100 cells (some (.scr ns)) (some (.int 1)) y4' y5' (rngD 0 (BS.length : Int).toNat) a3 b3 c3 none none (fun d hd => rng_mem hd)
  have hkf := kFor_ok (t := .nm 8) (ms := mnE) (e := [some (.scr ns), some (dk cells a3 b3 c3), some (paL BS), some (.int 1), y4', y5', some (bkL BS), none, none, none]) hzr
  rw [hm] at hkf
  simp (implicitDefEqProofs := false) only [mnE, inE4] at hkf
  have e2 := lc_pure (k := 8) (elt := mCall g__law_is_kept (mArgs [mFrz (mBin ixD (mVarA 6) (mVarA 8)), mFrz (mBin ixD (mVarA 2) (mVarA 8))])) (fun _ => .bl true) (e := [some (.scr ns), some (dk cells a4 b4 c4), some (paL BS), some (.int 1), y4', y5', some (bkL BS), none, y8, y9]) (ds := rngD 0 (BS.length : Int).toNat) hzr hrl (fun d hd => by
    obtain ⟨j, rfl, j0, j1⟩ := rng_mem hd
    obtain ⟨z, hz, g1, g2⟩ := ix_two j0 j1
    have hkp := s_is_kept (hall z hz)
    have q1 : frzQ (bkD false z) = bkD false z := frzQ_fz (fz_bkF z)
    have q2 : frzQ (parD z) = parD z := frzQ_fz (fz_par z)
    generalize bkL BS = BL at *
    generalize paL BS = PL at *
    generalize bkD false z = B at *
    generalize parD z = P at *
    simp (implicitDefEqProofs := false) [ownVars, putBack, g1, g2, q1, q2, hkp])
  have e3 : ((rngD 0 (BS.length : Int).toNat).map fun d => frzQ ((fun _ => D.bl true) d)) = (rngD 0 (BS.length : Int).toNat).map fun _ => .bl true := List.map_congr_left fun x _ => by simp
  rw [e3] at e2
  have ha : allD [.lst false ((rngD 0 (BS.length : Int).toNat).map fun _ => D.bl true)] = some (.bl true) := allD_true fun d hd => by
    obtain ⟨_, _, rfl⟩ := List.mem_map.mp hd; rfl
  have hfl : fzL ((rngD 0 (BS.length : Int).toNat).map fun _ => D.bl true) = true := fzL_map _ (fun _ => by simp) _
  have hfa := frz_lstt hfl
  have hln : lenD [paL BS] = some (.int BS.length) := by simp [paL]
  have hr2 : rng1 [.int 2] = some [.int 0, .int 1] := by
    have e : rngD 0 2 = [.int 0, .int 1] := by simp [rngD, List.range, List.range.loop]
    rw [← e]
    simp only [rng1]
    rw [if_pos (by decide)]
    rfl
  have z2 : fzL [.int 0, .int 1] = true := by simp [fzL]
  have hkf2 := kFor_ok (t := .nm 3) (ms := wlE) (e := [some (.scr ns), some (dk cells 0 0 0), some (.lst true []), none, none, none, none, none, none, none]) z2
  have hlp : loopF (.nm 3) wlE [.int 0, .int 1] [some (.scr ns), some (dk cells 0 0 0), some (.lst true []), none, none, none, none, none, none, none] = .ok (.next, [some (.scr ns), some (dk cells a2 b2 c2), some (.lst true [parD z0, parD z1]), some (.int 1), y4', y5', none, none, none, none]) := by
    rw [e_lp]
    simp only [lpV, tg_nm, List.set_cons_succ, List.set_cons_zero]
    rw [t0]
    simp only [bind_ok, kLp]
    rw [e_lp]
    simp only [lpV, tg_nm, List.set_cons_succ, List.set_cons_zero]
    rw [t1]
    simp only [bind_ok, kLp, e_lp0]
  rw [hlp] at hkf2
  simp (implicitDefEqProofs := false) only [wlE] at hkf2
  have hpz : fzL (BS.map parD) = true := fz_pars BS
  have hsq : seqI [.lst false (BS.map parD)] = some (BS.map parD) := by simp only [seqI, hpz, if_true]
  have hpl : (.lst false (BS.map parD) : D) = paL BS := rfl
  have hvE : ∀ env, vE 2 env (some (some (.lst true (BS.map parD)))) = .ok (.lst false (BS.map parD), env.set 2 (some (.lst false (BS.map parD)))) := fun env => vE_own 2 env hpz
  have hzp : fz (.lst false (BS.map parD)) = true := by rw [fz, hpz]; rfl
  have hqz : frzQ (.lst false (BS.map parD)) = .lst false (BS.map parD) := frzQ_fz hzp
  rw [← hpl] at hkf e2 hln
  have hlaw : ∃ e, m_law [some (.scr ns), none, none, none, none, none, none, none, none, none] = .ok (.ret (.bl true), some (.scr ns) :: e) := by
    refine ⟨[some (dk cells a4 b4 c4), some (.lst false (BS.map parD)), some (.int 1), y4', y5', some (bkL BS), none, restV [none, none, none, none, none, none, none, none, y8] 8, y9], ?_⟩
    generalize ((rngD 0 (BS.length : Int).toNat).map fun _ => D.bl true) = TR at *
    generalize rngD 0 (BS.length : Int).toNat = RR at *
    generalize (BS.length : Int) = nn at *
    generalize bkL BS = BL at *
    generalize BS.map parD = PS at *
    generalize bs.map parD = OS at *
    generalize parD z0 = P0 at *
    generalize parD z1 = P1 at *
    simp (implicitDefEqProofs := false) [m_law, ownVars, putBack, d1, rV_ok hr2, hkf2, hi0, q0, o1, hfo, hadd, hvE, sqV_ok hsq, hqz, hzp, e1, hln, rV_ok hrn, hkf, e2, restV, hfa, ha, -lenD_l]
  obtain ⟨e, he⟩ := hlaw
  refine ⟨[some (.scr ns)], ?_⟩
  simp (implicitDefEqProofs := false) [g_law, runD, ownOk, outsD, List.range, List.range.loop, he]
end Mi
namespace Mi
open PySem PySem.Spec PyProof.Rows L2
def top (i : Nat) : Stmt := PySem.Challenge.pw_elderalike_k04_books_kept_and_compared.main.body.getD i (.Pass ⟨0, 0, 0, 0⟩)
theorem sw_cell {elt : Expr} {gs : List Comprehension} {scope : Scope} {pos py : Pos} {y : Str} {l : Nat} {env : Env} (hy : env.scope.names.lookup y = some .cell) : swapsWith (.ListComp elt gs scope pos) (some (.Name y py)) l env = pure false := by
  have ky : env.kindOf y = some .cell := hy
  have e : (NameKind.cell == NameKind.local) = false := by decide
  unfold swapsWith
  simp [ky, e]
structure Txt (C : KM) : Prop where
  n_abs : C.mg "abs" = none
  n_all : C.mg "all" = none
  n_bool : C.mg "bool" = none
  n_dict : C.mg "dict" = none
  n_int : C.mg "int" = none
  n_isinstance : C.mg "isinstance" = none
  n_len : C.mg "len" = none
  n_list : C.mg "list" = none
  n_range : C.mg "range" = none
  n_sorted : C.mg "sorted" = none
  n_str : C.mg "str" = none
  n_tuple : C.mg "tuple" = none
  c_FRACTIONS : ∃ t, C.mg "FRACTIONS" = some (.int 1 t)
  c_GREAT : ∃ t, C.mg "GREAT" = some (.str "ABCDEFGHIJKLMNOPQRSTUVWXYZ" t)
  c_LETTERS : ∃ t, C.mg "LETTERS" = some (.str "abcd" t)
  c_MOST_DEMANDS : ∃ t, C.mg "MOST_DEMANDS" = some (.int 6 t)
  c_MOST_FACTOR : ∃ t, C.mg "MOST_FACTOR" = some (.int 99 t)
  c_MOST_HOURS : ∃ t, C.mg "MOST_HOURS" = some (.int 1000 t)
  c_MOST_NAMES : ∃ t, C.mg "MOST_NAMES" = some (.int 3 t)
  c_MOST_RIGHT : ∃ t, C.mg "MOST_RIGHT" = some (.int 999 t)
  c_MOST_SIGNS : ∃ t, C.mg "MOST_SIGNS" = some (.int 8 t)
  c_MOST_SIZE : ∃ t, C.mg "MOST_SIZE" = some (.int 3 t)
  c_MOST_TABLES : ∃ t, C.mg "MOST_TABLES" = some (.int 4 t)
  c_MOST_TERMS : ∃ t, C.mg "MOST_TERMS" = some (.int 8 t)
  c_SMALL : ∃ t, C.mg "SMALL" = some (.str "abcdefghijklmnopqrstuvwxyz" t)
  c_WHOLE : ∃ t, C.mg "WHOLE" = some (.int 0 t)
  f_book : ∀ c ∈ cs_book, FldOk C c "book"
  f_demands : ∀ c ∈ cs_demands, FldOk C c "demands"
  f_kept : ∀ c ∈ cs_kept, FldOk C c "kept"
  f_names : ∀ c ∈ cs_names, FldOk C c "names"
  f_tables : ∀ c ∈ cs_tables, FldOk C c "tables"
  f_world : ∀ c ∈ cs_world, FldOk C c "world"
  i_Book : IsCls C clsl "Book"
  i_Party : IsCls C clsl "Party"
theorem sc__law_deck : FnScope ["_law_script", "_law_cell"] ["_law_script"] (defScope (top 43)) := ⟨rfl, rfl, rfl, by decide +kernel, rfl, by decide +kernel, by decide +kernel⟩
theorem b__law_deck {C : KM} (T : Txt C)  (base : Heap) (f : Addr) (cdv : Value) (A : Around) (outer : List Env) (s : Shared) (H : Hp) (E : XK) (vs : List V) (W : WX) (g : Go (CxD C base ["_law_script", "_law_cell"] "_law_deck" (defScope (top 43)) f cdv A outer s H E) ⟨C, vs, [0]⟩ W 0) : PSs (CxD C base ["_law_script", "_law_cell"] "_law_deck" (defScope (top 43)) f cdv A outer s H E) (defBody (top 43)) (tS ⟨C, vs, [0]⟩ W m__law_deck) :=
  (rs_one (rs_ret (r_lst (r_cons (r_frz (r_lc g [("_law_cell", 1)] (.nm 1) (show (1 : Nat) ∉ [0] by decide) (show ∀ i ∈ [0], i ∉ [1] by decide) (show (1 : Nat) ∈ [1] by decide) (ri_val g.toSt0 (r_frz (r_sl g.toSt0 (r_varA 0 rfl (by first | exact .inl rfl | exact .inr (.inl rfl) | exact .inr (.inr rfl))) r_noP (r_part r_int)))) (blkOk_by (N := ["_law_script", "_law_cell"]) (sc := defScope (top 43)) (by decide +kernel)) (fun _ _ _ _ _ => (rg_nm (g.blk ..).toSt0 1 rfl (by first | exact .inl rfl | exact .inr rfl))) (fun _ _ _ _ _ g => rts_nil) (fun _ _ _ _ _ g => (r_cty g.toSt0 (call_intD) T.n_int (by rfl) rfl (r_cons (r_varA 1 rfl (by first | exact .inl rfl | exact .inr (.inl rfl) | exact .inr (.inr rfl))) r_nil))))) (r_cons (r_frz r_int) (r_cons (r_frz r_int) (r_cons (r_frz r_int) r_nil)))))))
theorem sc__law_pick : FnScope ["_law_deck_here", "_law_many", "_law_found", "_law_cells", "_law_cell", "_law_number"] ["_law_deck_here", "_law_many"] (defScope (top 44)) := ⟨rfl, rfl, rfl, by decide +kernel, rfl, by decide +kernel, by decide +kernel⟩
theorem b__law_pick {C : KM} (T : Txt C)  (base : Heap) (f : Addr) (cdv : Value) (A : Around) (outer : List Env) (s : Shared) (H : Hp) (E : XK) (vs : List V) (W : WX) (g : Go (CxD C base ["_law_deck_here", "_law_many", "_law_found", "_law_cells", "_law_cell", "_law_number"] "_law_pick" (defScope (top 44)) f cdv A outer s H E) ⟨C, vs, [0, 1]⟩ W 0) : PSs (CxD C base ["_law_deck_here", "_law_many", "_law_found", "_law_cells", "_law_cell", "_law_number"] "_law_pick" (defScope (top 44)) f cdv A outer s H E) (defBody (top 44)) (tS ⟨C, vs, [0, 1]⟩ W m__law_pick) :=
  (rs_cons (rs_putX g.toSt0 0 rfl (by first | exact .inl rfl | exact .inr (.inl rfl) | exact .inr (.inr rfl)) r_int (r_bin g.toSt0 rfl (r_frz (r_ix g.toSt0 (r_varA 0 rfl (by first | exact .inl rfl | exact .inr (.inl rfl) | exact .inr (.inr rfl))) (r_frz r_int))) (r_frz r_int)))
  (rs_cons (rs_if (rt_cmp g.toSt0 rfl (r_frz (r_ix g.toSt0 (r_varA 0 rfl (by first | exact .inl rfl | exact .inr (.inl rfl) | exact .inr (.inr rfl))) (r_frz r_int))) (r_frz r_int)) (rs_cons (rs_set g.toSt0 2 (show (2 : Nat) ∉ [0, 1] by decide) rfl (by first | exact .inl rfl | exact .inr rfl) (r_bin g.toSt0 rfl (r_frz (r_cty g.toSt0 (call_intD) T.n_int (by rfl) rfl (r_cons (r_frz (r_ix g.toSt0 (r_varA 0 rfl (by first | exact .inl rfl | exact .inr (.inl rfl) | exact .inr (.inr rfl))) (r_frz r_int))) r_nil))) (r_varA 1 rfl (by first | exact .inl rfl | exact .inr (.inl rfl) | exact .inr (.inr rfl)))))
  (rs_cons (rs_putX g.toSt0 0 rfl (by first | exact .inl rfl | exact .inr (.inl rfl) | exact .inr (.inr rfl)) r_int (r_bin g.toSt0 rfl (r_frz (r_cty g.toSt0 (call_intD) T.n_int (by rfl) rfl (r_cons (r_frz (r_ix g.toSt0 (r_varA 0 rfl (by first | exact .inl rfl | exact .inr (.inl rfl) | exact .inr (.inr rfl))) (r_frz r_int))) r_nil))) (r_varA 1 rfl (by first | exact .inl rfl | exact .inr (.inl rfl) | exact .inr (.inr rfl)))))
  (rs_one (rs_ret (r_varM 2 2 rfl (by first | exact .inl rfl | exact .inr (.inl rfl) | exact .inr (.inr rfl))))))) rs_nil)
  (rs_cons (rs_set g.toSt0 3 (show (3 : Nat) ∉ [0, 1] by decide) rfl (by first | exact .inl rfl | exact .inr rfl) (r_ix g.toSt0 (r_varA 0 rfl (by first | exact .inl rfl | exact .inr (.inl rfl) | exact .inr (.inr rfl))) (r_frz r_int)))
  (rs_cons (rs_set g.toSt0 4 (show (4 : Nat) ∉ [0, 1] by decide) rfl (by first | exact .inl rfl | exact .inr rfl) r_int)
  (rs_cons (rs_if (rt_cmp g.toSt0 rfl (r_frz (r_cb g.toSt0 (call_lenDD g.k.symm) T.n_len (by rfl) rfl (r_cons (r_varA 3 rfl (by first | exact .inl rfl | exact .inr (.inl rfl) | exact .inr (.inr rfl))) r_nil))) (r_frz r_int)) (rs_one (rs_set g.toSt0 4 (show (4 : Nat) ∉ [0, 1] by decide) rfl (by first | exact .inl rfl | exact .inr rfl) (r_ix g.toSt0 (r_varA 3 rfl (by first | exact .inl rfl | exact .inr (.inl rfl) | exact .inr (.inr rfl))) (r_frz (r_bin g.toSt0 rfl (r_frz (r_cty g.toSt0 (call_intD) T.n_int (by rfl) rfl (r_cons (r_frz (r_ix g.toSt0 (r_varA 0 rfl (by first | exact .inl rfl | exact .inr (.inl rfl) | exact .inr (.inr rfl))) (r_frz r_int))) r_nil))) (r_frz (r_cb g.toSt0 (call_lenDD g.k.symm) T.n_len (by rfl) rfl (r_cons (r_varA 3 rfl (by first | exact .inl rfl | exact .inr (.inl rfl) | exact .inr (.inr rfl))) r_nil)))))))) rs_nil)
  (rs_cons (rs_putX g.toSt0 0 rfl (by first | exact .inl rfl | exact .inr (.inl rfl) | exact .inr (.inr rfl)) r_int (r_bin g.toSt0 rfl (r_frz (r_ix g.toSt0 (r_varA 0 rfl (by first | exact .inl rfl | exact .inr (.inl rfl) | exact .inr (.inr rfl))) (r_frz r_int))) (r_frz r_int)))
  (rs_cons (rs_if (PW.pt (rt_and (rt_cmp g.toSt0 rfl (r_varA 4 rfl (by first | exact .inl rfl | exact .inr (.inl rfl) | exact .inr (.inr rfl))) (r_frz (r_bin g.toSt0 rfl (r_frz r_int) (r_frz r_int)))) (rt_and1 (rt_cmp g.toSt0 rfl (r_frz (r_ix g.toSt0 (r_varA 0 rfl (by first | exact .inl rfl | exact .inr (.inl rfl) | exact .inr (.inr rfl))) (r_frz r_int))) (r_frz (r_cb g.toSt0 (call_lenDD g.k.symm) T.n_len (by rfl) rfl (r_cons (r_varA 3 rfl (by first | exact .inl rfl | exact .inr (.inl rfl) | exact .inr (.inr rfl))) r_nil))))))) (rs_cons (rs_putX g.toSt0 0 rfl (by first | exact .inl rfl | exact .inr (.inl rfl) | exact .inr (.inr rfl)) r_int (r_bin g.toSt0 rfl (r_frz (r_cty g.toSt0 (call_intD) T.n_int (by rfl) rfl (r_cons (r_varA 4 rfl (by first | exact .inl rfl | exact .inr (.inl rfl) | exact .inr (.inr rfl))) r_nil))) (r_varA 1 rfl (by first | exact .inl rfl | exact .inr (.inl rfl) | exact .inr (.inr rfl)))))
  (rs_one (rs_ret (r_bin g.toSt0 rfl (r_frz (r_cty g.toSt0 (call_intD) T.n_int (by rfl) rfl (r_cons (r_varA 4 rfl (by first | exact .inl rfl | exact .inr (.inl rfl) | exact .inr (.inr rfl))) r_nil))) (r_varA 1 rfl (by first | exact .inl rfl | exact .inr (.inl rfl) | exact .inr (.inr rfl))))))) rs_nil)
  (rs_cons (rs_set g.toSt0 5 (show (5 : Nat) ∉ [0, 1] by decide) rfl (by first | exact .inl rfl | exact .inr rfl) (r_bin g.toSt0 rfl (r_frz (r_bin g.toSt0 rfl (r_frz (r_cty g.toSt0 (call_intD) T.n_int (by rfl) rfl (r_cons (r_frz (r_bin g.toSt0 rfl (r_frz (r_bin g.toSt0 rfl (r_varA 4 rfl (by first | exact .inl rfl | exact .inr (.inl rfl) | exact .inr (.inr rfl))) (r_frz (r_bin g.toSt0 rfl (r_frz r_int) (r_frz (r_ix g.toSt0 (r_varA 0 rfl (by first | exact .inl rfl | exact .inr (.inl rfl) | exact .inr (.inr rfl))) (r_frz r_int))))))) (r_frz r_int))) r_nil))) (r_frz r_int))) (r_frz r_int)))
  (rs_cons (rs_set g.toSt0 5 (show (5 : Nat) ∉ [0, 1] by decide) rfl (by first | exact .inl rfl | exact .inr rfl) (r_bin g.toSt0 rfl (r_frz (r_bin g.toSt0 rfl (r_varA 5 rfl (by first | exact .inl rfl | exact .inr (.inl rfl) | exact .inr (.inr rfl))) (r_frz (r_bin g.toSt0 rfl (r_frz (r_bin g.toSt0 rfl (r_varA 5 rfl (by first | exact .inl rfl | exact .inr (.inl rfl) | exact .inr (.inr rfl))) (r_frz r_int))) (r_frz r_int))))) (r_frz r_int)))
  (rs_cons (rs_set g.toSt0 5 (show (5 : Nat) ∉ [0, 1] by decide) rfl (by first | exact .inl rfl | exact .inr rfl) (r_bin g.toSt0 rfl (r_frz (r_bin g.toSt0 rfl (r_varA 5 rfl (by first | exact .inl rfl | exact .inr (.inl rfl) | exact .inr (.inr rfl))) (r_frz (r_bin g.toSt0 rfl (r_frz (r_bin g.toSt0 rfl (r_varA 5 rfl (by first | exact .inl rfl | exact .inr (.inl rfl) | exact .inr (.inr rfl))) (r_frz r_int))) (r_frz r_int))))) (r_frz r_int)))
  (rs_one (rs_ret (r_bin g.toSt0 rfl (r_varA 5 rfl (by first | exact .inl rfl | exact .inr (.inl rfl) | exact .inr (.inr rfl))) (r_varA 1 rfl (by first | exact .inl rfl | exact .inr (.inl rfl) | exact .inr (.inr rfl))))))))))))))))
theorem sc__law_tables : FnScope ["_law_deck_here", "_law_known", "_law_turn", "_law_label"] ["_law_deck_here"] (defScope (top 45)) := ⟨rfl, rfl, rfl, by decide +kernel, rfl, by decide +kernel, by decide +kernel⟩
theorem b__law_tables {C : KM} (T : Txt C) (F__law_pick : Fn C 1 "_law_pick" g__law_pick) (base : Heap) (f : Addr) (cdv : Value) (A : Around) (outer : List Env) (s : Shared) (H : Hp) (E : XK) (vs : List V) (W : WX) (g : Go (CxD C base ["_law_deck_here", "_law_known", "_law_turn", "_law_label"] "_law_tables" (defScope (top 45)) f cdv A outer s H E) ⟨C, vs, [0]⟩ W 1) : PSs (CxD C base ["_law_deck_here", "_law_known", "_law_turn", "_law_label"] "_law_tables" (defScope (top 45)) f cdv A outer s H E) (defBody (top 45)) (tS ⟨C, vs, [0]⟩ W m__law_tables) :=
  (rs_cons (rs_set g.toSt0 1 (show (1 : Nat) ∉ [0] by decide) rfl (by first | exact .inl rfl | exact .inr rfl) r_dic0)
  (rs_cons (rs_for g (.nm 2) (show (2 : Nat) ∉ [0] by decide) (ri_rng1 g.toSt0 T.n_range rfl (r_cons (r_frz (r_bin g.toSt0 rfl (r_frz r_int) (r_frz (r_call g F__law_pick (by decide) rfl (r_cons (r_varA 0 rfl (by first | exact .inl rfl | exact .inr (.inl rfl) | exact .inr (.inr rfl))) (r_cons (r_frz r_int) r_nil)))))) r_nil)) (rg_nm g.toSt0 2 rfl (by first | exact .inl rfl | exact .inr rfl)) (rs_one (rs_putX g.toSt0 1 rfl (by first | exact .inl rfl | exact .inr (.inl rfl) | exact .inr (.inr rfl)) (r_mulS g.toSt0 (r_frz (r_ix g.toSt0 (r_frz r_str) (r_frz (r_call g F__law_pick (by decide) rfl (r_cons (r_varA 0 rfl (by first | exact .inl rfl | exact .inr (.inl rfl) | exact .inr (.inr rfl))) (r_cons (r_frz r_int) r_nil)))))) (r_frz (r_bin g.toSt0 rfl (r_frz r_int) (r_frz (r_call g F__law_pick (by decide) rfl (r_cons (r_varA 0 rfl (by first | exact .inl rfl | exact .inr (.inl rfl) | exact .inr (.inr rfl))) (r_cons (r_frz r_int) r_nil))))))) (r_call g F__law_pick (by decide) rfl (r_cons (r_varA 0 rfl (by first | exact .inl rfl | exact .inr (.inl rfl) | exact .inr (.inr rfl))) (r_cons (r_frz r_int) r_nil))))))
  (rs_one (rs_ret (r_cty g.toSt0 (call_tupleD g.k.symm) T.n_tuple (by rfl) rfl (r_cons (r_frz (r_lc g [("_law_label", 3)] (.nm 3) (show (3 : Nat) ∉ [0] by decide) (show ∀ i ∈ [0], i ∉ [3] by decide) (show (3 : Nat) ∈ [3] by decide) (ri_val g.toSt0 (r_frz (r_cb g.toSt0 (call_sortX g.k.symm) T.n_sorted (by rfl) rfl (r_cons (r_frz (r_cty g.toSt0 (call_listY g.k.symm g.cm) T.n_list (by rfl) rfl (r_cons (r_varA 1 rfl (by first | exact .inl rfl | exact .inr (.inl rfl) | exact .inr (.inr rfl))) r_nil))) r_nil)))) (blkOk_by (N := ["_law_deck_here", "_law_known", "_law_turn", "_law_label"]) (sc := defScope (top 45)) (by decide +kernel)) (fun _ _ _ _ _ => (rg_nm (g.blk ..).toSt0 3 rfl (by first | exact .inl rfl | exact .inr rfl))) (fun _ _ _ _ _ g => rts_nil) (fun _ _ _ _ _ g => (r_tup (r_cons (r_frz (r_varE 3 rfl (by first | exact .inl rfl | exact .inr (.inl rfl) | exact .inr (.inr rfl)))) (r_cons (r_frz (r_ix g.toSt0 (r_varA 1 rfl (by first | exact .inl rfl | exact .inr (.inl rfl) | exact .inr (.inr rfl))) (r_varA 3 rfl (by first | exact .inl rfl | exact .inr (.inl rfl) | exact .inr (.inr rfl))))) r_nil)))))) r_nil))))))
theorem sc__law_other_factor : FnScope ["_law_deck_here", "_law_demands_here", "_law_at", "_law_terms", "_law_right", "_law_place", "_law_factor", "_law_label", "_law_letters", "_law_changed"] ["_law_deck_here", "_law_demands_here"] (defScope (top 48)) := ⟨rfl, rfl, rfl, by decide +kernel, rfl, by decide +kernel, by decide +kernel⟩
theorem b__law_other_factor {C : KM} (T : Txt C) (F__law_pick : Fn C 1 "_law_pick" g__law_pick) (base : Heap) (f : Addr) (cdv : Value) (A : Around) (outer : List Env) (s : Shared) (H : Hp) (E : XK) (vs : List V) (W : WX) (g : Go (CxD C base ["_law_deck_here", "_law_demands_here", "_law_at", "_law_terms", "_law_right", "_law_place", "_law_factor", "_law_label", "_law_letters", "_law_changed"] "_law_other_factor" (defScope (top 48)) f cdv A outer s H E) ⟨C, vs, [0, 1]⟩ W 1) : PSs (CxD C base ["_law_deck_here", "_law_demands_here", "_law_at", "_law_terms", "_law_right", "_law_place", "_law_factor", "_law_label", "_law_letters", "_law_changed"] "_law_other_factor" (defScope (top 48)) f cdv A outer s H E) (defBody (top 48)) (tS ⟨C, vs, [0, 1]⟩ W m__law_other_factor) :=
  (rs_cons (rs_set g.toSt0 2 (show (2 : Nat) ∉ [0, 1] by decide) rfl (by first | exact .inl rfl | exact .inr rfl) (r_call g F__law_pick (by decide) rfl (r_cons (r_varA 0 rfl (by first | exact .inl rfl | exact .inr (.inl rfl) | exact .inr (.inr rfl))) (r_cons (r_frz (r_cb g.toSt0 (call_lenDD g.k.symm) T.n_len (by rfl) rfl (r_cons (r_varA 1 rfl (by first | exact .inl rfl | exact .inr (.inl rfl) | exact .inr (.inr rfl))) r_nil))) r_nil))))
  (rs_cons (rs_setT (.tp [(.nm 3), (.nm 4)]) ⟨(show (3 : Nat) ∉ [0, 1] by decide), ⟨(show (4 : Nat) ∉ [0, 1] by decide), trivial⟩⟩ (r_ix g.toSt0 (r_varA 1 rfl (by first | exact .inl rfl | exact .inr (.inl rfl) | exact .inr (.inr rfl))) (r_varA 2 rfl (by first | exact .inl rfl | exact .inr (.inl rfl) | exact .inr (.inr rfl)))) (rg_tup g.toSt0 g.cm (rg_cons (rg_nm g.toSt0 3 rfl (by first | exact .inl rfl | exact .inr rfl)) (rg_cons (rg_nm g.toSt0 4 rfl (by first | exact .inl rfl | exact .inr rfl)) rg_nil))))
  (rs_cons (rs_set g.toSt0 5 (show (5 : Nat) ∉ [0, 1] by decide) rfl (by first | exact .inl rfl | exact .inr rfl) (r_call g F__law_pick (by decide) rfl (r_cons (r_varA 0 rfl (by first | exact .inl rfl | exact .inr (.inl rfl) | exact .inr (.inr rfl))) (r_cons (r_frz (r_cb g.toSt0 (call_lenDD g.k.symm) T.n_len (by rfl) rfl (r_cons (r_varA 3 rfl (by first | exact .inl rfl | exact .inr (.inl rfl) | exact .inr (.inr rfl))) r_nil))) r_nil))))
  (rs_cons (rs_setT (.tp [(.nm 6), (.nm 7), (.nm 8)]) ⟨(show (6 : Nat) ∉ [0, 1] by decide), ⟨(show (7 : Nat) ∉ [0, 1] by decide), ⟨(show (8 : Nat) ∉ [0, 1] by decide), trivial⟩⟩⟩ (r_ix g.toSt0 (r_varA 3 rfl (by first | exact .inl rfl | exact .inr (.inl rfl) | exact .inr (.inr rfl))) (r_varA 5 rfl (by first | exact .inl rfl | exact .inr (.inl rfl) | exact .inr (.inr rfl)))) (rg_tup g.toSt0 g.cm (rg_cons (rg_nm g.toSt0 6 rfl (by first | exact .inl rfl | exact .inr rfl)) (rg_cons (rg_nm g.toSt0 7 rfl (by first | exact .inl rfl | exact .inr rfl)) (rg_cons (rg_nm g.toSt0 8 rfl (by first | exact .inl rfl | exact .inr rfl)) rg_nil)))))
  (rs_cons (rs_set g.toSt0 9 (show (9 : Nat) ∉ [0, 1] by decide) rfl (by first | exact .inl rfl | exact .inr rfl) (r_bin g.toSt0 rfl (r_frz (r_bin g.toSt0 rfl (r_frz (r_sl g.toSt0 (r_varA 3 rfl (by first | exact .inl rfl | exact .inr (.inl rfl) | exact .inr (.inr rfl))) r_noP (r_part (r_varE 5 rfl (by first | exact .inl rfl | exact .inr (.inl rfl) | exact .inr (.inr rfl)))))) (r_frz (r_tup (r_cons (r_frz (r_tup (r_cons (r_frz (r_bin g.toSt0 rfl (r_frz (r_bin g.toSt0 rfl (r_varA 6 rfl (by first | exact .inl rfl | exact .inr (.inl rfl) | exact .inr (.inr rfl))) (r_frz r_int))) (r_frz r_int))) (r_cons (r_frz (r_varE 7 rfl (by first | exact .inl rfl | exact .inr (.inl rfl) | exact .inr (.inr rfl)))) (r_cons (r_frz (r_varE 8 rfl (by first | exact .inl rfl | exact .inr (.inl rfl) | exact .inr (.inr rfl)))) r_nil))))) r_nil))))) (r_frz (r_sl g.toSt0 (r_varA 3 rfl (by first | exact .inl rfl | exact .inr (.inl rfl) | exact .inr (.inr rfl))) (r_part (r_bin g.toSt0 rfl (r_varA 5 rfl (by first | exact .inl rfl | exact .inr (.inl rfl) | exact .inr (.inr rfl))) (r_frz r_int))) r_noP))))
  (rs_one (rs_ret (r_bin g.toSt0 rfl (r_frz (r_bin g.toSt0 rfl (r_frz (r_sl g.toSt0 (r_varA 1 rfl (by first | exact .inl rfl | exact .inr (.inl rfl) | exact .inr (.inr rfl))) r_noP (r_part (r_varE 2 rfl (by first | exact .inl rfl | exact .inr (.inl rfl) | exact .inr (.inr rfl)))))) (r_frz (r_tup (r_cons (r_frz (r_tup (r_cons (r_frz (r_varE 9 rfl (by first | exact .inl rfl | exact .inr (.inl rfl) | exact .inr (.inr rfl)))) (r_cons (r_frz (r_varE 4 rfl (by first | exact .inl rfl | exact .inr (.inl rfl) | exact .inr (.inr rfl)))) r_nil)))) r_nil))))) (r_frz (r_sl g.toSt0 (r_varA 1 rfl (by first | exact .inl rfl | exact .inr (.inl rfl) | exact .inr (.inr rfl))) (r_part (r_bin g.toSt0 rfl (r_varA 2 rfl (by first | exact .inl rfl | exact .inr (.inl rfl) | exact .inr (.inr rfl))) (r_frz r_int))) r_noP))))))))))
theorem sc__law_other_right : FnScope ["_law_deck_here", "_law_demands_here", "_law_at", "_law_terms", "_law_right"] ["_law_deck_here", "_law_demands_here"] (defScope (top 49)) := ⟨rfl, rfl, rfl, by decide +kernel, rfl, by decide +kernel, by decide +kernel⟩
theorem b__law_other_right {C : KM} (T : Txt C) (F__law_pick : Fn C 1 "_law_pick" g__law_pick) (base : Heap) (f : Addr) (cdv : Value) (A : Around) (outer : List Env) (s : Shared) (H : Hp) (E : XK) (vs : List V) (W : WX) (g : Go (CxD C base ["_law_deck_here", "_law_demands_here", "_law_at", "_law_terms", "_law_right"] "_law_other_right" (defScope (top 49)) f cdv A outer s H E) ⟨C, vs, [0, 1]⟩ W 1) : PSs (CxD C base ["_law_deck_here", "_law_demands_here", "_law_at", "_law_terms", "_law_right"] "_law_other_right" (defScope (top 49)) f cdv A outer s H E) (defBody (top 49)) (tS ⟨C, vs, [0, 1]⟩ W m__law_other_right) :=
  (rs_cons (rs_set g.toSt0 2 (show (2 : Nat) ∉ [0, 1] by decide) rfl (by first | exact .inl rfl | exact .inr rfl) (r_call g F__law_pick (by decide) rfl (r_cons (r_varA 0 rfl (by first | exact .inl rfl | exact .inr (.inl rfl) | exact .inr (.inr rfl))) (r_cons (r_frz (r_cb g.toSt0 (call_lenDD g.k.symm) T.n_len (by rfl) rfl (r_cons (r_varA 1 rfl (by first | exact .inl rfl | exact .inr (.inl rfl) | exact .inr (.inr rfl))) r_nil))) r_nil))))
  (rs_cons (rs_setT (.tp [(.nm 3), (.nm 4)]) ⟨(show (3 : Nat) ∉ [0, 1] by decide), ⟨(show (4 : Nat) ∉ [0, 1] by decide), trivial⟩⟩ (r_ix g.toSt0 (r_varA 1 rfl (by first | exact .inl rfl | exact .inr (.inl rfl) | exact .inr (.inr rfl))) (r_varA 2 rfl (by first | exact .inl rfl | exact .inr (.inl rfl) | exact .inr (.inr rfl)))) (rg_tup g.toSt0 g.cm (rg_cons (rg_nm g.toSt0 3 rfl (by first | exact .inl rfl | exact .inr rfl)) (rg_cons (rg_nm g.toSt0 4 rfl (by first | exact .inl rfl | exact .inr rfl)) rg_nil))))
  (rs_one (rs_ret (r_bin g.toSt0 rfl (r_frz (r_bin g.toSt0 rfl (r_frz (r_sl g.toSt0 (r_varA 1 rfl (by first | exact .inl rfl | exact .inr (.inl rfl) | exact .inr (.inr rfl))) r_noP (r_part (r_varE 2 rfl (by first | exact .inl rfl | exact .inr (.inl rfl) | exact .inr (.inr rfl)))))) (r_frz (r_tup (r_cons (r_frz (r_tup (r_cons (r_frz (r_varE 3 rfl (by first | exact .inl rfl | exact .inr (.inl rfl) | exact .inr (.inr rfl)))) (r_cons (r_frz (r_bin g.toSt0 rfl (r_frz (r_bin g.toSt0 rfl (r_varA 4 rfl (by first | exact .inl rfl | exact .inr (.inl rfl) | exact .inr (.inr rfl))) (r_frz r_int))) (r_frz r_int))) r_nil)))) r_nil))))) (r_frz (r_sl g.toSt0 (r_varA 1 rfl (by first | exact .inl rfl | exact .inr (.inl rfl) | exact .inr (.inr rfl))) (r_part (r_bin g.toSt0 rfl (r_varA 2 rfl (by first | exact .inl rfl | exact .inr (.inl rfl) | exact .inr (.inr rfl))) (r_frz r_int))) r_noP)))))))
theorem sc__law_others : FnScope ["_law_deck_here", "_law_parts", "_law_world", "_law_tables_here", "_law_demands_here", "_law_found", "_law_spare"] ["_law_deck_here", "_law_parts"] (defScope (top 50)) := ⟨rfl, rfl, rfl, by decide +kernel, rfl, by decide +kernel, by decide +kernel⟩
theorem b__law_others {C : KM} (T : Txt C) (F__law_pick : Fn C 1 "_law_pick" g__law_pick) (F__law_other_factor : Fn C 2 "_law_other_factor" g__law_other_factor) (F__law_other_right : Fn C 2 "_law_other_right" g__law_other_right) (base : Heap) (f : Addr) (cdv : Value) (A : Around) (outer : List Env) (s : Shared) (H : Hp) (E : XK) (vs : List V) (W : WX) (g : Go (CxD C base ["_law_deck_here", "_law_parts", "_law_world", "_law_tables_here", "_law_demands_here", "_law_found", "_law_spare"] "_law_others" (defScope (top 50)) f cdv A outer s H E) ⟨C, vs, [0, 1]⟩ W 2) : PSs (CxD C base ["_law_deck_here", "_law_parts", "_law_world", "_law_tables_here", "_law_demands_here", "_law_found", "_law_spare"] "_law_others" (defScope (top 50)) f cdv A outer s H E) (defBody (top 50)) (tS ⟨C, vs, [0, 1]⟩ W m__law_others) :=
  (rs_cons (rs_setT (.tp [(.nm 2), (.nm 3), (.nm 4)]) ⟨(show (2 : Nat) ∉ [0, 1] by decide), ⟨(show (3 : Nat) ∉ [0, 1] by decide), ⟨(show (4 : Nat) ∉ [0, 1] by decide), trivial⟩⟩⟩ (r_varE 1 rfl (by first | exact .inl rfl | exact .inr (.inl rfl) | exact .inr (.inr rfl))) (rg_tup g.toSt0 g.cm (rg_cons (rg_nm g.toSt0 2 rfl (by first | exact .inl rfl | exact .inr rfl)) (rg_cons (rg_nm g.toSt0 3 rfl (by first | exact .inl rfl | exact .inr rfl)) (rg_cons (rg_nm g.toSt0 4 rfl (by first | exact .inl rfl | exact .inr rfl)) rg_nil)))))
  (rs_cons (rs_set g.toSt0 5 (show (5 : Nat) ∉ [0, 1] by decide) rfl (by first | exact .inl rfl | exact .inr rfl) (r_lst (r_cons (r_frz (r_varE 1 rfl (by first | exact .inl rfl | exact .inr (.inl rfl) | exact .inr (.inr rfl)))) (r_cons (r_frz (r_tup (r_cons (r_frz (r_bin g.toSt0 rfl (r_frz (r_cty g.toSt0 (call_intD) T.n_int (by rfl) rfl (r_cons (r_frz (r_bin g.toSt0 rfl (r_varA 2 rfl (by first | exact .inl rfl | exact .inr (.inl rfl) | exact .inr (.inr rfl))) (r_frz r_int))) r_nil))) (r_frz r_int))) (r_cons (r_frz (r_varE 3 rfl (by first | exact .inl rfl | exact .inr (.inl rfl) | exact .inr (.inr rfl)))) (r_cons (r_frz (r_varE 4 rfl (by first | exact .inl rfl | exact .inr (.inl rfl) | exact .inr (.inr rfl)))) r_nil))))) (r_cons (r_frz (r_tup (r_cons (r_frz (r_varE 2 rfl (by first | exact .inl rfl | exact .inr (.inl rfl) | exact .inr (.inr rfl)))) (r_cons (r_frz (r_varE 3 rfl (by first | exact .inl rfl | exact .inr (.inl rfl) | exact .inr (.inr rfl)))) (r_cons (r_frz (r_revT g.toSt0 (r_varA 4 rfl (by first | exact .inl rfl | exact .inr (.inl rfl) | exact .inr (.inr rfl))))) r_nil))))) r_nil)))))
  (rs_cons (rs_expr (r_append g.toSt0 5 rfl (by first | exact .inl rfl | exact .inr (.inl rfl) | exact .inr (.inr rfl)) (r_cons (r_frz (r_tup (r_cons (r_frz (r_varE 2 rfl (by first | exact .inl rfl | exact .inr (.inl rfl) | exact .inr (.inr rfl)))) (r_cons (r_frz (r_varE 3 rfl (by first | exact .inl rfl | exact .inr (.inl rfl) | exact .inr (.inr rfl)))) (r_cons (r_frz (r_sl g.toSt0 (r_varA 4 rfl (by first | exact .inl rfl | exact .inr (.inl rfl) | exact .inr (.inr rfl))) r_noP (r_part (r_neg (r_frz r_int))))) r_nil))))) r_nil)))
  (rs_cons (rs_expr (r_append g.toSt0 5 rfl (by first | exact .inl rfl | exact .inr (.inl rfl) | exact .inr (.inr rfl)) (r_cons (r_frz (r_tup (r_cons (r_frz (r_varE 2 rfl (by first | exact .inl rfl | exact .inr (.inl rfl) | exact .inr (.inr rfl)))) (r_cons (r_frz (r_bin g.toSt0 rfl (r_varA 3 rfl (by first | exact .inl rfl | exact .inr (.inl rfl) | exact .inr (.inr rfl))) (r_frz (r_tup (r_cons (r_frz (r_tup (r_cons (r_frz r_str) (r_cons (r_frz (r_call g F__law_pick (by decide) rfl (r_cons (r_varA 0 rfl (by first | exact .inl rfl | exact .inr (.inl rfl) | exact .inr (.inr rfl))) (r_cons (r_frz r_int) r_nil)))) r_nil)))) r_nil))))) (r_cons (r_frz (r_varE 4 rfl (by first | exact .inl rfl | exact .inr (.inl rfl) | exact .inr (.inr rfl)))) r_nil))))) r_nil)))
  (rs_cons (rs_set g.toSt0 6 (show (6 : Nat) ∉ [0, 1] by decide) rfl (by first | exact .inl rfl | exact .inr rfl) (r_tup (r_cons (r_frz (r_tup (r_cons (r_frz r_str) (r_cons (r_frz r_int) r_nil)))) r_nil)))
  (rs_cons (rs_expr (r_append g.toSt0 5 rfl (by first | exact .inl rfl | exact .inr (.inl rfl) | exact .inr (.inr rfl)) (r_cons (r_frz (r_tup (r_cons (r_frz (r_varE 2 rfl (by first | exact .inl rfl | exact .inr (.inl rfl) | exact .inr (.inr rfl)))) (r_cons (r_frz (r_bin g.toSt0 rfl (r_varA 3 rfl (by first | exact .inl rfl | exact .inr (.inl rfl) | exact .inr (.inr rfl))) (r_varA 6 rfl (by first | exact .inl rfl | exact .inr (.inl rfl) | exact .inr (.inr rfl))))) (r_cons (r_frz (r_varE 4 rfl (by first | exact .inl rfl | exact .inr (.inl rfl) | exact .inr (.inr rfl)))) r_nil))))) r_nil)))
  (rs_cons (rs_if (rt_cmp g.toSt0 rfl (r_frz (r_cb g.toSt0 (call_lenDD g.k.symm) T.n_len (by rfl) rfl (r_cons (r_varA 4 rfl (by first | exact .inl rfl | exact .inr (.inl rfl) | exact .inr (.inr rfl))) r_nil))) (r_frz r_int)) (rs_cons (rs_expr (r_append g.toSt0 5 rfl (by first | exact .inl rfl | exact .inr (.inl rfl) | exact .inr (.inr rfl)) (r_cons (r_frz (r_tup (r_cons (r_frz (r_varE 2 rfl (by first | exact .inl rfl | exact .inr (.inl rfl) | exact .inr (.inr rfl)))) (r_cons (r_frz (r_varE 3 rfl (by first | exact .inl rfl | exact .inr (.inl rfl) | exact .inr (.inr rfl)))) (r_cons (r_frz (r_call g F__law_other_factor (by decide) rfl (r_cons (r_varA 0 rfl (by first | exact .inl rfl | exact .inr (.inl rfl) | exact .inr (.inr rfl))) (r_cons (r_varA 4 rfl (by first | exact .inl rfl | exact .inr (.inl rfl) | exact .inr (.inr rfl))) r_nil)))) r_nil))))) r_nil)))
  (rs_cons (rs_expr (r_append g.toSt0 5 rfl (by first | exact .inl rfl | exact .inr (.inl rfl) | exact .inr (.inr rfl)) (r_cons (r_frz (r_tup (r_cons (r_frz (r_varE 2 rfl (by first | exact .inl rfl | exact .inr (.inl rfl) | exact .inr (.inr rfl)))) (r_cons (r_frz (r_varE 3 rfl (by first | exact .inl rfl | exact .inr (.inl rfl) | exact .inr (.inr rfl)))) (r_cons (r_frz (r_call g F__law_other_right (by decide) rfl (r_cons (r_varA 0 rfl (by first | exact .inl rfl | exact .inr (.inl rfl) | exact .inr (.inr rfl))) (r_cons (r_varA 4 rfl (by first | exact .inl rfl | exact .inr (.inl rfl) | exact .inr (.inr rfl))) r_nil)))) r_nil))))) r_nil)))
  (rs_one (rs_expr (r_append g.toSt0 5 rfl (by first | exact .inl rfl | exact .inr (.inl rfl) | exact .inr (.inr rfl)) (r_cons (r_frz (r_tup (r_cons (r_frz (r_varE 2 rfl (by first | exact .inl rfl | exact .inr (.inl rfl) | exact .inr (.inr rfl)))) (r_cons (r_frz (r_varE 3 rfl (by first | exact .inl rfl | exact .inr (.inl rfl) | exact .inr (.inr rfl)))) (r_cons (r_frz (r_bin g.toSt0 rfl (r_varA 4 rfl (by first | exact .inl rfl | exact .inr (.inl rfl) | exact .inr (.inr rfl))) (r_frz (r_sl g.toSt0 (r_varA 4 rfl (by first | exact .inl rfl | exact .inr (.inl rfl) | exact .inr (.inr rfl))) r_noP (r_part r_int))))) r_nil))))) r_nil)))))) rs_nil)
  (rs_one (rs_ret (r_varM 2 5 rfl (by first | exact .inl rfl | exact .inr (.inl rfl) | exact .inr (.inr rfl))))))))))))
theorem sc_is_integer : FnScope ["thing"] ["thing"] (defScope (top 8)) := ⟨rfl, rfl, rfl, by decide +kernel, rfl, by decide +kernel, by decide +kernel⟩
theorem b_is_integer {C : KM} (T : Txt C)  (base : Heap) (f : Addr) (cdv : Value) (A : Around) (outer : List Env) (s : Shared) (H : Hp) (E : XK) (vs : List V) (W : WX) (g : Go (CxD C base ["thing"] "is_integer" (defScope (top 8)) f cdv A outer s H E) ⟨C, vs, [0]⟩ W 0) : PSs (CxD C base ["thing"] "is_integer" (defScope (top 8)) f cdv A outer s H E) (defBody (top 8)) (tS ⟨C, vs, [0]⟩ W m_is_integer) :=
  (rs_one (rs_ret (r_and (r_isi g.toSt0 .tInt (r_varA 0 rfl (by first | exact .inl rfl | exact .inr (.inl rfl) | exact .inr (.inr rfl))) T.n_isinstance T.n_int rfl rfl (by rfl) (by rfl)) (r_one (r_not (r_isi g.toSt0 .tBool (r_varA 0 rfl (by first | exact .inl rfl | exact .inr (.inl rfl) | exact .inr (.inr rfl))) T.n_isinstance T.n_bool rfl rfl (by rfl) (by rfl)))))))
theorem sc_is_within : FnScope ["thing", "least", "most"] ["thing", "least", "most"] (defScope (top 9)) := ⟨rfl, rfl, rfl, by decide +kernel, rfl, by decide +kernel, by decide +kernel⟩
theorem b_is_within {C : KM} (T : Txt C) (F_is_integer : Fn C 1 "is_integer" g_is_integer) (base : Heap) (f : Addr) (cdv : Value) (A : Around) (outer : List Env) (s : Shared) (H : Hp) (E : XK) (vs : List V) (W : WX) (g : Go (CxD C base ["thing", "least", "most"] "is_within" (defScope (top 9)) f cdv A outer s H E) ⟨C, vs, [0, 1, 2]⟩ W 1) : PSs (CxD C base ["thing", "least", "most"] "is_within" (defScope (top 9)) f cdv A outer s H E) (defBody (top 9)) (tS ⟨C, vs, [0, 1, 2]⟩ W m_is_within) :=
  (rs_one (rs_ret (r_and (r_call g F_is_integer (by decide) rfl (r_cons (r_varA 0 rfl (by first | exact .inl rfl | exact .inr (.inl rfl) | exact .inr (.inr rfl))) r_nil)) (r_one (r_chain g.toSt0 rfl rfl (r_varA 1 rfl (by first | exact .inl rfl | exact .inr (.inl rfl) | exact .inr (.inr rfl))) (r_varA 0 rfl (by first | exact .inl rfl | exact .inr (.inl rfl) | exact .inr (.inr rfl))) (r_varA 2 rfl (by first | exact .inl rfl | exact .inr (.inl rfl) | exact .inr (.inr rfl))))))))
theorem sc_is_world : FnScope ["thing"] ["thing"] (defScope (top 21)) := ⟨rfl, rfl, rfl, by decide +kernel, rfl, by decide +kernel, by decide +kernel⟩
theorem b_is_world {C : KM} (T : Txt C) (F_is_within : Fn C 2 "is_within" g_is_within) (base : Heap) (f : Addr) (cdv : Value) (A : Around) (outer : List Env) (s : Shared) (H : Hp) (E : XK) (vs : List V) (W : WX) (g : Go (CxD C base ["thing"] "is_world" (defScope (top 21)) f cdv A outer s H E) ⟨C, vs, [0]⟩ W 2) : PSs (CxD C base ["thing"] "is_world" (defScope (top 21)) f cdv A outer s H E) (defBody (top 21)) (tS ⟨C, vs, [0]⟩ W m_is_world) :=
  (rs_one (rs_ret (r_call g F_is_within (by decide) rfl (r_cons (r_varA 0 rfl (by first | exact .inl rfl | exact .inr (.inl rfl) | exact .inr (.inr rfl))) (r_cons (r_frz (r_gInt g.toSt0 T.c_WHOLE rfl)) (r_cons (r_frz (r_gInt g.toSt0 T.c_MOST_HOURS rfl)) r_nil))))))
theorem sc_are_unlike : FnScope ["things", "thing"] ["things"] (defScope (top 14)) := ⟨rfl, rfl, rfl, by decide +kernel, rfl, by decide +kernel, by decide +kernel⟩
theorem b_are_unlike {C : KM} (T : Txt C)  (base : Heap) (f : Addr) (cdv : Value) (A : Around) (outer : List Env) (s : Shared) (H : Hp) (E : XK) (vs : List V) (W : WX) (g : Go (CxD C base ["things", "thing"] "are_unlike" (defScope (top 14)) f cdv A outer s H E) ⟨C, vs, [0]⟩ W 0) : PSs (CxD C base ["things", "thing"] "are_unlike" (defScope (top 14)) f cdv A outer s H E) (defBody (top 14)) (tS ⟨C, vs, [0]⟩ W m_are_unlike) :=
  (rs_one (rs_ret (r_cmp g.toSt0 rfl (r_frz (r_cb g.toSt0 (call_lenDD g.k.symm) T.n_len (by rfl) rfl (r_cons (r_frz (r_dc g [("thing", 1)] (.nm 1) (show (1 : Nat) ∉ [0] by decide) (show ∀ i ∈ [0], i ∉ [1] by decide) (show (1 : Nat) ∈ [1] by decide) (ri_val g.toSt0 (r_frz (r_varE 0 rfl (by first | exact .inl rfl | exact .inr (.inl rfl) | exact .inr (.inr rfl))))) (blkOk_by (N := ["things", "thing"]) (sc := defScope (top 14)) (by decide +kernel)) (fun _ _ _ _ _ => (rg_nm (g.blk ..).toSt0 1 rfl (by first | exact .inl rfl | exact .inr rfl))) (fun _ _ _ _ _ g => rts_nil) (fun _ _ _ _ _ g => (r_varA 1 rfl (by first | exact .inl rfl | exact .inr (.inl rfl) | exact .inr (.inr rfl)))) (fun _ _ _ _ _ g => r_bl))) r_nil))) (r_frz (r_cb g.toSt0 (call_lenDD g.k.symm) T.n_len (by rfl) rfl (r_cons (r_varA 0 rfl (by first | exact .inl rfl | exact .inr (.inl rfl) | exact .inr (.inr rfl))) r_nil))))))
theorem sc_is_pair : FnScope ["thing"] ["thing"] (defScope (top 10)) := ⟨rfl, rfl, rfl, by decide +kernel, rfl, by decide +kernel, by decide +kernel⟩
theorem b_is_pair {C : KM} (T : Txt C)  (base : Heap) (f : Addr) (cdv : Value) (A : Around) (outer : List Env) (s : Shared) (H : Hp) (E : XK) (vs : List V) (W : WX) (g : Go (CxD C base ["thing"] "is_pair" (defScope (top 10)) f cdv A outer s H E) ⟨C, vs, [0]⟩ W 0) : PSs (CxD C base ["thing"] "is_pair" (defScope (top 10)) f cdv A outer s H E) (defBody (top 10)) (tS ⟨C, vs, [0]⟩ W m_is_pair) :=
  (rs_one (rs_ret (r_and (r_isi g.toSt0 .tTup (r_varA 0 rfl (by first | exact .inl rfl | exact .inr (.inl rfl) | exact .inr (.inr rfl))) T.n_isinstance T.n_tuple rfl rfl (by rfl) (by rfl)) (r_one (r_cmp g.toSt0 rfl (r_frz (r_cb g.toSt0 (call_lenDD g.k.symm) T.n_len (by rfl) rfl (r_cons (r_varA 0 rfl (by first | exact .inl rfl | exact .inr (.inl rfl) | exact .inr (.inr rfl))) r_nil))) (r_frz r_int))))))
theorem sc_is_of : FnScope ["thing", "signs", "sign"] ["thing", "signs"] (defScope (top 11)) := ⟨rfl, rfl, rfl, by decide +kernel, rfl, by decide +kernel, by decide +kernel⟩
theorem b_is_of {C : KM} (T : Txt C)  (base : Heap) (f : Addr) (cdv : Value) (A : Around) (outer : List Env) (s : Shared) (H : Hp) (E : XK) (vs : List V) (W : WX) (g : Go (CxD C base ["thing", "signs", "sign"] "is_of" (defScope (top 11)) f cdv A outer s H E) ⟨C, vs, [0, 1]⟩ W 0) : PSs (CxD C base ["thing", "signs", "sign"] "is_of" (defScope (top 11)) f cdv A outer s H E) (defBody (top 11)) (tS ⟨C, vs, [0, 1]⟩ W m_is_of) :=
  (rs_one (rs_ret (r_and (r_isi g.toSt0 .tStr (r_varA 0 rfl (by first | exact .inl rfl | exact .inr (.inl rfl) | exact .inr (.inr rfl))) T.n_isinstance T.n_str rfl rfl (by rfl) (by rfl)) (r_and (r_chain g.toSt0 rfl rfl (r_frz r_int) (r_frz (r_cb g.toSt0 (call_lenDD g.k.symm) T.n_len (by rfl) rfl (r_cons (r_varA 0 rfl (by first | exact .inl rfl | exact .inr (.inl rfl) | exact .inr (.inr rfl))) r_nil))) (r_frz (r_gInt g.toSt0 T.c_MOST_SIGNS rfl))) (r_one (r_cb g.toSt0 (call_allD g.cm) T.n_all (by rfl) rfl (r_cons (r_frz (r_lc g [("sign", 2)] (.nm 2) (show (2 : Nat) ∉ [0, 1] by decide) (show ∀ i ∈ [0, 1], i ∉ [2] by decide) (show (2 : Nat) ∈ [2] by decide) (ri_val g.toSt0 (r_frz (r_varE 0 rfl (by first | exact .inl rfl | exact .inr (.inl rfl) | exact .inr (.inr rfl))))) (blkOk_by (N := ["thing", "signs", "sign"]) (sc := defScope (top 11)) (by decide +kernel)) (fun _ _ _ _ _ => (rg_nm (g.blk ..).toSt0 2 rfl (by first | exact .inl rfl | exact .inr rfl))) (fun _ _ _ _ _ g => rts_nil) (fun _ _ _ _ _ g => (r_cmp g.toSt0 rfl (r_varA 2 rfl (by first | exact .inl rfl | exact .inr (.inl rfl) | exact .inr (.inr rfl))) (r_varA 1 rfl (by first | exact .inl rfl | exact .inr (.inl rfl) | exact .inr (.inr rfl))))))) r_nil)))))))
theorem sc_is_label : FnScope ["thing"] ["thing"] (defScope (top 12)) := ⟨rfl, rfl, rfl, by decide +kernel, rfl, by decide +kernel, by decide +kernel⟩
theorem b_is_label {C : KM} (T : Txt C) (F_is_of : Fn C 1 "is_of" g_is_of) (base : Heap) (f : Addr) (cdv : Value) (A : Around) (outer : List Env) (s : Shared) (H : Hp) (E : XK) (vs : List V) (W : WX) (g : Go (CxD C base ["thing"] "is_label" (defScope (top 12)) f cdv A outer s H E) ⟨C, vs, [0]⟩ W 1) : PSs (CxD C base ["thing"] "is_label" (defScope (top 12)) f cdv A outer s H E) (defBody (top 12)) (tS ⟨C, vs, [0]⟩ W m_is_label) :=
  (rs_one (rs_ret (r_call g F_is_of (by decide) rfl (r_cons (r_varA 0 rfl (by first | exact .inl rfl | exact .inr (.inl rfl) | exact .inr (.inr rfl))) (r_cons (r_frz (r_gStr g.toSt0 T.c_SMALL rfl)) r_nil)))))
theorem sc_is_table : FnScope ["thing"] ["thing"] (defScope (top 31)) := ⟨rfl, rfl, rfl, by decide +kernel, rfl, by decide +kernel, by decide +kernel⟩
theorem b_is_table {C : KM} (T : Txt C) (F_is_pair : Fn C 1 "is_pair" g_is_pair) (F_is_label : Fn C 2 "is_label" g_is_label) (F_is_within : Fn C 2 "is_within" g_is_within) (base : Heap) (f : Addr) (cdv : Value) (A : Around) (outer : List Env) (s : Shared) (H : Hp) (E : XK) (vs : List V) (W : WX) (g : Go (CxD C base ["thing"] "is_table" (defScope (top 31)) f cdv A outer s H E) ⟨C, vs, [0]⟩ W 2) : PSs (CxD C base ["thing"] "is_table" (defScope (top 31)) f cdv A outer s H E) (defBody (top 31)) (tS ⟨C, vs, [0]⟩ W m_is_table) :=
  (rs_one (rs_ret (r_and (r_call g F_is_pair (by decide) rfl (r_cons (r_varA 0 rfl (by first | exact .inl rfl | exact .inr (.inl rfl) | exact .inr (.inr rfl))) r_nil)) (r_and (r_call g F_is_label (by decide) rfl (r_cons (r_frz (r_ix g.toSt0 (r_varA 0 rfl (by first | exact .inl rfl | exact .inr (.inl rfl) | exact .inr (.inr rfl))) (r_frz r_int))) r_nil)) (r_one (r_call g F_is_within (by decide) rfl (r_cons (r_frz (r_ix g.toSt0 (r_varA 0 rfl (by first | exact .inl rfl | exact .inr (.inl rfl) | exact .inr (.inr rfl))) (r_frz r_int))) (r_cons (r_frz r_int) (r_cons (r_frz (r_gInt g.toSt0 T.c_MOST_SIZE rfl)) r_nil)))))))))
theorem sc_are_tables : FnScope ["thing", "one", "labels"] ["thing"] (defScope (top 32)) := ⟨rfl, rfl, rfl, by decide +kernel, rfl, by decide +kernel, by decide +kernel⟩
theorem b_are_tables {C : KM} (T : Txt C) (F_is_table : Fn C 3 "is_table" g_is_table) (F_are_unlike : Fn C 1 "are_unlike" g_are_unlike) (base : Heap) (f : Addr) (cdv : Value) (A : Around) (outer : List Env) (s : Shared) (H : Hp) (E : XK) (vs : List V) (W : WX) (g : Go (CxD C base ["thing", "one", "labels"] "are_tables" (defScope (top 32)) f cdv A outer s H E) ⟨C, vs, [0]⟩ W 3) : PSs (CxD C base ["thing", "one", "labels"] "are_tables" (defScope (top 32)) f cdv A outer s H E) (defBody (top 32)) (tS ⟨C, vs, [0]⟩ W m_are_tables) :=
  (rs_cons (rs_if (PW.pt (rt_or (rt_not (rt_bl (r_isi g.toSt0 .tTup (r_varA 0 rfl (by first | exact .inl rfl | exact .inr (.inl rfl) | exact .inr (.inr rfl))) T.n_isinstance T.n_tuple rfl rfl (by rfl) (by rfl)))) (rt_or (rt_not (rt_chain g.toSt0 rfl rfl (r_frz r_int) (r_frz (r_cb g.toSt0 (call_lenDD g.k.symm) T.n_len (by rfl) rfl (r_cons (r_varA 0 rfl (by first | exact .inl rfl | exact .inr (.inl rfl) | exact .inr (.inr rfl))) r_nil))) (r_frz (r_gInt g.toSt0 T.c_MOST_TABLES rfl)))) (rt_or1 (rt_not (rt_bl (r_cb g.toSt0 (call_allD g.cm) T.n_all (by rfl) rfl (r_cons (r_frz (r_lc g [("one", 1)] (.nm 1) (show (1 : Nat) ∉ [0] by decide) (show ∀ i ∈ [0], i ∉ [1] by decide) (show (1 : Nat) ∈ [1] by decide) (ri_val g.toSt0 (r_frz (r_varE 0 rfl (by first | exact .inl rfl | exact .inr (.inl rfl) | exact .inr (.inr rfl))))) (blkOk_by (N := ["thing", "one", "labels"]) (sc := defScope (top 32)) (by decide +kernel)) (fun _ _ _ _ _ => (rg_nm (g.blk ..).toSt0 1 rfl (by first | exact .inl rfl | exact .inr rfl))) (fun _ _ _ _ _ g => rts_nil) (fun _ _ _ _ _ g => (r_call g F_is_table (by decide) rfl (r_cons (r_varA 1 rfl (by first | exact .inl rfl | exact .inr (.inl rfl) | exact .inr (.inr rfl))) r_nil))))) r_nil)))))))) (rs_one (rs_ret r_bl)) rs_nil)
  (rs_cons (rs_lc g 2 [("one", 1)] (.nm 1) (show (2 : Nat) ∉ [0] by decide) (show (1 : Nat) ∉ [0] by decide) (show ∀ i ∈ [0], i ∉ [1] by decide) (show (1 : Nat) ∈ [1] by decide) rfl rfl (sw_true rfl rfl rfl (by decide +kernel)) (ri_val g.toSt0 (r_frz (r_varE 0 rfl (by first | exact .inl rfl | exact .inr (.inl rfl) | exact .inr (.inr rfl))))) (blkOk_by (N := ["thing", "one", "labels"]) (sc := defScope (top 32)) (by decide +kernel)) (fun _ _ _ _ _ => (rg_nm (g.blk ..).toSt0 1 rfl (by first | exact .inl rfl | exact .inr rfl))) (fun _ _ _ _ _ g => rts_nil) (fun _ _ _ _ _ g => (r_ix g.toSt0 (r_varA 1 rfl (by first | exact .inl rfl | exact .inr (.inl rfl) | exact .inr (.inr rfl))) (r_frz r_int))))
  (rs_cons (rs_if (PW.pt (rt_or (rt_cmp g.toSt0 rfl (r_varA 2 rfl (by first | exact .inl rfl | exact .inr (.inl rfl) | exact .inr (.inr rfl))) (r_frz (r_cb g.toSt0 (call_sortX g.k.symm) T.n_sorted (by rfl) rfl (r_cons (r_varA 2 rfl (by first | exact .inl rfl | exact .inr (.inl rfl) | exact .inr (.inr rfl))) r_nil)))) (rt_or1 (rt_not (rt_bl (r_call g F_are_unlike (by decide) rfl (r_cons (r_varA 2 rfl (by first | exact .inl rfl | exact .inr (.inl rfl) | exact .inr (.inr rfl))) r_nil))))))) (rs_one (rs_ret r_bl)) rs_nil)
  (rs_one (rs_ret (r_cmp g.toSt0 rfl (r_frz (r_cb g.toSt0 (call_lenDD g.k.symm) T.n_len (by rfl) rfl (r_cons (r_frz (r_lc g [("one", 1)] (.nm 1) (show (1 : Nat) ∉ [0] by decide) (show ∀ i ∈ [0], i ∉ [1] by decide) (show (1 : Nat) ∈ [1] by decide) (ri_val g.toSt0 (r_frz (r_varE 0 rfl (by first | exact .inl rfl | exact .inr (.inl rfl) | exact .inr (.inr rfl))))) (blkOk_by (N := ["thing", "one", "labels"]) (sc := defScope (top 32)) (by decide +kernel)) (fun _ _ _ _ _ => (rg_nm (g.blk ..).toSt0 1 rfl (by first | exact .inl rfl | exact .inr rfl))) (fun _ _ _ _ _ g => (rts_one (rt_cmp g.toSt0 rfl (r_frz (r_ix g.toSt0 (r_varA 1 rfl (by first | exact .inl rfl | exact .inr (.inl rfl) | exact .inr (.inr rfl))) (r_frz r_int))) (r_frz (r_gInt g.toSt0 T.c_MOST_SIZE rfl))))) (fun _ _ _ _ _ g => (r_varE 1 rfl (by first | exact .inl rfl | exact .inr (.inl rfl) | exact .inr (.inr rfl)))))) r_nil))) (r_frz r_int)))))))
theorem sc_is_term : FnScope ["known", "thing", "letter"] ["known", "thing"] (defScope (top 33)) := ⟨rfl, rfl, rfl, by decide +kernel, rfl, by decide +kernel, by decide +kernel⟩
theorem b_is_term {C : KM} (T : Txt C) (F_is_within : Fn C 2 "is_within" g_is_within) (F_are_unlike : Fn C 1 "are_unlike" g_are_unlike) (base : Heap) (f : Addr) (cdv : Value) (A : Around) (outer : List Env) (s : Shared) (H : Hp) (E : XK) (vs : List V) (W : WX) (g : Go (CxD C base ["known", "thing", "letter"] "is_term" (defScope (top 33)) f cdv A outer s H E) ⟨C, vs, [0, 1]⟩ W 2) : PSs (CxD C base ["known", "thing", "letter"] "is_term" (defScope (top 33)) f cdv A outer s H E) (defBody (top 33)) (tS ⟨C, vs, [0, 1]⟩ W m_is_term) :=
  (rs_cons (rs_if (PW.pt (rt_or (rt_not (rt_bl (r_isi g.toSt0 .tTup (r_varA 1 rfl (by first | exact .inl rfl | exact .inr (.inl rfl) | exact .inr (.inr rfl))) T.n_isinstance T.n_tuple rfl rfl (by rfl) (by rfl)))) (rt_or (rt_cmp g.toSt0 rfl (r_frz (r_cb g.toSt0 (call_lenDD g.k.symm) T.n_len (by rfl) rfl (r_cons (r_varA 1 rfl (by first | exact .inl rfl | exact .inr (.inl rfl) | exact .inr (.inr rfl))) r_nil))) (r_frz r_int)) (rt_or1 (rt_not (rt_bl (r_call g F_is_within (by decide) rfl (r_cons (r_frz (r_ix g.toSt0 (r_varA 1 rfl (by first | exact .inl rfl | exact .inr (.inl rfl) | exact .inr (.inr rfl))) (r_frz r_int))) (r_cons (r_frz (r_neg (r_frz (r_gInt g.toSt0 T.c_MOST_FACTOR rfl)))) (r_cons (r_frz (r_gInt g.toSt0 T.c_MOST_FACTOR rfl)) r_nil)))))))))) (rs_one (rs_ret r_bl)) rs_nil)
  (rs_cons (rs_if (PW.pt (rt_or (rt_cmp g.toSt0 rfl (r_frz (r_ix g.toSt0 (r_varA 1 rfl (by first | exact .inl rfl | exact .inr (.inl rfl) | exact .inr (.inr rfl))) (r_frz r_int))) (r_frz r_int)) (rt_or (rt_not (rt_bl (r_isi g.toSt0 .tStr (r_frz (r_ix g.toSt0 (r_varA 1 rfl (by first | exact .inl rfl | exact .inr (.inl rfl) | exact .inr (.inr rfl))) (r_frz r_int))) T.n_isinstance T.n_str rfl rfl (by rfl) (by rfl)))) (rt_or (rt_cmp g.toSt0 rfl (r_frz (r_ix g.toSt0 (r_varA 1 rfl (by first | exact .inl rfl | exact .inr (.inl rfl) | exact .inr (.inr rfl))) (r_frz r_int))) (r_varA 0 rfl (by first | exact .inl rfl | exact .inr (.inl rfl) | exact .inr (.inr rfl)))) (rt_or1 (rt_not (rt_bl (r_isi g.toSt0 .tStr (r_frz (r_ix g.toSt0 (r_varA 1 rfl (by first | exact .inl rfl | exact .inr (.inl rfl) | exact .inr (.inr rfl))) (r_frz r_int))) T.n_isinstance T.n_str rfl rfl (by rfl) (by rfl))))))))) (rs_one (rs_ret r_bl)) rs_nil)
  (rs_cons (rs_if (PW.pt (rt_or (rt_cmp g.toSt0 rfl (r_frz (r_cb g.toSt0 (call_lenDD g.k.symm) T.n_len (by rfl) rfl (r_cons (r_frz (r_ix g.toSt0 (r_varA 1 rfl (by first | exact .inl rfl | exact .inr (.inl rfl) | exact .inr (.inr rfl))) (r_frz r_int))) r_nil))) (r_frz (r_ix g.toSt0 (r_varA 0 rfl (by first | exact .inl rfl | exact .inr (.inl rfl) | exact .inr (.inr rfl))) (r_frz (r_ix g.toSt0 (r_varA 1 rfl (by first | exact .inl rfl | exact .inr (.inl rfl) | exact .inr (.inr rfl))) (r_frz r_int)))))) (rt_or1 (rt_not (rt_bl (r_call g F_are_unlike (by decide) rfl (r_cons (r_frz (r_ix g.toSt0 (r_varA 1 rfl (by first | exact .inl rfl | exact .inr (.inl rfl) | exact .inr (.inr rfl))) (r_frz r_int))) r_nil))))))) (rs_one (rs_ret r_bl)) rs_nil)
  (rs_one (rs_ret (r_cb g.toSt0 (call_allD g.cm) T.n_all (by rfl) rfl (r_cons (r_frz (r_lc g [("letter", 2)] (.nm 2) (show (2 : Nat) ∉ [0, 1] by decide) (show ∀ i ∈ [0, 1], i ∉ [2] by decide) (show (2 : Nat) ∈ [2] by decide) (ri_val g.toSt0 (r_frz (r_ix g.toSt0 (r_varA 1 rfl (by first | exact .inl rfl | exact .inr (.inl rfl) | exact .inr (.inr rfl))) (r_frz r_int)))) (blkOk_by (N := ["known", "thing", "letter"]) (sc := defScope (top 33)) (by decide +kernel)) (fun _ _ _ _ _ => (rg_nm (g.blk ..).toSt0 2 rfl (by first | exact .inl rfl | exact .inr rfl))) (fun _ _ _ _ _ g => rts_nil) (fun _ _ _ _ _ g => (r_cmp g.toSt0 rfl (r_varA 2 rfl (by first | exact .inl rfl | exact .inr (.inl rfl) | exact .inr (.inr rfl))) (r_frz (r_gStr g.toSt0 T.c_LETTERS rfl)))))) r_nil)))))))
theorem sc_is_demand : FnScope ["known", "thing", "term"] ["known", "thing"] (defScope (top 34)) := ⟨rfl, rfl, rfl, by decide +kernel, rfl, by decide +kernel, by decide +kernel⟩
theorem b_is_demand {C : KM} (T : Txt C) (F_is_pair : Fn C 1 "is_pair" g_is_pair) (F_is_term : Fn C 3 "is_term" g_is_term) (F_is_within : Fn C 2 "is_within" g_is_within) (base : Heap) (f : Addr) (cdv : Value) (A : Around) (outer : List Env) (s : Shared) (H : Hp) (E : XK) (vs : List V) (W : WX) (g : Go (CxD C base ["known", "thing", "term"] "is_demand" (defScope (top 34)) f cdv A outer s H E) ⟨C, vs, [0, 1]⟩ W 3) : PSs (CxD C base ["known", "thing", "term"] "is_demand" (defScope (top 34)) f cdv A outer s H E) (defBody (top 34)) (tS ⟨C, vs, [0, 1]⟩ W m_is_demand) :=
  (rs_cons (rs_if (PW.pt (rt_or (rt_not (rt_bl (r_call g F_is_pair (by decide) rfl (r_cons (r_varA 1 rfl (by first | exact .inl rfl | exact .inr (.inl rfl) | exact .inr (.inr rfl))) r_nil)))) (rt_or (rt_not (rt_bl (r_isi g.toSt0 .tTup (r_frz (r_ix g.toSt0 (r_varA 1 rfl (by first | exact .inl rfl | exact .inr (.inl rfl) | exact .inr (.inr rfl))) (r_frz r_int))) T.n_isinstance T.n_tuple rfl rfl (by rfl) (by rfl)))) (rt_or1 (rt_not (rt_chain g.toSt0 rfl rfl (r_frz r_int) (r_frz (r_cb g.toSt0 (call_lenDD g.k.symm) T.n_len (by rfl) rfl (r_cons (r_frz (r_ix g.toSt0 (r_varA 1 rfl (by first | exact .inl rfl | exact .inr (.inl rfl) | exact .inr (.inr rfl))) (r_frz r_int))) r_nil))) (r_frz (r_gInt g.toSt0 T.c_MOST_TERMS rfl)))))))) (rs_one (rs_ret r_bl)) rs_nil)
  (rs_one (rs_ret (r_and (r_cb g.toSt0 (call_allD g.cm) T.n_all (by rfl) rfl (r_cons (r_frz (r_lc g [("term", 2)] (.nm 2) (show (2 : Nat) ∉ [0, 1] by decide) (show ∀ i ∈ [0, 1], i ∉ [2] by decide) (show (2 : Nat) ∈ [2] by decide) (ri_val g.toSt0 (r_frz (r_ix g.toSt0 (r_varA 1 rfl (by first | exact .inl rfl | exact .inr (.inl rfl) | exact .inr (.inr rfl))) (r_frz r_int)))) (blkOk_by (N := ["known", "thing", "term"]) (sc := defScope (top 34)) (by decide +kernel)) (fun _ _ _ _ _ => (rg_nm (g.blk ..).toSt0 2 rfl (by first | exact .inl rfl | exact .inr rfl))) (fun _ _ _ _ _ g => rts_nil) (fun _ _ _ _ _ g => (r_call g F_is_term (by decide) rfl (r_cons (r_varA 0 rfl (by first | exact .inl rfl | exact .inr (.inl rfl) | exact .inr (.inr rfl))) (r_cons (r_varA 2 rfl (by first | exact .inl rfl | exact .inr (.inl rfl) | exact .inr (.inr rfl))) r_nil)))))) r_nil)) (r_one (r_call g F_is_within (by decide) rfl (r_cons (r_frz (r_ix g.toSt0 (r_varA 1 rfl (by first | exact .inl rfl | exact .inr (.inl rfl) | exact .inr (.inr rfl))) (r_frz r_int))) (r_cons (r_frz (r_neg (r_frz (r_gInt g.toSt0 T.c_MOST_RIGHT rfl)))) (r_cons (r_frz (r_gInt g.toSt0 T.c_MOST_RIGHT rfl)) r_nil)))))))))
theorem sc_Book__init : FnScope ["self", "world", "tables", "demands", "demand"] ["self", "world", "tables", "demands"] (defScope (inClass (top 35) 0)) := ⟨rfl, rfl, rfl, by decide +kernel, rfl, by decide +kernel, by decide +kernel⟩
theorem b_Book__init {C : KM} (T : Txt C) (F_is_world : Fn C 3 "is_world" g_is_world) (F_are_tables : Fn C 4 "are_tables" g_are_tables) (F_is_demand : Fn C 4 "is_demand" g_is_demand) (base : Heap) (f : Addr) (cdv : Value) (A : Around) (outer : List Env) (s : Shared) (H : Hp) (E : XK) (vs : List V) (W : WX) (g : Go (CxD C base ["self", "world", "tables", "demands", "demand"] "Book.__init__" (defScope (inClass (top 35) 0)) f cdv A outer s H E) ⟨C, vs, [0, 1, 2, 3]⟩ W 4) : PSs (CxD C base ["self", "world", "tables", "demands", "demand"] "Book.__init__" (defScope (inClass (top 35) 0)) f cdv A outer s H E) (defBody (inClass (top 35) 0)) (tS ⟨C, vs, [0, 1, 2, 3]⟩ W m_Book__init) :=
  (rs_cons (rs_if (rt_not (rt_bl (r_call g F_is_world (by decide) rfl (r_cons (r_varA 1 rfl (by first | exact .inl rfl | exact .inr (.inl rfl) | exact .inr (.inr rfl))) r_nil)))) (rs_one rs_bad) rs_nil)
  (rs_cons (rs_if (rt_not (rt_bl (r_call g F_are_tables (by decide) rfl (r_cons (r_varA 2 rfl (by first | exact .inl rfl | exact .inr (.inl rfl) | exact .inr (.inr rfl))) r_nil)))) (rs_one rs_bad) rs_nil)
  (rs_cons (rs_if (PW.pt (rt_or (rt_not (rt_bl (r_isi g.toSt0 .tTup (r_varA 3 rfl (by first | exact .inl rfl | exact .inr (.inl rfl) | exact .inr (.inr rfl))) T.n_isinstance T.n_tuple rfl rfl (by rfl) (by rfl)))) (rt_or1 (rt_cmp g.toSt0 rfl (r_frz (r_cb g.toSt0 (call_lenDD g.k.symm) T.n_len (by rfl) rfl (r_cons (r_varA 3 rfl (by first | exact .inl rfl | exact .inr (.inl rfl) | exact .inr (.inr rfl))) r_nil))) (r_frz (r_gInt g.toSt0 T.c_MOST_DEMANDS rfl)))))) (rs_one rs_bad) rs_nil)
  (rs_cons (rs_if (rt_not (rt_bl (r_cb g.toSt0 (call_allD g.cm) T.n_all (by rfl) rfl (r_cons (r_frz (r_lc g [("demand", 4)] (.nm 4) (show (4 : Nat) ∉ [0, 1, 2, 3] by decide) (show ∀ i ∈ [0, 1, 2, 3], i ∉ [4] by decide) (show (4 : Nat) ∈ [4] by decide) (ri_val g.toSt0 (r_frz (r_varE 3 rfl (by first | exact .inl rfl | exact .inr (.inl rfl) | exact .inr (.inr rfl))))) (blkOk_by (N := ["self", "world", "tables", "demands", "demand"]) (sc := defScope (inClass (top 35) 0)) (by decide +kernel)) (fun _ _ _ _ _ => (rg_nm (g.blk ..).toSt0 4 rfl (by first | exact .inl rfl | exact .inr rfl))) (fun _ _ _ _ _ g => rts_nil) (fun _ _ _ _ _ g => (r_call g F_is_demand (by decide) rfl (r_cons (r_frz (r_cty g.toSt0 (call_dictDD g.k.symm g.cm) T.n_dict (by rfl) rfl (r_cons (r_varA 2 rfl (by first | exact .inl rfl | exact .inr (.inl rfl) | exact .inr (.inr rfl))) r_nil))) (r_cons (r_varA 4 rfl (by first | exact .inl rfl | exact .inr (.inl rfl) | exact .inr (.inr rfl))) r_nil)))))) r_nil)))) (rs_one rs_bad) rs_nil)
  (rs_cons (rs_fld g.toSt0 0 cs_world T.f_world rfl (by first | exact .inl rfl | exact .inr (.inl rfl) | exact .inr (.inr rfl)) (r_varE 1 rfl (by first | exact .inl rfl | exact .inr (.inl rfl) | exact .inr (.inr rfl))))
  (rs_cons (rs_fld g.toSt0 0 cs_tables T.f_tables rfl (by first | exact .inl rfl | exact .inr (.inl rfl) | exact .inr (.inr rfl)) (r_varE 2 rfl (by first | exact .inl rfl | exact .inr (.inl rfl) | exact .inr (.inr rfl))))
  (rs_one (rs_fld g.toSt0 0 cs_demands T.f_demands rfl (by first | exact .inl rfl | exact .inr (.inl rfl) | exact .inr (.inr rfl)) (r_varE 3 rfl (by first | exact .inl rfl | exact .inr (.inl rfl) | exact .inr (.inr rfl)))))))))))
theorem sc__law_is_kept : FnScope ["_law_book", "_law_parts"] ["_law_book", "_law_parts"] (defScope (top 51)) := ⟨rfl, rfl, rfl, by decide +kernel, rfl, by decide +kernel, by decide +kernel⟩
theorem b__law_is_kept {C : KM} (T : Txt C)  (base : Heap) (f : Addr) (cdv : Value) (A : Around) (outer : List Env) (s : Shared) (H : Hp) (E : XK) (vs : List V) (W : WX) (g : Go (CxD C base ["_law_book", "_law_parts"] "_law_is_kept" (defScope (top 51)) f cdv A outer s H E) ⟨C, vs, [0, 1]⟩ W 0) : PSs (CxD C base ["_law_book", "_law_parts"] "_law_is_kept" (defScope (top 51)) f cdv A outer s H E) (defBody (top 51)) (tS ⟨C, vs, [0, 1]⟩ W m__law_is_kept) :=
  (rs_cons (rs_if (PW.pt (rt_or (rt_not (rt_bl (r_isi g.toSt0 .tTup (r_frz (r_fld g.toSt0 cs_tables T.f_tables (r_varA 0 rfl (by first | exact .inl rfl | exact .inr (.inl rfl) | exact .inr (.inr rfl))))) T.n_isinstance T.n_tuple rfl rfl (by rfl) (by rfl)))) (rt_or (rt_not (rt_bl (r_isi g.toSt0 .tTup (r_frz (r_fld g.toSt0 cs_demands T.f_demands (r_varA 0 rfl (by first | exact .inl rfl | exact .inr (.inl rfl) | exact .inr (.inr rfl))))) T.n_isinstance T.n_tuple rfl rfl (by rfl) (by rfl)))) (rt_or1 (rt_bl (r_isi g.toSt0 .tBool (r_frz (r_fld g.toSt0 cs_world T.f_world (r_varA 0 rfl (by first | exact .inl rfl | exact .inr (.inl rfl) | exact .inr (.inr rfl))))) T.n_isinstance T.n_bool rfl rfl (by rfl) (by rfl))))))) (rs_one (rs_ret r_bl)) rs_nil)
  (rs_one (rs_ret (r_and (r_cmp g.toSt0 rfl (r_frz (r_fld g.toSt0 cs_world T.f_world (r_varA 0 rfl (by first | exact .inl rfl | exact .inr (.inl rfl) | exact .inr (.inr rfl))))) (r_frz (r_ix g.toSt0 (r_varA 1 rfl (by first | exact .inl rfl | exact .inr (.inl rfl) | exact .inr (.inr rfl))) (r_frz r_int)))) (r_and (r_cmp g.toSt0 rfl (r_frz (r_fld g.toSt0 cs_tables T.f_tables (r_varA 0 rfl (by first | exact .inl rfl | exact .inr (.inl rfl) | exact .inr (.inr rfl))))) (r_frz (r_ix g.toSt0 (r_varA 1 rfl (by first | exact .inl rfl | exact .inr (.inl rfl) | exact .inr (.inr rfl))) (r_frz r_int)))) (r_one (r_cmp g.toSt0 rfl (r_frz (r_fld g.toSt0 cs_demands T.f_demands (r_varA 0 rfl (by first | exact .inl rfl | exact .inr (.inl rfl) | exact .inr (.inr rfl))))) (r_frz (r_ix g.toSt0 (r_varA 1 rfl (by first | exact .inl rfl | exact .inr (.inl rfl) | exact .inr (.inr rfl))) (r_frz r_int))))))))))
theorem sc_is_name : FnScope ["thing"] ["thing"] (defScope (top 13)) := ⟨rfl, rfl, rfl, by decide +kernel, rfl, by decide +kernel, by decide +kernel⟩
theorem b_is_name {C : KM} (T : Txt C) (F_is_of : Fn C 1 "is_of" g_is_of) (base : Heap) (f : Addr) (cdv : Value) (A : Around) (outer : List Env) (s : Shared) (H : Hp) (E : XK) (vs : List V) (W : WX) (g : Go (CxD C base ["thing"] "is_name" (defScope (top 13)) f cdv A outer s H E) ⟨C, vs, [0]⟩ W 1) : PSs (CxD C base ["thing"] "is_name" (defScope (top 13)) f cdv A outer s H E) (defBody (top 13)) (tS ⟨C, vs, [0]⟩ W m_is_name) :=
  (rs_one (rs_ret (r_call g F_is_of (by decide) rfl (r_cons (r_varA 0 rfl (by first | exact .inl rfl | exact .inr (.inl rfl) | exact .inr (.inr rfl))) (r_cons (r_frz (r_gStr g.toSt0 T.c_GREAT rfl)) r_nil)))))
theorem sc_are_names : FnScope ["thing", "one"] ["thing"] (defScope (top 38)) := ⟨rfl, rfl, rfl, by decide +kernel, rfl, by decide +kernel, by decide +kernel⟩
theorem b_are_names {C : KM} (T : Txt C) (F_is_name : Fn C 2 "is_name" g_is_name) (F_are_unlike : Fn C 1 "are_unlike" g_are_unlike) (base : Heap) (f : Addr) (cdv : Value) (A : Around) (outer : List Env) (s : Shared) (H : Hp) (E : XK) (vs : List V) (W : WX) (g : Go (CxD C base ["thing", "one"] "are_names" (defScope (top 38)) f cdv A outer s H E) ⟨C, vs, [0]⟩ W 2) : PSs (CxD C base ["thing", "one"] "are_names" (defScope (top 38)) f cdv A outer s H E) (defBody (top 38)) (tS ⟨C, vs, [0]⟩ W m_are_names) :=
  (rs_cons (rs_if (PW.pt (rt_or (rt_not (rt_bl (r_isi g.toSt0 .tTup (r_varA 0 rfl (by first | exact .inl rfl | exact .inr (.inl rfl) | exact .inr (.inr rfl))) T.n_isinstance T.n_tuple rfl rfl (by rfl) (by rfl)))) (rt_or (rt_cmp g.toSt0 rfl (r_frz (r_cb g.toSt0 (call_lenDD g.k.symm) T.n_len (by rfl) rfl (r_cons (r_varA 0 rfl (by first | exact .inl rfl | exact .inr (.inl rfl) | exact .inr (.inr rfl))) r_nil))) (r_frz (r_gInt g.toSt0 T.c_MOST_NAMES rfl))) (rt_or1 (rt_not (rt_bl (r_cb g.toSt0 (call_allD g.cm) T.n_all (by rfl) rfl (r_cons (r_frz (r_lc g [("one", 1)] (.nm 1) (show (1 : Nat) ∉ [0] by decide) (show ∀ i ∈ [0], i ∉ [1] by decide) (show (1 : Nat) ∈ [1] by decide) (ri_val g.toSt0 (r_frz (r_varE 0 rfl (by first | exact .inl rfl | exact .inr (.inl rfl) | exact .inr (.inr rfl))))) (blkOk_by (N := ["thing", "one"]) (sc := defScope (top 38)) (by decide +kernel)) (fun _ _ _ _ _ => (rg_nm (g.blk ..).toSt0 1 rfl (by first | exact .inl rfl | exact .inr rfl))) (fun _ _ _ _ _ g => rts_nil) (fun _ _ _ _ _ g => (r_call g F_is_name (by decide) rfl (r_cons (r_varA 1 rfl (by first | exact .inl rfl | exact .inr (.inl rfl) | exact .inr (.inr rfl))) r_nil))))) r_nil)))))))) (rs_one (rs_ret r_bl)) rs_nil)
  (rs_one (rs_ret (r_and (r_cmp g.toSt0 rfl (r_frz (r_cty g.toSt0 (call_listY g.k.symm g.cm) T.n_list (by rfl) rfl (r_cons (r_varA 0 rfl (by first | exact .inl rfl | exact .inr (.inl rfl) | exact .inr (.inr rfl))) r_nil))) (r_frz (r_cb g.toSt0 (call_sortX g.k.symm) T.n_sorted (by rfl) rfl (r_cons (r_varA 0 rfl (by first | exact .inl rfl | exact .inr (.inl rfl) | exact .inr (.inr rfl))) r_nil)))) (r_one (r_call g F_are_unlike (by decide) rfl (r_cons (r_varA 0 rfl (by first | exact .inl rfl | exact .inr (.inl rfl) | exact .inr (.inr rfl))) r_nil)))))))
theorem sc_is_place_of : FnScope ["book", "folk", "thing", "known", "one"] ["book", "folk", "thing"] (defScope (top 39)) := ⟨rfl, rfl, rfl, by decide +kernel, rfl, by decide +kernel, by decide +kernel⟩
theorem b_is_place_of {C : KM} (T : Txt C) (F_is_pair : Fn C 1 "is_pair" g_is_pair) (F_are_unlike : Fn C 1 "are_unlike" g_are_unlike) (base : Heap) (f : Addr) (cdv : Value) (A : Around) (outer : List Env) (s : Shared) (H : Hp) (E : XK) (vs : List V) (W : WX) (g : Go (CxD C base ["book", "folk", "thing", "known", "one"] "is_place_of" (defScope (top 39)) f cdv A outer s H E) ⟨C, vs, [0, 1, 2]⟩ W 1) : PSs (CxD C base ["book", "folk", "thing", "known", "one"] "is_place_of" (defScope (top 39)) f cdv A outer s H E) (defBody (top 39)) (tS ⟨C, vs, [0, 1, 2]⟩ W m_is_place_of) :=
  (rs_cons (rs_if (PW.pt (rt_or (rt_not (rt_bl (r_call g F_is_pair (by decide) rfl (r_cons (r_varA 2 rfl (by first | exact .inl rfl | exact .inr (.inl rfl) | exact .inr (.inr rfl))) r_nil)))) (rt_or (rt_not (rt_bl (r_isi g.toSt0 .tStr (r_frz (r_ix g.toSt0 (r_varA 2 rfl (by first | exact .inl rfl | exact .inr (.inl rfl) | exact .inr (.inr rfl))) (r_frz r_int))) T.n_isinstance T.n_str rfl rfl (by rfl) (by rfl)))) (rt_or1 (rt_not (rt_bl (r_isi g.toSt0 .tTup (r_frz (r_ix g.toSt0 (r_varA 2 rfl (by first | exact .inl rfl | exact .inr (.inl rfl) | exact .inr (.inr rfl))) (r_frz r_int))) T.n_isinstance T.n_tuple rfl rfl (by rfl) (by rfl)))))))) (rs_one (rs_ret r_bl)) rs_nil)
  (rs_cons (rs_set g.toSt0 3 (show (3 : Nat) ∉ [0, 1, 2] by decide) rfl (by first | exact .inl rfl | exact .inr rfl) (r_cty g.toSt0 (call_dictDD g.k.symm g.cm) T.n_dict (by rfl) rfl (r_cons (r_frz (r_fld g.toSt0 cs_tables T.f_tables (r_varA 0 rfl (by first | exact .inl rfl | exact .inr (.inl rfl) | exact .inr (.inr rfl))))) r_nil)))
  (rs_cons (rs_if (PW.pt (rt_or (rt_cmp g.toSt0 rfl (r_frz (r_ix g.toSt0 (r_varA 2 rfl (by first | exact .inl rfl | exact .inr (.inl rfl) | exact .inr (.inr rfl))) (r_frz r_int))) (r_varA 3 rfl (by first | exact .inl rfl | exact .inr (.inl rfl) | exact .inr (.inr rfl)))) (rt_or1 (rt_cmp g.toSt0 rfl (r_frz (r_cb g.toSt0 (call_lenDD g.k.symm) T.n_len (by rfl) rfl (r_cons (r_frz (r_ix g.toSt0 (r_varA 2 rfl (by first | exact .inl rfl | exact .inr (.inl rfl) | exact .inr (.inr rfl))) (r_frz r_int))) r_nil))) (r_frz (r_ix g.toSt0 (r_varA 3 rfl (by first | exact .inl rfl | exact .inr (.inl rfl) | exact .inr (.inr rfl))) (r_frz (r_ix g.toSt0 (r_varA 2 rfl (by first | exact .inl rfl | exact .inr (.inl rfl) | exact .inr (.inr rfl))) (r_frz r_int))))))))) (rs_one (rs_ret r_bl)) rs_nil)
  (rs_one (rs_ret (r_and (r_cb g.toSt0 (call_allD g.cm) T.n_all (by rfl) rfl (r_cons (r_frz (r_lc g [("one", 4)] (.nm 4) (show (4 : Nat) ∉ [0, 1, 2] by decide) (show ∀ i ∈ [0, 1, 2], i ∉ [4] by decide) (show (4 : Nat) ∈ [4] by decide) (ri_val g.toSt0 (r_frz (r_ix g.toSt0 (r_varA 2 rfl (by first | exact .inl rfl | exact .inr (.inl rfl) | exact .inr (.inr rfl))) (r_frz r_int)))) (blkOk_by (N := ["book", "folk", "thing", "known", "one"]) (sc := defScope (top 39)) (by decide +kernel)) (fun _ _ _ _ _ => (rg_nm (g.blk ..).toSt0 4 rfl (by first | exact .inl rfl | exact .inr rfl))) (fun _ _ _ _ _ g => rts_nil) (fun _ _ _ _ _ g => (r_and (r_isi g.toSt0 .tStr (r_varA 4 rfl (by first | exact .inl rfl | exact .inr (.inl rfl) | exact .inr (.inr rfl))) T.n_isinstance T.n_str rfl rfl (by rfl) (by rfl)) (r_one (r_cmp g.toSt0 rfl (r_varA 4 rfl (by first | exact .inl rfl | exact .inr (.inl rfl) | exact .inr (.inr rfl))) (r_varA 1 rfl (by first | exact .inl rfl | exact .inr (.inl rfl) | exact .inr (.inr rfl))))))))) r_nil)) (r_one (r_call g F_are_unlike (by decide) rfl (r_cons (r_frz (r_ix g.toSt0 (r_varA 2 rfl (by first | exact .inl rfl | exact .inr (.inl rfl) | exact .inr (.inr rfl))) (r_frz r_int))) r_nil)))))))))
theorem sc_common_divisor : FnScope ["one", "other"] ["one", "other"] (defScope (top 15)) := ⟨rfl, rfl, rfl, by decide +kernel, rfl, by decide +kernel, by decide +kernel⟩
theorem b_common_divisor {C : KM} (T : Txt C)  (base : Heap) (f : Addr) (cdv : Value) (A : Around) (outer : List Env) (s : Shared) (H : Hp) (E : XK) (vs : List V) (W : WX) (g : Go (CxD C base ["one", "other"] "common_divisor" (defScope (top 15)) f cdv A outer s H E) ⟨C, vs, ([] : List Nat)⟩ W 0) : PSs (CxD C base ["one", "other"] "common_divisor" (defScope (top 15)) f cdv A outer s H E) (defBody (top 15)) (tS ⟨C, vs, ([] : List Nat)⟩ W m_common_divisor) :=
  (rs_cons (rs_while g _ (rt_cmp g.toSt0 rfl (r_varA 1 rfl (by first | exact .inl rfl | exact .inr (.inl rfl) | exact .inr (.inr rfl))) (r_frz r_int)) (rs_one (rs_par g.toSt0 g.cm 0 1 (show (0 : Nat) ∉ ([] : List Nat) by decide) (show (1 : Nat) ∉ ([] : List Nat) by decide) rfl rfl (by decide) rfl rfl (r_cons (r_frz (r_varE 1 rfl (by first | exact .inl rfl | exact .inr (.inl rfl) | exact .inr (.inr rfl)))) (r_cons (r_frz (r_bin g.toSt0 rfl (r_varA 0 rfl (by first | exact .inl rfl | exact .inr (.inl rfl) | exact .inr (.inr rfl))) (r_varA 1 rfl (by first | exact .inl rfl | exact .inr (.inl rfl) | exact .inr (.inr rfl))))) r_nil)) rfl)))
  (rs_one (rs_ret (r_cb g.toSt0 (call_absD) T.n_abs (by rfl) rfl (r_cons (r_varA 0 rfl (by first | exact .inl rfl | exact .inr (.inl rfl) | exact .inr (.inr rfl))) r_nil)))))
theorem sc_is_fraction : FnScope ["thing"] ["thing"] (defScope (top 16)) := ⟨rfl, rfl, rfl, by decide +kernel, rfl, by decide +kernel, by decide +kernel⟩
theorem b_is_fraction {C : KM} (T : Txt C) (F_is_pair : Fn C 1 "is_pair" g_is_pair) (F_is_integer : Fn C 1 "is_integer" g_is_integer) (F_common_divisor : Fn C 1 "common_divisor" g_common_divisor) (base : Heap) (f : Addr) (cdv : Value) (A : Around) (outer : List Env) (s : Shared) (H : Hp) (E : XK) (vs : List V) (W : WX) (g : Go (CxD C base ["thing"] "is_fraction" (defScope (top 16)) f cdv A outer s H E) ⟨C, vs, [0]⟩ W 1) : PSs (CxD C base ["thing"] "is_fraction" (defScope (top 16)) f cdv A outer s H E) (defBody (top 16)) (tS ⟨C, vs, [0]⟩ W m_is_fraction) :=
  (rs_cons (rs_if (PW.pt (rt_or (rt_not (rt_bl (r_call g F_is_pair (by decide) rfl (r_cons (r_varA 0 rfl (by first | exact .inl rfl | exact .inr (.inl rfl) | exact .inr (.inr rfl))) r_nil)))) (rt_or (rt_not (rt_bl (r_call g F_is_integer (by decide) rfl (r_cons (r_frz (r_ix g.toSt0 (r_varA 0 rfl (by first | exact .inl rfl | exact .inr (.inl rfl) | exact .inr (.inr rfl))) (r_frz r_int))) r_nil)))) (rt_or (rt_not (rt_bl (r_call g F_is_integer (by decide) rfl (r_cons (r_frz (r_ix g.toSt0 (r_varA 0 rfl (by first | exact .inl rfl | exact .inr (.inl rfl) | exact .inr (.inr rfl))) (r_frz r_int))) r_nil)))) (rt_or1 (rt_cmp g.toSt0 rfl (r_frz (r_ix g.toSt0 (r_varA 0 rfl (by first | exact .inl rfl | exact .inr (.inl rfl) | exact .inr (.inr rfl))) (r_frz r_int))) (r_frz r_int))))))) (rs_one (rs_ret r_bl)) rs_nil)
  (rs_one (rs_ret (r_cmp g.toSt0 rfl (r_frz (r_call g F_common_divisor (by decide) rfl (r_cons (r_frz (r_ix g.toSt0 (r_varA 0 rfl (by first | exact .inl rfl | exact .inr (.inl rfl) | exact .inr (.inr rfl))) (r_frz r_int))) (r_cons (r_frz (r_ix g.toSt0 (r_varA 0 rfl (by first | exact .inl rfl | exact .inr (.inl rfl) | exact .inr (.inr rfl))) (r_frz r_int))) r_nil)))) (r_frz r_int)))))
theorem sc_is_number_of : FnScope ["world", "thing"] ["world", "thing"] (defScope (top 22)) := ⟨rfl, rfl, rfl, by decide +kernel, rfl, by decide +kernel, by decide +kernel⟩
theorem b_is_number_of {C : KM} (T : Txt C) (F_is_integer : Fn C 1 "is_integer" g_is_integer) (F_is_fraction : Fn C 2 "is_fraction" g_is_fraction) (F_is_within : Fn C 2 "is_within" g_is_within) (base : Heap) (f : Addr) (cdv : Value) (A : Around) (outer : List Env) (s : Shared) (H : Hp) (E : XK) (vs : List V) (W : WX) (g : Go (CxD C base ["world", "thing"] "is_number_of" (defScope (top 22)) f cdv A outer s H E) ⟨C, vs, [0, 1]⟩ W 2) : PSs (CxD C base ["world", "thing"] "is_number_of" (defScope (top 22)) f cdv A outer s H E) (defBody (top 22)) (tS ⟨C, vs, [0, 1]⟩ W m_is_number_of) :=
  (rs_cons (rs_if (rt_cmp g.toSt0 rfl (r_varA 0 rfl (by first | exact .inl rfl | exact .inr (.inl rfl) | exact .inr (.inr rfl))) (r_frz (r_gInt g.toSt0 T.c_WHOLE rfl))) (rs_one (rs_ret (r_call g F_is_integer (by decide) rfl (r_cons (r_varA 1 rfl (by first | exact .inl rfl | exact .inr (.inl rfl) | exact .inr (.inr rfl))) r_nil)))) rs_nil)
  (rs_cons (rs_if (rt_cmp g.toSt0 rfl (r_varA 0 rfl (by first | exact .inl rfl | exact .inr (.inl rfl) | exact .inr (.inr rfl))) (r_frz (r_gInt g.toSt0 T.c_FRACTIONS rfl))) (rs_one (rs_ret (r_call g F_is_fraction (by decide) rfl (r_cons (r_varA 1 rfl (by first | exact .inl rfl | exact .inr (.inl rfl) | exact .inr (.inr rfl))) r_nil)))) rs_nil)
  (rs_one (rs_ret (r_call g F_is_within (by decide) rfl (r_cons (r_varA 1 rfl (by first | exact .inl rfl | exact .inr (.inl rfl) | exact .inr (.inr rfl))) (r_cons (r_frz r_int) (r_cons (r_frz (r_bin g.toSt0 rfl (r_varA 0 rfl (by first | exact .inl rfl | exact .inr (.inl rfl) | exact .inr (.inr rfl))) (r_frz r_int))) r_nil))))))))
theorem sc_are_numbers : FnScope ["book", "names", "thing", "place"] ["book", "names", "thing"] (defScope (top 40)) := ⟨rfl, rfl, rfl, by decide +kernel, rfl, by decide +kernel, by decide +kernel⟩
theorem b_are_numbers {C : KM} (T : Txt C) (F_is_place_of : Fn C 2 "is_place_of" g_is_place_of) (F_is_number_of : Fn C 3 "is_number_of" g_is_number_of) (base : Heap) (f : Addr) (cdv : Value) (A : Around) (outer : List Env) (s : Shared) (H : Hp) (E : XK) (vs : List V) (W : WX) (g : Go (CxD C base ["book", "names", "thing", "place"] "are_numbers" (defScope (top 40)) f cdv A outer s H E) ⟨C, vs, [0, 1, 2]⟩ W 3) : PSs (CxD C base ["book", "names", "thing", "place"] "are_numbers" (defScope (top 40)) f cdv A outer s H E) (defBody (top 40)) (tS ⟨C, vs, [0, 1, 2]⟩ W m_are_numbers) :=
  (rs_cons (rs_if (rt_not (rt_bl (r_isi g.toSt0 .tDic (r_varA 2 rfl (by first | exact .inl rfl | exact .inr (.inl rfl) | exact .inr (.inr rfl))) T.n_isinstance T.n_dict rfl rfl (by rfl) (by rfl)))) (rs_one (rs_ret r_bl)) rs_nil)
  (rs_one (rs_ret (r_cb g.toSt0 (call_allD g.cm) T.n_all (by rfl) rfl (r_cons (r_frz (r_lcE g 2 [("place", 3)] (.nm 3) rfl (by first | exact .inl rfl | exact .inr (.inl rfl) | exact .inr (.inr rfl)) (blkOk_by (N := ["book", "names", "thing", "place"]) (sc := defScope (top 40)) (by decide +kernel)) (fun _ _ _ _ _ => (rg_nm (g.blk ..).toSt0 3 rfl (by first | exact .inl rfl | exact .inr rfl))) (fun _ _ _ _ _ g => rts_nil) (fun _ _ _ _ _ g => (r_and (r_call g F_is_place_of (by decide) rfl (r_cons (r_varA 0 rfl (by first | exact .inl rfl | exact .inr (.inl rfl) | exact .inr (.inr rfl))) (r_cons (r_varA 1 rfl (by first | exact .inl rfl | exact .inr (.inl rfl) | exact .inr (.inr rfl))) (r_cons (r_varA 3 rfl (by first | exact .inl rfl | exact .inr (.inl rfl) | exact .inr (.inr rfl))) r_nil)))) (r_one (r_call g F_is_number_of (by decide) rfl (r_cons (r_frz (r_fld g.toSt0 cs_world T.f_world (r_varA 0 rfl (by first | exact .inl rfl | exact .inr (.inl rfl) | exact .inr (.inr rfl))))) (r_cons (r_frz (r_ix g.toSt0 (r_varA 2 rfl (by first | exact .inl rfl | exact .inr (.inl rfl) | exact .inr (.inr rfl))) (r_varA 3 rfl (by first | exact .inl rfl | exact .inr (.inl rfl) | exact .inr (.inr rfl))))) r_nil)))))))) r_nil)))))
theorem sc_Party__init : FnScope ["self", "book", "names", "numbers"] ["self", "book", "names", "numbers"] (defScope (inClass (top 41) 0)) := ⟨rfl, rfl, rfl, by decide +kernel, rfl, by decide +kernel, by decide +kernel⟩
theorem b_Party__init {C : KM} (T : Txt C) (F_are_names : Fn C 3 "are_names" g_are_names) (F_are_numbers : Fn C 4 "are_numbers" g_are_numbers) (base : Heap) (f : Addr) (cdv : Value) (A : Around) (outer : List Env) (s : Shared) (H : Hp) (E : XK) (vs : List V) (W : WX) (g : Go (CxD C base ["self", "book", "names", "numbers"] "Party.__init__" (defScope (inClass (top 41) 0)) f cdv A outer s H E) ⟨C, vs, [0, 1, 2, 3]⟩ W 4) : PSs (CxD C base ["self", "book", "names", "numbers"] "Party.__init__" (defScope (inClass (top 41) 0)) f cdv A outer s H E) (defBody (inClass (top 41) 0)) (tS ⟨C, vs, [0, 1, 2, 3]⟩ W m_Party__init) :=
  (rs_cons (rs_if (rt_not (rt_bl (r_call g F_are_names (by decide) rfl (r_cons (r_varA 2 rfl (by first | exact .inl rfl | exact .inr (.inl rfl) | exact .inr (.inr rfl))) r_nil)))) (rs_one rs_bad) rs_nil)
  (rs_cons (rs_if (rt_not (rt_bl (r_call g F_are_numbers (by decide) rfl (r_cons (r_varA 1 rfl (by first | exact .inl rfl | exact .inr (.inl rfl) | exact .inr (.inr rfl))) (r_cons (r_varA 2 rfl (by first | exact .inl rfl | exact .inr (.inl rfl) | exact .inr (.inr rfl))) (r_cons (r_varA 3 rfl (by first | exact .inl rfl | exact .inr (.inl rfl) | exact .inr (.inr rfl))) r_nil)))))) (rs_one rs_bad) rs_nil)
  (rs_cons (rs_fld g.toSt0 0 cs_book T.f_book rfl (by first | exact .inl rfl | exact .inr (.inl rfl) | exact .inr (.inr rfl)) (r_varE 1 rfl (by first | exact .inl rfl | exact .inr (.inl rfl) | exact .inr (.inr rfl))))
  (rs_cons (rs_fld g.toSt0 0 cs_names T.f_names rfl (by first | exact .inl rfl | exact .inr (.inl rfl) | exact .inr (.inr rfl)) (r_varE 2 rfl (by first | exact .inl rfl | exact .inr (.inl rfl) | exact .inr (.inr rfl))))
  (rs_one (rs_fld g.toSt0 0 cs_kept T.f_kept rfl (by first | exact .inl rfl | exact .inr (.inl rfl) | exact .inr (.inr rfl)) (r_copy g.toSt0 (r_varA 3 rfl (by first | exact .inl rfl | exact .inr (.inl rfl) | exact .inr (.inr rfl))))))))))
theorem sc_Book___eq__ : FnScope ["self", "other"] ["self", "other"] (defScope (inClass (top 35) 1)) := ⟨rfl, rfl, rfl, by decide +kernel, rfl, by decide +kernel, by decide +kernel⟩
theorem b_Book___eq__ {C : KM} (T : Txt C)  (base : Heap) (f : Addr) (cdv : Value) (A : Around) (outer : List Env) (s : Shared) (H : Hp) (E : XK) (vs : List V) (W : WX) (g : Go (CxD C base ["self", "other"] "Book.__eq__" (defScope (inClass (top 35) 1)) f cdv A outer s H E) ⟨C, vs, [0, 1]⟩ W 0) : PSs (CxD C base ["self", "other"] "Book.__eq__" (defScope (inClass (top 35) 1)) f cdv A outer s H E) (defBody (inClass (top 35) 1)) (tS ⟨C, vs, [0, 1]⟩ W m_Book___eq__) :=
  (rs_cons (rs_if (PW.pt (rt_or (rt_not (rt_bl (r_isC g.toSt0 clsl T.i_Book (r_varA 1 rfl (by first | exact .inl rfl | exact .inr (.inl rfl) | exact .inr (.inr rfl))) T.n_isinstance rfl rfl (by rfl)))) (rt_or1 (rt_cmp g.toSt0 rfl (r_frz (r_fld g.toSt0 cs_world T.f_world (r_varA 0 rfl (by first | exact .inl rfl | exact .inr (.inl rfl) | exact .inr (.inr rfl))))) (r_frz (r_fld g.toSt0 cs_world T.f_world (r_varA 1 rfl (by first | exact .inl rfl | exact .inr (.inl rfl) | exact .inr (.inr rfl))))))))) (rs_one (rs_ret r_bl)) rs_nil)
  (rs_one (rs_ret (r_and (r_cmp g.toSt0 rfl (r_frz (r_fld g.toSt0 cs_tables T.f_tables (r_varA 0 rfl (by first | exact .inl rfl | exact .inr (.inl rfl) | exact .inr (.inr rfl))))) (r_frz (r_fld g.toSt0 cs_tables T.f_tables (r_varA 1 rfl (by first | exact .inl rfl | exact .inr (.inl rfl) | exact .inr (.inr rfl)))))) (r_one (r_cmp g.toSt0 rfl (r_frz (r_fld g.toSt0 cs_demands T.f_demands (r_varA 0 rfl (by first | exact .inl rfl | exact .inr (.inl rfl) | exact .inr (.inr rfl))))) (r_frz (r_fld g.toSt0 cs_demands T.f_demands (r_varA 1 rfl (by first | exact .inl rfl | exact .inr (.inl rfl) | exact .inr (.inr rfl)))))))))))
theorem sc_Party___eq__ : FnScope ["self", "other"] ["self", "other"] (defScope (inClass (top 41) 1)) := ⟨rfl, rfl, rfl, by decide +kernel, rfl, by decide +kernel, by decide +kernel⟩
theorem b_Party___eq__ {C : KM} (T : Txt C)  (base : Heap) (f : Addr) (cdv : Value) (A : Around) (outer : List Env) (s : Shared) (H : Hp) (E : XK) (vs : List V) (W : WX) (g : Go (CxD C base ["self", "other"] "Party.__eq__" (defScope (inClass (top 41) 1)) f cdv A outer s H E) ⟨C, vs, [0, 1]⟩ W 0) : PSs (CxD C base ["self", "other"] "Party.__eq__" (defScope (inClass (top 41) 1)) f cdv A outer s H E) (defBody (inClass (top 41) 1)) (tS ⟨C, vs, [0, 1]⟩ W m_Party___eq__) :=
  (rs_cons (rs_if (PW.pt (rt_or (rt_not (rt_bl (r_isC g.toSt0 clsl T.i_Party (r_varA 1 rfl (by first | exact .inl rfl | exact .inr (.inl rfl) | exact .inr (.inr rfl))) T.n_isinstance rfl rfl (by rfl)))) (rt_or1 (rt_cmp g.toSt0 rfl (r_frz (r_fld g.toSt0 cs_book T.f_book (r_varA 0 rfl (by first | exact .inl rfl | exact .inr (.inl rfl) | exact .inr (.inr rfl))))) (r_frz (r_fld g.toSt0 cs_book T.f_book (r_varA 1 rfl (by first | exact .inl rfl | exact .inr (.inl rfl) | exact .inr (.inr rfl))))))))) (rs_one (rs_ret r_bl)) rs_nil)
  (rs_one (rs_ret (r_and (r_cmp g.toSt0 rfl (r_frz (r_fld g.toSt0 cs_names T.f_names (r_varA 0 rfl (by first | exact .inl rfl | exact .inr (.inl rfl) | exact .inr (.inr rfl))))) (r_frz (r_fld g.toSt0 cs_names T.f_names (r_varA 1 rfl (by first | exact .inl rfl | exact .inr (.inl rfl) | exact .inr (.inr rfl)))))) (r_one (r_cmp g.toSt0 rfl (r_frz (r_fld g.toSt0 cs_kept T.f_kept (r_varA 0 rfl (by first | exact .inl rfl | exact .inr (.inl rfl) | exact .inr (.inr rfl))))) (r_frz (r_fld g.toSt0 cs_kept T.f_kept (r_varA 1 rfl (by first | exact .inl rfl | exact .inr (.inl rfl) | exact .inr (.inr rfl)))))))))))
theorem sc__law_is_apart : FnScope ["_law_book", "_law_parts", "_law_thing"] ["_law_book", "_law_parts"] (defScope (top 54)) := ⟨rfl, rfl, rfl, by decide +kernel, rfl, by decide +kernel, by decide +kernel⟩
theorem b__law_is_apart {C : KM} (T : Txt C) (M_Party : MkOk C 5 "Party" g_Party__init) (EQ : ∀ c g, List.lookup c eqtab = some g → EqCls C 1 c (eqtab.map (·.1)) g)  (base : Heap) (f : Addr) (cdv : Value) (A : Around) (outer : List Env) (s : Shared) (H : Hp) (E : XK) (vs : List V) (W : WX) (g : Go (CxD C base ["_law_book", "_law_parts", "_law_thing"] "_law_is_apart" (defScope (top 54)) f cdv A outer s H E) ⟨C, vs, [0, 1]⟩ W 6) : PSs (CxD C base ["_law_book", "_law_parts", "_law_thing"] "_law_is_apart" (defScope (top 54)) f cdv A outer s H E) (defBody (top 54)) (tS ⟨C, vs, [0, 1]⟩ W m__law_is_apart) :=
  (rs_cons (rs_for g (.nm 2) (show (2 : Nat) ∉ [0, 1] by decide) (ri_val g.toSt0 (r_frz (r_lst (r_cons (r_frz (r_varE 1 rfl (by first | exact .inl rfl | exact .inr (.inl rfl) | exact .inr (.inr rfl)))) (r_cons (r_frz (r_cty g.toSt0 (call_listY g.k.symm g.cm) T.n_list (by rfl) rfl (r_cons (r_varA 1 rfl (by first | exact .inl rfl | exact .inr (.inl rfl) | exact .inr (.inr rfl))) r_nil))) (r_cons (r_frz (r_ix g.toSt0 (r_varA 1 rfl (by first | exact .inl rfl | exact .inr (.inl rfl) | exact .inr (.inr rfl))) (r_frz r_int))) (r_cons (r_frz (r_ix g.toSt0 (r_varA 1 rfl (by first | exact .inl rfl | exact .inr (.inl rfl) | exact .inr (.inr rfl))) (r_frz r_int))) (r_cons (r_frz r_str) (r_cons (r_frz r_non) (r_cons (r_frz r_bl) (r_cons (r_frz (r_make g M_Party (by decide) rfl (r_cons (r_varA 0 rfl (by first | exact .inl rfl | exact .inr (.inl rfl) | exact .inr (.inr rfl))) (r_cons (r_frz (r_tup r_nil)) (r_cons (r_frz r_dic0) r_nil))))) r_nil))))))))))) (rg_nm g.toSt0 2 rfl (by first | exact .inl rfl | exact .inr rfl)) (rs_one (rs_if (PW.pt (rt_or (rt_eqO g EQ (by decide) (r_frz (r_varE 0 rfl (by first | exact .inl rfl | exact .inr (.inl rfl) | exact .inr (.inr rfl)))) (r_frz (r_varE 2 rfl (by first | exact .inl rfl | exact .inr (.inl rfl) | exact .inr (.inr rfl))))) (rt_or (rt_eqO g EQ (by decide) (r_frz (r_varE 2 rfl (by first | exact .inl rfl | exact .inr (.inl rfl) | exact .inr (.inr rfl)))) (r_frz (r_varE 0 rfl (by first | exact .inl rfl | exact .inr (.inl rfl) | exact .inr (.inr rfl))))) (rt_or1 (rt_not (rt_neO g EQ (by decide) (r_frz (r_varE 0 rfl (by first | exact .inl rfl | exact .inr (.inl rfl) | exact .inr (.inr rfl)))) (r_frz (r_varE 2 rfl (by first | exact .inl rfl | exact .inr (.inl rfl) | exact .inr (.inr rfl)))))))))) (rs_one (rs_ret r_bl)) rs_nil)))
  (rs_one (rs_ret r_bl)))
theorem sc__law_term : FnScope ["_law_deck_here", "_law_tables_here", "_law_label", "_law_size", "_law_rest", "_law_letters", "_law_turn"] ["_law_deck_here", "_law_tables_here"] (defScope (top 46)) := ⟨rfl, rfl, rfl, by decide +kernel, rfl, by decide +kernel, by decide +kernel⟩
theorem b__law_term {C : KM} (T : Txt C) (F__law_pick : Fn C 1 "_law_pick" g__law_pick) (base : Heap) (f : Addr) (cdv : Value) (A : Around) (outer : List Env) (s : Shared) (H : Hp) (E : XK) (vs : List V) (W : WX) (g : Go (CxD C base ["_law_deck_here", "_law_tables_here", "_law_label", "_law_size", "_law_rest", "_law_letters", "_law_turn"] "_law_term" (defScope (top 46)) f cdv A outer s H E) ⟨C, vs, [0, 1]⟩ W 1) : PSs (CxD C base ["_law_deck_here", "_law_tables_here", "_law_label", "_law_size", "_law_rest", "_law_letters", "_law_turn"] "_law_term" (defScope (top 46)) f cdv A outer s H E) (defBody (top 46)) (tS ⟨C, vs, [0, 1]⟩ W m__law_term) :=
  (rs_cons (rs_setT (.tp [(.nm 2), (.nm 3)]) ⟨(show (2 : Nat) ∉ [0, 1] by decide), ⟨(show (3 : Nat) ∉ [0, 1] by decide), trivial⟩⟩ (r_ix g.toSt0 (r_varA 1 rfl (by first | exact .inl rfl | exact .inr (.inl rfl) | exact .inr (.inr rfl))) (r_frz (r_call g F__law_pick (by decide) rfl (r_cons (r_varA 0 rfl (by first | exact .inl rfl | exact .inr (.inl rfl) | exact .inr (.inr rfl))) (r_cons (r_frz (r_cb g.toSt0 (call_lenDD g.k.symm) T.n_len (by rfl) rfl (r_cons (r_varA 1 rfl (by first | exact .inl rfl | exact .inr (.inl rfl) | exact .inr (.inr rfl))) r_nil))) r_nil))))) (rg_tup g.toSt0 g.cm (rg_cons (rg_nm g.toSt0 2 rfl (by first | exact .inl rfl | exact .inr rfl)) (rg_cons (rg_nm g.toSt0 3 rfl (by first | exact .inl rfl | exact .inr rfl)) rg_nil))))
  (rs_cons (rs_set g.toSt0 4 (show (4 : Nat) ∉ [0, 1] by decide) rfl (by first | exact .inl rfl | exact .inr rfl) (r_lst (r_cons (r_frz r_str) (r_cons (r_frz r_str) (r_cons (r_frz r_str) (r_cons (r_frz r_str) r_nil))))))
  (rs_cons (rs_set g.toSt0 5 (show (5 : Nat) ∉ [0, 1] by decide) rfl (by first | exact .inl rfl | exact .inr rfl) r_str)
  (rs_cons (rs_for g (.nm 6) (show (6 : Nat) ∉ [0, 1] by decide) (ri_rng1 g.toSt0 T.n_range rfl (r_cons (r_varA 3 rfl (by first | exact .inl rfl | exact .inr (.inl rfl) | exact .inr (.inr rfl))) r_nil)) (rg_nm g.toSt0 6 rfl (by first | exact .inl rfl | exact .inr rfl)) (rs_one (rs_set g.toSt0 5 (show (5 : Nat) ∉ [0, 1] by decide) rfl (by first | exact .inl rfl | exact .inr rfl) (r_bin g.toSt0 rfl (r_varA 5 rfl (by first | exact .inl rfl | exact .inr (.inl rfl) | exact .inr (.inr rfl))) (r_frz (r_popAt g.toSt0 4 rfl (by first | exact .inl rfl | exact .inr (.inl rfl) | exact .inr (.inr rfl)) (r_cons (r_frz (r_call g F__law_pick (by decide) rfl (r_cons (r_varA 0 rfl (by first | exact .inl rfl | exact .inr (.inl rfl) | exact .inr (.inr rfl))) (r_cons (r_frz (r_cb g.toSt0 (call_lenDD g.k.symm) T.n_len (by rfl) rfl (r_cons (r_varA 4 rfl (by first | exact .inl rfl | exact .inr (.inl rfl) | exact .inr (.inr rfl))) r_nil))) r_nil)))) r_nil)))))))
  (rs_one (rs_ret (r_tup (r_cons (r_frz (r_ix g.toSt0 (r_frz (r_lst (r_cons (r_frz r_int) (r_cons (r_frz (r_neg (r_frz r_int))) (r_cons (r_frz r_int) (r_cons (r_frz r_int) (r_cons (r_frz (r_neg (r_frz r_int))) r_nil))))))) (r_frz (r_call g F__law_pick (by decide) rfl (r_cons (r_varA 0 rfl (by first | exact .inl rfl | exact .inr (.inl rfl) | exact .inr (.inr rfl))) (r_cons (r_frz r_int) r_nil)))))) (r_cons (r_frz (r_varE 2 rfl (by first | exact .inl rfl | exact .inr (.inl rfl) | exact .inr (.inr rfl)))) (r_cons (r_frz (r_varE 5 rfl (by first | exact .inl rfl | exact .inr (.inl rfl) | exact .inr (.inr rfl)))) r_nil))))))))))
theorem sc__law_demands : FnScope ["_law_deck_here", "_law_tables_here", "_law_found", "_law_turn", "_law_terms", "_law_index"] ["_law_deck_here", "_law_tables_here"] (defScope (top 47)) := ⟨rfl, rfl, rfl, by decide +kernel, rfl, by decide +kernel, by decide +kernel⟩
theorem b__law_demands {C : KM} (T : Txt C) (F__law_pick : Fn C 1 "_law_pick" g__law_pick) (F__law_term : Fn C 2 "_law_term" g__law_term) (base : Heap) (f : Addr) (cdv : Value) (A : Around) (outer : List Env) (s : Shared) (H : Hp) (E : XK) (vs : List V) (W : WX) (g : Go (CxD C base ["_law_deck_here", "_law_tables_here", "_law_found", "_law_turn", "_law_terms", "_law_index"] "_law_demands" (defScope (top 47)) f cdv A outer s H E) ⟨C, vs, [0, 1]⟩ W 2) : PSs (CxD C base ["_law_deck_here", "_law_tables_here", "_law_found", "_law_turn", "_law_terms", "_law_index"] "_law_demands" (defScope (top 47)) f cdv A outer s H E) (defBody (top 47)) (tS ⟨C, vs, [0, 1]⟩ W m__law_demands) :=
  (rs_cons (rs_set g.toSt0 2 (show (2 : Nat) ∉ [0, 1] by decide) rfl (by first | exact .inl rfl | exact .inr rfl) (r_lst r_nil))
  (rs_cons (rs_for g (.nm 3) (show (3 : Nat) ∉ [0, 1] by decide) (ri_rng1 g.toSt0 T.n_range rfl (r_cons (r_frz (r_call g F__law_pick (by decide) rfl (r_cons (r_varA 0 rfl (by first | exact .inl rfl | exact .inr (.inl rfl) | exact .inr (.inr rfl))) (r_cons (r_frz r_int) r_nil)))) r_nil)) (rg_nm g.toSt0 3 rfl (by first | exact .inl rfl | exact .inr rfl)) (rs_cons (rs_lc g 4 [("_law_index", 5)] (.nm 5) (show (4 : Nat) ∉ [0, 1] by decide) (show (5 : Nat) ∉ [0, 1] by decide) (show ∀ i ∈ [0, 1], i ∉ [5] by decide) (show (5 : Nat) ∈ [5] by decide) rfl rfl (sw_true rfl rfl rfl (by decide +kernel)) (ri_rng1 g.toSt0 T.n_range rfl (r_cons (r_frz (r_bin g.toSt0 rfl (r_frz r_int) (r_frz (r_call g F__law_pick (by decide) rfl (r_cons (r_varA 0 rfl (by first | exact .inl rfl | exact .inr (.inl rfl) | exact .inr (.inr rfl))) (r_cons (r_frz r_int) r_nil)))))) r_nil)) (blkOk_by (N := ["_law_deck_here", "_law_tables_here", "_law_found", "_law_turn", "_law_terms", "_law_index"]) (sc := defScope (top 47)) (by decide +kernel)) (fun _ _ _ _ _ => (rg_nm (g.blk ..).toSt0 5 rfl (by first | exact .inl rfl | exact .inr rfl))) (fun _ _ _ _ _ g => rts_nil) (fun _ _ _ _ _ g => (r_call g F__law_term (by decide) rfl (r_cons (r_varA 0 rfl (by first | exact .inl rfl | exact .inr (.inl rfl) | exact .inr (.inr rfl))) (r_cons (r_varA 1 rfl (by first | exact .inl rfl | exact .inr (.inl rfl) | exact .inr (.inr rfl))) r_nil)))))
  (rs_one (rs_expr (r_append g.toSt0 2 rfl (by first | exact .inl rfl | exact .inr (.inl rfl) | exact .inr (.inr rfl)) (r_cons (r_frz (r_tup (r_cons (r_frz (r_cty g.toSt0 (call_tupleD g.k.symm) T.n_tuple (by rfl) rfl (r_cons (r_varA 4 rfl (by first | exact .inl rfl | exact .inr (.inl rfl) | exact .inr (.inr rfl))) r_nil))) (r_cons (r_frz (r_ix g.toSt0 (r_frz (r_lst (r_cons (r_frz r_int) (r_cons (r_frz r_int) (r_cons (r_frz (r_neg (r_frz r_int))) (r_cons (r_frz r_int) (r_cons (r_frz (r_neg (r_frz r_int))) r_nil))))))) (r_frz (r_call g F__law_pick (by decide) rfl (r_cons (r_varA 0 rfl (by first | exact .inl rfl | exact .inr (.inl rfl) | exact .inr (.inr rfl))) (r_cons (r_frz r_int) r_nil)))))) r_nil)))) r_nil))))))
  (rs_one (rs_ret (r_cty g.toSt0 (call_tupleD g.k.symm) T.n_tuple (by rfl) rfl (r_cons (r_varA 2 rfl (by first | exact .inl rfl | exact .inr (.inl rfl) | exact .inr (.inr rfl))) r_nil))))))
theorem sc__law_is_flag : FnScope ["_law_flag", "_law_due"] ["_law_flag", "_law_due"] (defScope (top 52)) := ⟨rfl, rfl, rfl, by decide +kernel, rfl, by decide +kernel, by decide +kernel⟩
theorem b__law_is_flag {C : KM} (T : Txt C)  (base : Heap) (f : Addr) (cdv : Value) (A : Around) (outer : List Env) (s : Shared) (H : Hp) (E : XK) (vs : List V) (W : WX) (g : Go (CxD C base ["_law_flag", "_law_due"] "_law_is_flag" (defScope (top 52)) f cdv A outer s H E) ⟨C, vs, [0, 1]⟩ W 0) : PSs (CxD C base ["_law_flag", "_law_due"] "_law_is_flag" (defScope (top 52)) f cdv A outer s H E) (defBody (top 52)) (tS ⟨C, vs, [0, 1]⟩ W m__law_is_flag) :=
  (rs_cons (rs_if (rt_tru g.toSt0 (r_varA 1 rfl (by first | exact .inl rfl | exact .inr (.inl rfl) | exact .inr (.inr rfl)))) (rs_one (rs_ret (r_cmp g.toSt0 rfl (r_varA 0 rfl (by first | exact .inl rfl | exact .inr (.inl rfl) | exact .inr (.inr rfl))) (r_frz r_bl)))) rs_nil)
  (rs_one (rs_ret (r_cmp g.toSt0 rfl (r_varA 0 rfl (by first | exact .inl rfl | exact .inr (.inl rfl) | exact .inr (.inr rfl))) (r_frz r_bl)))))
theorem sc__law_is_compared : FnScope ["_law_one", "_law_parts", "_law_other", "_law_more", "_law_due"] ["_law_one", "_law_parts", "_law_other", "_law_more"] (defScope (top 53)) := ⟨rfl, rfl, rfl, by decide +kernel, rfl, by decide +kernel, by decide +kernel⟩
theorem b__law_is_compared {C : KM} (T : Txt C) (F__law_is_flag : Fn C 1 "_law_is_flag" g__law_is_flag) (EQ : ∀ c g, List.lookup c eqtab = some g → EqCls C 1 c (eqtab.map (·.1)) g)  (base : Heap) (f : Addr) (cdv : Value) (A : Around) (outer : List Env) (s : Shared) (H : Hp) (E : XK) (vs : List V) (W : WX) (g : Go (CxD C base ["_law_one", "_law_parts", "_law_other", "_law_more", "_law_due"] "_law_is_compared" (defScope (top 53)) f cdv A outer s H E) ⟨C, vs, [0, 1, 2, 3]⟩ W 2) : PSs (CxD C base ["_law_one", "_law_parts", "_law_other", "_law_more", "_law_due"] "_law_is_compared" (defScope (top 53)) f cdv A outer s H E) (defBody (top 53)) (tS ⟨C, vs, [0, 1, 2, 3]⟩ W m__law_is_compared) :=
  (rs_cons (rs_set g.toSt0 4 (show (4 : Nat) ∉ [0, 1, 2, 3] by decide) rfl (by first | exact .inl rfl | exact .inr rfl) (r_cmp g.toSt0 rfl (r_varA 1 rfl (by first | exact .inl rfl | exact .inr (.inl rfl) | exact .inr (.inr rfl))) (r_varA 3 rfl (by first | exact .inl rfl | exact .inr (.inl rfl) | exact .inr (.inr rfl)))))
  (rs_one (rs_ret (r_and (r_call g F__law_is_flag (by decide) rfl (r_cons (r_frz (r_eqO g EQ (by decide) (r_frz (r_varE 0 rfl (by first | exact .inl rfl | exact .inr (.inl rfl) | exact .inr (.inr rfl)))) (r_frz (r_varE 2 rfl (by first | exact .inl rfl | exact .inr (.inl rfl) | exact .inr (.inr rfl)))))) (r_cons (r_varA 4 rfl (by first | exact .inl rfl | exact .inr (.inl rfl) | exact .inr (.inr rfl))) r_nil))) (r_and (r_call g F__law_is_flag (by decide) rfl (r_cons (r_frz (r_eqO g EQ (by decide) (r_frz (r_varE 2 rfl (by first | exact .inl rfl | exact .inr (.inl rfl) | exact .inr (.inr rfl)))) (r_frz (r_varE 0 rfl (by first | exact .inl rfl | exact .inr (.inl rfl) | exact .inr (.inr rfl)))))) (r_cons (r_varA 4 rfl (by first | exact .inl rfl | exact .inr (.inl rfl) | exact .inr (.inr rfl))) r_nil))) (r_one (r_call g F__law_is_flag (by decide) rfl (r_cons (r_frz (r_neO g EQ (by decide) (r_frz (r_varE 0 rfl (by first | exact .inl rfl | exact .inr (.inl rfl) | exact .inr (.inr rfl)))) (r_frz (r_varE 2 rfl (by first | exact .inl rfl | exact .inr (.inl rfl) | exact .inr (.inr rfl)))))) (r_cons (r_frz (r_not (r_varE 4 rfl (by first | exact .inl rfl | exact .inr (.inl rfl) | exact .inr (.inr rfl))))) r_nil)))))))))
theorem sc_law : FnScope ["_law_script", "_law_deck_here", "_law_kept", "_law_turn", "_law_world", "_law_tables_here", "_law_books", "_law_parts", "_law_at", "_law_other"] ["_law_script"] (defScope (top 55)) := ⟨rfl, rfl, rfl, by decide +kernel, rfl, by decide +kernel, by decide +kernel⟩
theorem b_law {C : KM} (T : Txt C) (F__law_deck : Fn C 1 "_law_deck" g__law_deck) (F__law_pick : Fn C 1 "_law_pick" g__law_pick) (F__law_tables : Fn C 2 "_law_tables" g__law_tables) (F__law_demands : Fn C 3 "_law_demands" g__law_demands) (F__law_others : Fn C 3 "_law_others" g__law_others) (M_Book : MkOk C 5 "Book" g_Book__init) (F__law_is_kept : Fn C 1 "_law_is_kept" g__law_is_kept) (F__law_is_compared : Fn C 3 "_law_is_compared" g__law_is_compared) (F__law_is_apart : Fn C 7 "_law_is_apart" g__law_is_apart) (base : Heap) (f : Addr) (cdv : Value) (A : Around) (outer : List Env) (s : Shared) (H : Hp) (E : XK) (vs : List V) (W : WX) (g : Go (CxD C base ["_law_script", "_law_deck_here", "_law_kept", "_law_turn", "_law_world", "_law_tables_here", "_law_books", "_law_parts", "_law_at", "_law_other"] "law" (defScope (top 55)) f cdv A outer s H E) ⟨C, vs, [0]⟩ W 7) : PSs (CxD C base ["_law_script", "_law_deck_here", "_law_kept", "_law_turn", "_law_world", "_law_tables_here", "_law_books", "_law_parts", "_law_at", "_law_other"] "law" (defScope (top 55)) f cdv A outer s H E) (defBody (top 55)) (tS ⟨C, vs, [0]⟩ W m_law) :=
  (rs_cons (rs_set g.toSt0 1 (show (1 : Nat) ∉ [0] by decide) rfl (by first | exact .inl rfl | exact .inr rfl) (r_call g F__law_deck (by decide) rfl (r_cons (r_varA 0 rfl (by first | exact .inl rfl | exact .inr (.inl rfl) | exact .inr (.inr rfl))) r_nil)))
  (rs_cons (rs_set g.toSt0 2 (show (2 : Nat) ∉ [0] by decide) rfl (by first | exact .inl rfl | exact .inr rfl) (r_lst r_nil))
  (rs_cons (rs_for g (.nm 3) (show (3 : Nat) ∉ [0] by decide) (ri_rng1 g.toSt0 T.n_range rfl (r_cons (r_frz r_int) r_nil)) (rg_nm g.toSt0 3 rfl (by first | exact .inl rfl | exact .inr rfl)) (rs_cons (rs_set g.toSt0 4 (show (4 : Nat) ∉ [0] by decide) rfl (by first | exact .inl rfl | exact .inr rfl) (r_ix g.toSt0 (r_frz (r_lst (r_cons (r_frz r_int) (r_cons (r_frz r_int) (r_cons (r_frz r_int) (r_cons (r_frz r_int) (r_cons (r_frz (r_call g F__law_pick (by decide) rfl (r_cons (r_varA 1 rfl (by first | exact .inl rfl | exact .inr (.inl rfl) | exact .inr (.inr rfl))) (r_cons (r_frz r_int) r_nil)))) r_nil))))))) (r_frz (r_call g F__law_pick (by decide) rfl (r_cons (r_varA 1 rfl (by first | exact .inl rfl | exact .inr (.inl rfl) | exact .inr (.inr rfl))) (r_cons (r_frz r_int) r_nil))))))
  (rs_cons (rs_set g.toSt0 5 (show (5 : Nat) ∉ [0] by decide) rfl (by first | exact .inl rfl | exact .inr rfl) (r_call g F__law_tables (by decide) rfl (r_cons (r_varA 1 rfl (by first | exact .inl rfl | exact .inr (.inl rfl) | exact .inr (.inr rfl))) r_nil)))
  (rs_one (rs_expr (r_append g.toSt0 2 rfl (by first | exact .inl rfl | exact .inr (.inl rfl) | exact .inr (.inr rfl)) (r_cons (r_frz (r_tup (r_cons (r_frz (r_varE 4 rfl (by first | exact .inl rfl | exact .inr (.inl rfl) | exact .inr (.inr rfl)))) (r_cons (r_frz (r_varE 5 rfl (by first | exact .inl rfl | exact .inr (.inl rfl) | exact .inr (.inr rfl)))) (r_cons (r_frz (r_call g F__law_demands (by decide) rfl (r_cons (r_varA 1 rfl (by first | exact .inl rfl | exact .inr (.inl rfl) | exact .inr (.inr rfl))) (r_cons (r_varA 5 rfl (by first | exact .inl rfl | exact .inr (.inl rfl) | exact .inr (.inr rfl))) r_nil)))) r_nil))))) r_nil)))))))
  (rs_cons (rs_set g.toSt0 2 (show (2 : Nat) ∉ [0] by decide) rfl (by first | exact .inl rfl | exact .inr rfl) (r_bin g.toSt0 rfl (r_varA 2 rfl (by first | exact .inl rfl | exact .inr (.inl rfl) | exact .inr (.inr rfl))) (r_frz (r_call g F__law_others (by decide) rfl (r_cons (r_varA 1 rfl (by first | exact .inl rfl | exact .inr (.inl rfl) | exact .inr (.inr rfl))) (r_cons (r_frz (r_ix g.toSt0 (r_varA 2 rfl (by first | exact .inl rfl | exact .inr (.inl rfl) | exact .inr (.inr rfl))) (r_frz r_int))) r_nil))))))
  (rs_cons (rs_set g.toSt0 6 (show (6 : Nat) ∉ [0] by decide) rfl (by first | exact .inl rfl | exact .inr rfl) (r_lc g [("_law_parts", 7)] (.nm 7) (show (7 : Nat) ∉ [0] by decide) (show ∀ i ∈ [0], i ∉ [7] by decide) (show (7 : Nat) ∈ [7] by decide) (ri_val g.toSt0 (r_frz (r_varE 2 rfl (by first | exact .inl rfl | exact .inr (.inl rfl) | exact .inr (.inr rfl))))) (blkOk_by (N := ["_law_script", "_law_deck_here", "_law_kept", "_law_turn", "_law_world", "_law_tables_here", "_law_books", "_law_parts", "_law_at", "_law_other"]) (sc := defScope (top 55)) (by decide +kernel)) (fun _ _ _ _ _ => (rg_nm (g.blk ..).toSt0 7 rfl (by first | exact .inl rfl | exact .inr rfl))) (fun _ _ _ _ _ g => rts_nil) (fun _ _ _ _ _ g => (r_make g M_Book (by decide) rfl (r_cons (r_frz (r_ix g.toSt0 (r_varA 7 rfl (by first | exact .inl rfl | exact .inr (.inl rfl) | exact .inr (.inr rfl))) (r_frz r_int))) (r_cons (r_frz (r_ix g.toSt0 (r_varA 7 rfl (by first | exact .inl rfl | exact .inr (.inl rfl) | exact .inr (.inr rfl))) (r_frz r_int))) (r_cons (r_frz (r_ix g.toSt0 (r_varA 7 rfl (by first | exact .inl rfl | exact .inr (.inl rfl) | exact .inr (.inr rfl))) (r_frz r_int))) r_nil)))))) (sw_cell rfl))
  (rs_cons (rs_for g (.nm 8) (show (8 : Nat) ∉ [0] by decide) (ri_rng1 g.toSt0 T.n_range rfl (r_cons (r_frz (r_cb g.toSt0 (call_lenDD g.k.symm) T.n_len (by rfl) rfl (r_cons (r_varA 2 rfl (by first | exact .inl rfl | exact .inr (.inl rfl) | exact .inr (.inr rfl))) r_nil))) r_nil)) (rg_nm g.toSt0 8 rfl (by first | exact .inl rfl | exact .inr rfl)) (rs_cons (rs_if (rt_not (rt_bl (r_call g F__law_is_kept (by decide) rfl (r_cons (r_frz (r_ix g.toSt0 (r_varA 6 rfl (by first | exact .inl rfl | exact .inr (.inl rfl) | exact .inr (.inr rfl))) (r_varA 8 rfl (by first | exact .inl rfl | exact .inr (.inl rfl) | exact .inr (.inr rfl))))) (r_cons (r_frz (r_ix g.toSt0 (r_varA 2 rfl (by first | exact .inl rfl | exact .inr (.inl rfl) | exact .inr (.inr rfl))) (r_varA 8 rfl (by first | exact .inl rfl | exact .inr (.inl rfl) | exact .inr (.inr rfl))))) r_nil))))) (rs_one (rs_ret r_bl)) rs_nil)
  (rs_cons (rs_for g (.nm 9) (show (9 : Nat) ∉ [0] by decide) (ri_val g.toSt0 (r_frz (r_lst (r_cons (r_frz r_int) (r_cons (r_frz r_int) (r_cons (r_frz (r_call g F__law_pick (by decide) rfl (r_cons (r_varA 1 rfl (by first | exact .inl rfl | exact .inr (.inl rfl) | exact .inr (.inr rfl))) (r_cons (r_frz (r_cb g.toSt0 (call_lenDD g.k.symm) T.n_len (by rfl) rfl (r_cons (r_varA 2 rfl (by first | exact .inl rfl | exact .inr (.inl rfl) | exact .inr (.inr rfl))) r_nil))) r_nil)))) r_nil)))))) (rg_nm g.toSt0 9 rfl (by first | exact .inl rfl | exact .inr rfl)) (rs_one (rs_if (rt_not (rt_bl (r_call g F__law_is_compared (by decide) rfl (r_cons (r_frz (r_ix g.toSt0 (r_varA 6 rfl (by first | exact .inl rfl | exact .inr (.inl rfl) | exact .inr (.inr rfl))) (r_varA 8 rfl (by first | exact .inl rfl | exact .inr (.inl rfl) | exact .inr (.inr rfl))))) (r_cons (r_frz (r_ix g.toSt0 (r_varA 2 rfl (by first | exact .inl rfl | exact .inr (.inl rfl) | exact .inr (.inr rfl))) (r_varA 8 rfl (by first | exact .inl rfl | exact .inr (.inl rfl) | exact .inr (.inr rfl))))) (r_cons (r_frz (r_ix g.toSt0 (r_varA 6 rfl (by first | exact .inl rfl | exact .inr (.inl rfl) | exact .inr (.inr rfl))) (r_varA 9 rfl (by first | exact .inl rfl | exact .inr (.inl rfl) | exact .inr (.inr rfl))))) (r_cons (r_frz (r_ix g.toSt0 (r_varA 2 rfl (by first | exact .inl rfl | exact .inr (.inl rfl) | exact .inr (.inr rfl))) (r_varA 9 rfl (by first | exact .inl rfl | exact .inr (.inl rfl) | exact .inr (.inr rfl))))) r_nil))))))) (rs_one (rs_ret r_bl)) rs_nil)))
  (rs_one (rs_if (rt_not (rt_bl (r_call g F__law_is_apart (by decide) rfl (r_cons (r_frz (r_ix g.toSt0 (r_varA 6 rfl (by first | exact .inl rfl | exact .inr (.inl rfl) | exact .inr (.inr rfl))) (r_varA 8 rfl (by first | exact .inl rfl | exact .inr (.inl rfl) | exact .inr (.inr rfl))))) (r_cons (r_frz (r_ix g.toSt0 (r_varA 2 rfl (by first | exact .inl rfl | exact .inr (.inl rfl) | exact .inr (.inr rfl))) (r_varA 8 rfl (by first | exact .inl rfl | exact .inr (.inl rfl) | exact .inr (.inr rfl))))) r_nil))))) (rs_one (rs_ret r_bl)) rs_nil)))))
  (rs_one (rs_ret (r_cb g.toSt0 (call_allD g.cm) T.n_all (by rfl) rfl (r_cons (r_frz (r_lc g [("_law_at", 8)] (.nm 8) (show (8 : Nat) ∉ [0] by decide) (show ∀ i ∈ [0], i ∉ [8] by decide) (show (8 : Nat) ∈ [8] by decide) (ri_rng1 g.toSt0 T.n_range rfl (r_cons (r_frz (r_cb g.toSt0 (call_lenDD g.k.symm) T.n_len (by rfl) rfl (r_cons (r_varA 2 rfl (by first | exact .inl rfl | exact .inr (.inl rfl) | exact .inr (.inr rfl))) r_nil))) r_nil)) (blkOk_by (N := ["_law_script", "_law_deck_here", "_law_kept", "_law_turn", "_law_world", "_law_tables_here", "_law_books", "_law_parts", "_law_at", "_law_other"]) (sc := defScope (top 55)) (by decide +kernel)) (fun _ _ _ _ _ => (rg_nm (g.blk ..).toSt0 8 rfl (by first | exact .inl rfl | exact .inr rfl))) (fun _ _ _ _ _ g => rts_nil) (fun _ _ _ _ _ g => (r_call g F__law_is_kept (by decide) rfl (r_cons (r_frz (r_ix g.toSt0 (r_varA 6 rfl (by first | exact .inl rfl | exact .inr (.inl rfl) | exact .inr (.inr rfl))) (r_varA 8 rfl (by first | exact .inl rfl | exact .inr (.inl rfl) | exact .inr (.inr rfl))))) (r_cons (r_frz (r_ix g.toSt0 (r_varA 2 rfl (by first | exact .inl rfl | exact .inr (.inl rfl) | exact .inr (.inr rfl))) (r_varA 8 rfl (by first | exact .inl rfl | exact .inr (.inl rfl) | exact .inr (.inr rfl))))) r_nil)))))) r_nil))))))))))
theorem eqtab_of {c : Str} {g : List D → Res (D × EnvD)} (h : List.lookup c eqtab = some g) : (c = "Book" ∧ g = g_Book___eq__) ∨ (c = "Party" ∧ g = g_Party___eq__) := by
  simp only [eqtab, List.lookup_cons, List.lookup_nil] at h
  split at h
  · rename_i e; cases h; exact .inl ⟨eq_of_beq e, rfl⟩
  · skip
    split at h
    · rename_i e; cases h; exact .inr ⟨eq_of_beq e, rfl⟩
    · cases h
theorem all_mk {P : Program} {w : World} {K : PySem.W.Frag} {h : Heap} {mg : Str → Option Value} {fa : Addr} (X : K.In h) (G : h.Ns mainGlobals mg) (hfa : mg "law" = some (.ref fa))
    {tFRACTIONS : Tok} {tGREAT : Tok} {tLETTERS : Tok} {tMOST_DEMANDS : Tok} {tMOST_FACTOR : Tok} {tMOST_HOURS : Tok} {tMOST_NAMES : Tok} {tMOST_RIGHT : Tok} {tMOST_SIGNS : Tok} {tMOST_SIZE : Tok} {tMOST_TABLES : Tok} {tMOST_TERMS : Tok} {tSMALL : Tok} {tWHOLE : Tok} {yBook : Addr} {yParty : Addr} {f0 : Addr} {od0 an0 : Option Addr} {sl0 : Array (Option Value)} {oc0 kV0 dc0 pm0 cd0 ct0 : Value} {f1 : Addr} {od1 an1 : Option Addr} {sl1 : Array (Option Value)} {oc1 kV1 dc1 pm1 cd1 ct1 : Value} {f2 : Addr} {od2 an2 : Option Addr} {sl2 : Array (Option Value)} {oc2 kV2 dc2 pm2 cd2 ct2 : Value} {f3 : Addr} {od3 an3 : Option Addr} {sl3 : Array (Option Value)} {oc3 kV3 dc3 pm3 cd3 ct3 : Value} {f4 : Addr} {od4 an4 : Option Addr} {sl4 : Array (Option Value)} {oc4 kV4 dc4 pm4 cd4 ct4 : Value} {f5 : Addr} {od5 an5 : Option Addr} {sl5 : Array (Option Value)} {oc5 kV5 dc5 pm5 cd5 ct5 : Value} {f6 : Addr} {od6 an6 : Option Addr} {sl6 : Array (Option Value)} {oc6 kV6 dc6 pm6 cd6 ct6 : Value} {f7 : Addr} {od7 an7 : Option Addr} {sl7 : Array (Option Value)} {oc7 kV7 dc7 pm7 cd7 ct7 : Value} {f8 : Addr} {od8 an8 : Option Addr} {sl8 : Array (Option Value)} {oc8 kV8 dc8 pm8 cd8 ct8 : Value} {f9 : Addr} {od9 an9 : Option Addr} {sl9 : Array (Option Value)} {oc9 kV9 dc9 pm9 cd9 ct9 : Value} {f10 : Addr} {od10 an10 : Option Addr} {sl10 : Array (Option Value)} {oc10 kV10 dc10 pm10 cd10 ct10 : Value} {f11 : Addr} {od11 an11 : Option Addr} {sl11 : Array (Option Value)} {oc11 kV11 dc11 pm11 cd11 ct11 : Value} {f12 : Addr} {od12 an12 : Option Addr} {sl12 : Array (Option Value)} {oc12 kV12 dc12 pm12 cd12 ct12 : Value} {f13 : Addr} {od13 an13 : Option Addr} {sl13 : Array (Option Value)} {oc13 kV13 dc13 pm13 cd13 ct13 : Value} {f14 : Addr} {od14 an14 : Option Addr} {sl14 : Array (Option Value)} {oc14 kV14 dc14 pm14 cd14 ct14 : Value} {f15 : Addr} {od15 an15 : Option Addr} {sl15 : Array (Option Value)} {oc15 kV15 dc15 pm15 cd15 ct15 : Value} {f16 : Addr} {od16 an16 : Option Addr} {sl16 : Array (Option Value)} {oc16 kV16 dc16 pm16 cd16 ct16 : Value} {f17 : Addr} {od17 an17 : Option Addr} {sl17 : Array (Option Value)} {oc17 kV17 dc17 pm17 cd17 ct17 : Value} {f18 : Addr} {od18 an18 : Option Addr} {sl18 : Array (Option Value)} {oc18 kV18 dc18 pm18 cd18 ct18 : Value} {f19 : Addr} {od19 an19 : Option Addr} {sl19 : Array (Option Value)} {oc19 kV19 dc19 pm19 cd19 ct19 : Value} {f20 : Addr} {od20 an20 : Option Addr} {sl20 : Array (Option Value)} {oc20 kV20 dc20 pm20 cd20 ct20 : Value} {f21 : Addr} {od21 an21 : Option Addr} {sl21 : Array (Option Value)} {oc21 kV21 dc21 pm21 cd21 ct21 : Value} {f22 : Addr} {od22 an22 : Option Addr} {sl22 : Array (Option Value)} {oc22 kV22 dc22 pm22 cd22 ct22 : Value} {f23 : Addr} {od23 an23 : Option Addr} {sl23 : Array (Option Value)} {oc23 kV23 dc23 pm23 cd23 ct23 : Value} {f24 : Addr} {od24 an24 : Option Addr} {sl24 : Array (Option Value)} {oc24 kV24 dc24 pm24 cd24 ct24 : Value} {f25 : Addr} {od25 an25 : Option Addr} {sl25 : Array (Option Value)} {oc25 kV25 dc25 pm25 cd25 ct25 : Value} {f26 : Addr} {od26 an26 : Option Addr} {sl26 : Array (Option Value)} {oc26 kV26 dc26 pm26 cd26 ct26 : Value} {f27 : Addr} {od27 an27 : Option Addr} {sl27 : Array (Option Value)} {oc27 kV27 dc27 pm27 cd27 ct27 : Value} {f28 : Addr} {od28 an28 : Option Addr} {sl28 : Array (Option Value)} {oc28 kV28 dc28 pm28 cd28 ct28 : Value} {f29 : Addr} {od29 an29 : Option Addr} {sl29 : Array (Option Value)} {oc29 kV29 dc29 pm29 cd29 ct29 : Value} {f30 : Addr} {od30 an30 : Option Addr} {sl30 : Array (Option Value)} {oc30 kV30 dc30 pm30 cd30 ct30 : Value} {f31 : Addr} {od31 an31 : Option Addr} {sl31 : Array (Option Value)} {oc31 kV31 dc31 pm31 cd31 ct31 : Value} {f32 : Addr} {od32 an32 : Option Addr} {sl32 : Array (Option Value)} {oc32 kV32 dc32 pm32 cd32 ct32 : Value} {f33 : Addr} {od33 an33 : Option Addr} {sl33 : Array (Option Value)} {oc33 kV33 dc33 pm33 cd33 ct33 : Value} {f34 : Addr} {od34 an34 : Option Addr} {sl34 : Array (Option Value)} {oc34 kV34 dc34 pm34 cd34 ct34 : Value}
    (n_abs : PySem.W.nsIn K mainGlobals "abs" = some none)
    (n_all : PySem.W.nsIn K mainGlobals "all" = some none)
    (n_bool : PySem.W.nsIn K mainGlobals "bool" = some none)
    (n_dict : PySem.W.nsIn K mainGlobals "dict" = some none)
    (n_int : PySem.W.nsIn K mainGlobals "int" = some none)
    (n_isinstance : PySem.W.nsIn K mainGlobals "isinstance" = some none)
    (n_len : PySem.W.nsIn K mainGlobals "len" = some none)
    (n_list : PySem.W.nsIn K mainGlobals "list" = some none)
    (n_range : PySem.W.nsIn K mainGlobals "range" = some none)
    (n_sorted : PySem.W.nsIn K mainGlobals "sorted" = some none)
    (n_str : PySem.W.nsIn K mainGlobals "str" = some none)
    (n_tuple : PySem.W.nsIn K mainGlobals "tuple" = some none)
    (c_FRACTIONS : PySem.W.nsIn K mainGlobals "FRACTIONS" = some (some (.int 1 tFRACTIONS)))
    (c_GREAT : PySem.W.nsIn K mainGlobals "GREAT" = some (some (.str "ABCDEFGHIJKLMNOPQRSTUVWXYZ" tGREAT)))
    (c_LETTERS : PySem.W.nsIn K mainGlobals "LETTERS" = some (some (.str "abcd" tLETTERS)))
    (c_MOST_DEMANDS : PySem.W.nsIn K mainGlobals "MOST_DEMANDS" = some (some (.int 6 tMOST_DEMANDS)))
    (c_MOST_FACTOR : PySem.W.nsIn K mainGlobals "MOST_FACTOR" = some (some (.int 99 tMOST_FACTOR)))
    (c_MOST_HOURS : PySem.W.nsIn K mainGlobals "MOST_HOURS" = some (some (.int 1000 tMOST_HOURS)))
    (c_MOST_NAMES : PySem.W.nsIn K mainGlobals "MOST_NAMES" = some (some (.int 3 tMOST_NAMES)))
    (c_MOST_RIGHT : PySem.W.nsIn K mainGlobals "MOST_RIGHT" = some (some (.int 999 tMOST_RIGHT)))
    (c_MOST_SIGNS : PySem.W.nsIn K mainGlobals "MOST_SIGNS" = some (some (.int 8 tMOST_SIGNS)))
    (c_MOST_SIZE : PySem.W.nsIn K mainGlobals "MOST_SIZE" = some (some (.int 3 tMOST_SIZE)))
    (c_MOST_TABLES : PySem.W.nsIn K mainGlobals "MOST_TABLES" = some (some (.int 4 tMOST_TABLES)))
    (c_MOST_TERMS : PySem.W.nsIn K mainGlobals "MOST_TERMS" = some (some (.int 8 tMOST_TERMS)))
    (c_SMALL : PySem.W.nsIn K mainGlobals "SMALL" = some (some (.str "abcdefghijklmnopqrstuvwxyz" tSMALL)))
    (c_WHOLE : PySem.W.nsIn K mainGlobals "WHOLE" = some (some (.int 0 tWHOLE)))
    (aBook : PySem.W.nsIn K mainGlobals "Book" = some (some (.ref yBook)))
    (pgBook : PySem.W.plainGet K yBook Str.empty = true)
    (hdBook : PySem.W.hasDictIn K yBook = true)
    (poBook : PySem.W.plainOver K yBook = true)
    (saBook : PySem.W.findIn K (.ref yBook) "__setattr__" = some (some (.builtin "object.__setattr__")))
    (naBook_demands : PySem.W.findIn K (.ref yBook) "demands" = some none)
    (naBook_tables : PySem.W.findIn K (.ref yBook) "tables" = some none)
    (naBook_world : PySem.W.findIn K (.ref yBook) "world" = some none)
    (aParty : PySem.W.nsIn K mainGlobals "Party" = some (some (.ref yParty)))
    (pgParty : PySem.W.plainGet K yParty Str.empty = true)
    (hdParty : PySem.W.hasDictIn K yParty = true)
    (poParty : PySem.W.plainOver K yParty = true)
    (saParty : PySem.W.findIn K (.ref yParty) "__setattr__" = some (some (.builtin "object.__setattr__")))
    (naParty_book : PySem.W.findIn K (.ref yParty) "book" = some none)
    (naParty_kept : PySem.W.findIn K (.ref yParty) "kept" = some none)
    (naParty_names : PySem.W.findIn K (.ref yParty) "names" = some none)
    (obBook : PySem.W.mroIn K yBook (.type "object") = some true)
    (icBook : PySem.W.isClsIn K yBook = true)
    (tcBook : PySem.W.typeIn K (.ref yBook) = some (.type "type"))
    (ccBook : PySem.W.findIn K (.ref yBook) "__class__" = some (some (.builtin "object.__class__")))
    (koBookParty : PySem.W.subIn K (.ref yBook) (.ref yParty) = some false)
    (knBookParty : yBook ≠ yParty)
    (nqBook : PySem.W.findIn K (.ref yBook) "__ne__" = some (some (.builtin "object.__ne__")))
    (mtupleBook : PySem.W.mroIn K yBook (.type "tuple") = some false)
    (mlistBook : PySem.W.mroIn K yBook (.type "list") = some false)
    (mstrBook : PySem.W.mroIn K yBook (.type "str") = some false)
    (mintBook : PySem.W.mroIn K yBook (.type "int") = some false)
    (mboolBook : PySem.W.mroIn K yBook (.type "bool") = some false)
    (mNoneTypeBook : PySem.W.mroIn K yBook (.type "NoneType") = some false)
    (obParty : PySem.W.mroIn K yParty (.type "object") = some true)
    (icParty : PySem.W.isClsIn K yParty = true)
    (tcParty : PySem.W.typeIn K (.ref yParty) = some (.type "type"))
    (ccParty : PySem.W.findIn K (.ref yParty) "__class__" = some (some (.builtin "object.__class__")))
    (koPartyBook : PySem.W.subIn K (.ref yParty) (.ref yBook) = some false)
    (knPartyBook : yParty ≠ yBook)
    (nqParty : PySem.W.findIn K (.ref yParty) "__ne__" = some (some (.builtin "object.__ne__")))
    (mtupleParty : PySem.W.mroIn K yParty (.type "tuple") = some false)
    (mlistParty : PySem.W.mroIn K yParty (.type "list") = some false)
    (mstrParty : PySem.W.mroIn K yParty (.type "str") = some false)
    (mintParty : PySem.W.mroIn K yParty (.type "int") = some false)
    (mboolParty : PySem.W.mroIn K yParty (.type "bool") = some false)
    (mNoneTypeParty : PySem.W.mroIn K yParty (.type "NoneType") = some false)
    (sg : PySem.W.specialIn K (.builtin "object.__class__") "__get__" = some (some (.builtin "getset_descriptor.__get__")))
    (st : PySem.W.takesIn K (.builtin "object.__class__") = some true)
    (a0 : PySem.W.nsIn K mainGlobals "_law_deck" = some (some (.ref f0)))
    (l0 : K.lookup f0 = some ⟨oc0, od0, .func (PySem.W.fnOf "_law_deck" "_law_deck" (defArgs (top 43)) (defBody (top 43)) (defScope (top 43)) .none kV0 dc0 pm0 an0 cd0 ct0), sl0⟩)
    (c0 : PySem.W.codeIn K cd0 "_law_deck" = true)
    (k0 : PySem.W.keepIn K (.ref f0) = true)
    (a1 : PySem.W.nsIn K mainGlobals "_law_pick" = some (some (.ref f1)))
    (l1 : K.lookup f1 = some ⟨oc1, od1, .func (PySem.W.fnOf "_law_pick" "_law_pick" (defArgs (top 44)) (defBody (top 44)) (defScope (top 44)) .none kV1 dc1 pm1 an1 cd1 ct1), sl1⟩)
    (c1 : PySem.W.codeIn K cd1 "_law_pick" = true)
    (k1 : PySem.W.keepIn K (.ref f1) = true)
    (a2 : PySem.W.nsIn K mainGlobals "_law_tables" = some (some (.ref f2)))
    (l2 : K.lookup f2 = some ⟨oc2, od2, .func (PySem.W.fnOf "_law_tables" "_law_tables" (defArgs (top 45)) (defBody (top 45)) (defScope (top 45)) .none kV2 dc2 pm2 an2 cd2 ct2), sl2⟩)
    (c2 : PySem.W.codeIn K cd2 "_law_tables" = true)
    (k2 : PySem.W.keepIn K (.ref f2) = true)
    (a3 : PySem.W.nsIn K mainGlobals "_law_other_factor" = some (some (.ref f3)))
    (l3 : K.lookup f3 = some ⟨oc3, od3, .func (PySem.W.fnOf "_law_other_factor" "_law_other_factor" (defArgs (top 48)) (defBody (top 48)) (defScope (top 48)) .none kV3 dc3 pm3 an3 cd3 ct3), sl3⟩)
    (c3 : PySem.W.codeIn K cd3 "_law_other_factor" = true)
    (k3 : PySem.W.keepIn K (.ref f3) = true)
    (a4 : PySem.W.nsIn K mainGlobals "_law_other_right" = some (some (.ref f4)))
    (l4 : K.lookup f4 = some ⟨oc4, od4, .func (PySem.W.fnOf "_law_other_right" "_law_other_right" (defArgs (top 49)) (defBody (top 49)) (defScope (top 49)) .none kV4 dc4 pm4 an4 cd4 ct4), sl4⟩)
    (c4 : PySem.W.codeIn K cd4 "_law_other_right" = true)
    (k4 : PySem.W.keepIn K (.ref f4) = true)
    (a5 : PySem.W.nsIn K mainGlobals "_law_others" = some (some (.ref f5)))
    (l5 : K.lookup f5 = some ⟨oc5, od5, .func (PySem.W.fnOf "_law_others" "_law_others" (defArgs (top 50)) (defBody (top 50)) (defScope (top 50)) .none kV5 dc5 pm5 an5 cd5 ct5), sl5⟩)
    (c5 : PySem.W.codeIn K cd5 "_law_others" = true)
    (k5 : PySem.W.keepIn K (.ref f5) = true)
    (a6 : PySem.W.nsIn K mainGlobals "is_integer" = some (some (.ref f6)))
    (l6 : K.lookup f6 = some ⟨oc6, od6, .func (PySem.W.fnOf "is_integer" "is_integer" (defArgs (top 8)) (defBody (top 8)) (defScope (top 8)) .none kV6 dc6 pm6 an6 cd6 ct6), sl6⟩)
    (c6 : PySem.W.codeIn K cd6 "is_integer" = true)
    (k6 : PySem.W.keepIn K (.ref f6) = true)
    (a7 : PySem.W.nsIn K mainGlobals "is_within" = some (some (.ref f7)))
    (l7 : K.lookup f7 = some ⟨oc7, od7, .func (PySem.W.fnOf "is_within" "is_within" (defArgs (top 9)) (defBody (top 9)) (defScope (top 9)) .none kV7 dc7 pm7 an7 cd7 ct7), sl7⟩)
    (c7 : PySem.W.codeIn K cd7 "is_within" = true)
    (k7 : PySem.W.keepIn K (.ref f7) = true)
    (a8 : PySem.W.nsIn K mainGlobals "is_world" = some (some (.ref f8)))
    (l8 : K.lookup f8 = some ⟨oc8, od8, .func (PySem.W.fnOf "is_world" "is_world" (defArgs (top 21)) (defBody (top 21)) (defScope (top 21)) .none kV8 dc8 pm8 an8 cd8 ct8), sl8⟩)
    (c8 : PySem.W.codeIn K cd8 "is_world" = true)
    (k8 : PySem.W.keepIn K (.ref f8) = true)
    (a9 : PySem.W.nsIn K mainGlobals "are_unlike" = some (some (.ref f9)))
    (l9 : K.lookup f9 = some ⟨oc9, od9, .func (PySem.W.fnOf "are_unlike" "are_unlike" (defArgs (top 14)) (defBody (top 14)) (defScope (top 14)) .none kV9 dc9 pm9 an9 cd9 ct9), sl9⟩)
    (c9 : PySem.W.codeIn K cd9 "are_unlike" = true)
    (k9 : PySem.W.keepIn K (.ref f9) = true)
    (a10 : PySem.W.nsIn K mainGlobals "is_pair" = some (some (.ref f10)))
    (l10 : K.lookup f10 = some ⟨oc10, od10, .func (PySem.W.fnOf "is_pair" "is_pair" (defArgs (top 10)) (defBody (top 10)) (defScope (top 10)) .none kV10 dc10 pm10 an10 cd10 ct10), sl10⟩)
    (c10 : PySem.W.codeIn K cd10 "is_pair" = true)
    (k10 : PySem.W.keepIn K (.ref f10) = true)
    (a11 : PySem.W.nsIn K mainGlobals "is_of" = some (some (.ref f11)))
    (l11 : K.lookup f11 = some ⟨oc11, od11, .func (PySem.W.fnOf "is_of" "is_of" (defArgs (top 11)) (defBody (top 11)) (defScope (top 11)) .none kV11 dc11 pm11 an11 cd11 ct11), sl11⟩)
    (c11 : PySem.W.codeIn K cd11 "is_of" = true)
    (k11 : PySem.W.keepIn K (.ref f11) = true)
    (a12 : PySem.W.nsIn K mainGlobals "is_label" = some (some (.ref f12)))
    (l12 : K.lookup f12 = some ⟨oc12, od12, .func (PySem.W.fnOf "is_label" "is_label" (defArgs (top 12)) (defBody (top 12)) (defScope (top 12)) .none kV12 dc12 pm12 an12 cd12 ct12), sl12⟩)
    (c12 : PySem.W.codeIn K cd12 "is_label" = true)
    (k12 : PySem.W.keepIn K (.ref f12) = true)
    (a13 : PySem.W.nsIn K mainGlobals "is_table" = some (some (.ref f13)))
    (l13 : K.lookup f13 = some ⟨oc13, od13, .func (PySem.W.fnOf "is_table" "is_table" (defArgs (top 31)) (defBody (top 31)) (defScope (top 31)) .none kV13 dc13 pm13 an13 cd13 ct13), sl13⟩)
    (c13 : PySem.W.codeIn K cd13 "is_table" = true)
    (k13 : PySem.W.keepIn K (.ref f13) = true)
    (a14 : PySem.W.nsIn K mainGlobals "are_tables" = some (some (.ref f14)))
    (l14 : K.lookup f14 = some ⟨oc14, od14, .func (PySem.W.fnOf "are_tables" "are_tables" (defArgs (top 32)) (defBody (top 32)) (defScope (top 32)) .none kV14 dc14 pm14 an14 cd14 ct14), sl14⟩)
    (c14 : PySem.W.codeIn K cd14 "are_tables" = true)
    (k14 : PySem.W.keepIn K (.ref f14) = true)
    (a15 : PySem.W.nsIn K mainGlobals "is_term" = some (some (.ref f15)))
    (l15 : K.lookup f15 = some ⟨oc15, od15, .func (PySem.W.fnOf "is_term" "is_term" (defArgs (top 33)) (defBody (top 33)) (defScope (top 33)) .none kV15 dc15 pm15 an15 cd15 ct15), sl15⟩)
    (c15 : PySem.W.codeIn K cd15 "is_term" = true)
    (k15 : PySem.W.keepIn K (.ref f15) = true)
    (a16 : PySem.W.nsIn K mainGlobals "is_demand" = some (some (.ref f16)))
    (l16 : K.lookup f16 = some ⟨oc16, od16, .func (PySem.W.fnOf "is_demand" "is_demand" (defArgs (top 34)) (defBody (top 34)) (defScope (top 34)) .none kV16 dc16 pm16 an16 cd16 ct16), sl16⟩)
    (c16 : PySem.W.codeIn K cd16 "is_demand" = true)
    (k16 : PySem.W.keepIn K (.ref f16) = true)
    (a17 : PySem.W.findIn K (.ref yBook) "__init__" = some (some (.ref f17)))
    (i17 : PySem.W.isFn K (.ref f17) = true)
    (mkBook : PySem.W.makesIn K yBook = true)
    (kcBook : PySem.W.keepIn K (.ref yBook) = true)
    (l17 : K.lookup f17 = some ⟨oc17, od17, .func (PySem.W.fnOf "__init__" "Book.__init__" (defArgs (inClass (top 35) 0)) (defBody (inClass (top 35) 0)) (defScope (inClass (top 35) 0)) .none kV17 dc17 pm17 an17 cd17 ct17), sl17⟩)
    (c17 : PySem.W.codeIn K cd17 "Book.__init__" = true)
    (k17 : PySem.W.keepIn K (.ref f17) = true)
    (a18 : PySem.W.nsIn K mainGlobals "_law_is_kept" = some (some (.ref f18)))
    (l18 : K.lookup f18 = some ⟨oc18, od18, .func (PySem.W.fnOf "_law_is_kept" "_law_is_kept" (defArgs (top 51)) (defBody (top 51)) (defScope (top 51)) .none kV18 dc18 pm18 an18 cd18 ct18), sl18⟩)
    (c18 : PySem.W.codeIn K cd18 "_law_is_kept" = true)
    (k18 : PySem.W.keepIn K (.ref f18) = true)
    (a19 : PySem.W.nsIn K mainGlobals "is_name" = some (some (.ref f19)))
    (l19 : K.lookup f19 = some ⟨oc19, od19, .func (PySem.W.fnOf "is_name" "is_name" (defArgs (top 13)) (defBody (top 13)) (defScope (top 13)) .none kV19 dc19 pm19 an19 cd19 ct19), sl19⟩)
    (c19 : PySem.W.codeIn K cd19 "is_name" = true)
    (k19 : PySem.W.keepIn K (.ref f19) = true)
    (a20 : PySem.W.nsIn K mainGlobals "are_names" = some (some (.ref f20)))
    (l20 : K.lookup f20 = some ⟨oc20, od20, .func (PySem.W.fnOf "are_names" "are_names" (defArgs (top 38)) (defBody (top 38)) (defScope (top 38)) .none kV20 dc20 pm20 an20 cd20 ct20), sl20⟩)
    (c20 : PySem.W.codeIn K cd20 "are_names" = true)
    (k20 : PySem.W.keepIn K (.ref f20) = true)
    (a21 : PySem.W.nsIn K mainGlobals "is_place_of" = some (some (.ref f21)))
    (l21 : K.lookup f21 = some ⟨oc21, od21, .func (PySem.W.fnOf "is_place_of" "is_place_of" (defArgs (top 39)) (defBody (top 39)) (defScope (top 39)) .none kV21 dc21 pm21 an21 cd21 ct21), sl21⟩)
    (c21 : PySem.W.codeIn K cd21 "is_place_of" = true)
    (k21 : PySem.W.keepIn K (.ref f21) = true)
    (a22 : PySem.W.nsIn K mainGlobals "common_divisor" = some (some (.ref f22)))
    (l22 : K.lookup f22 = some ⟨oc22, od22, .func (PySem.W.fnOf "common_divisor" "common_divisor" (defArgs (top 15)) (defBody (top 15)) (defScope (top 15)) .none kV22 dc22 pm22 an22 cd22 ct22), sl22⟩)
    (c22 : PySem.W.codeIn K cd22 "common_divisor" = true)
    (k22 : PySem.W.keepIn K (.ref f22) = true)
    (a23 : PySem.W.nsIn K mainGlobals "is_fraction" = some (some (.ref f23)))
    (l23 : K.lookup f23 = some ⟨oc23, od23, .func (PySem.W.fnOf "is_fraction" "is_fraction" (defArgs (top 16)) (defBody (top 16)) (defScope (top 16)) .none kV23 dc23 pm23 an23 cd23 ct23), sl23⟩)
    (c23 : PySem.W.codeIn K cd23 "is_fraction" = true)
    (k23 : PySem.W.keepIn K (.ref f23) = true)
    (a24 : PySem.W.nsIn K mainGlobals "is_number_of" = some (some (.ref f24)))
    (l24 : K.lookup f24 = some ⟨oc24, od24, .func (PySem.W.fnOf "is_number_of" "is_number_of" (defArgs (top 22)) (defBody (top 22)) (defScope (top 22)) .none kV24 dc24 pm24 an24 cd24 ct24), sl24⟩)
    (c24 : PySem.W.codeIn K cd24 "is_number_of" = true)
    (k24 : PySem.W.keepIn K (.ref f24) = true)
    (a25 : PySem.W.nsIn K mainGlobals "are_numbers" = some (some (.ref f25)))
    (l25 : K.lookup f25 = some ⟨oc25, od25, .func (PySem.W.fnOf "are_numbers" "are_numbers" (defArgs (top 40)) (defBody (top 40)) (defScope (top 40)) .none kV25 dc25 pm25 an25 cd25 ct25), sl25⟩)
    (c25 : PySem.W.codeIn K cd25 "are_numbers" = true)
    (k25 : PySem.W.keepIn K (.ref f25) = true)
    (a26 : PySem.W.findIn K (.ref yParty) "__init__" = some (some (.ref f26)))
    (i26 : PySem.W.isFn K (.ref f26) = true)
    (mkParty : PySem.W.makesIn K yParty = true)
    (kcParty : PySem.W.keepIn K (.ref yParty) = true)
    (l26 : K.lookup f26 = some ⟨oc26, od26, .func (PySem.W.fnOf "__init__" "Party.__init__" (defArgs (inClass (top 41) 0)) (defBody (inClass (top 41) 0)) (defScope (inClass (top 41) 0)) .none kV26 dc26 pm26 an26 cd26 ct26), sl26⟩)
    (c26 : PySem.W.codeIn K cd26 "Party.__init__" = true)
    (k26 : PySem.W.keepIn K (.ref f26) = true)
    (a27 : PySem.W.findIn K (.ref yBook) "__eq__" = some (some (.ref f27)))
    (i27 : PySem.W.isFn K (.ref f27) = true)
    (l27 : K.lookup f27 = some ⟨oc27, od27, .func (PySem.W.fnOf "__eq__" "Book.__eq__" (defArgs (inClass (top 35) 1)) (defBody (inClass (top 35) 1)) (defScope (inClass (top 35) 1)) .none kV27 dc27 pm27 an27 cd27 ct27), sl27⟩)
    (c27 : PySem.W.codeIn K cd27 "Book.__eq__" = true)
    (k27 : PySem.W.keepIn K (.ref f27) = true)
    (a28 : PySem.W.findIn K (.ref yParty) "__eq__" = some (some (.ref f28)))
    (i28 : PySem.W.isFn K (.ref f28) = true)
    (l28 : K.lookup f28 = some ⟨oc28, od28, .func (PySem.W.fnOf "__eq__" "Party.__eq__" (defArgs (inClass (top 41) 1)) (defBody (inClass (top 41) 1)) (defScope (inClass (top 41) 1)) .none kV28 dc28 pm28 an28 cd28 ct28), sl28⟩)
    (c28 : PySem.W.codeIn K cd28 "Party.__eq__" = true)
    (k28 : PySem.W.keepIn K (.ref f28) = true)
    (a29 : PySem.W.nsIn K mainGlobals "_law_is_apart" = some (some (.ref f29)))
    (l29 : K.lookup f29 = some ⟨oc29, od29, .func (PySem.W.fnOf "_law_is_apart" "_law_is_apart" (defArgs (top 54)) (defBody (top 54)) (defScope (top 54)) .none kV29 dc29 pm29 an29 cd29 ct29), sl29⟩)
    (c29 : PySem.W.codeIn K cd29 "_law_is_apart" = true)
    (k29 : PySem.W.keepIn K (.ref f29) = true)
    (a30 : PySem.W.nsIn K mainGlobals "_law_term" = some (some (.ref f30)))
    (l30 : K.lookup f30 = some ⟨oc30, od30, .func (PySem.W.fnOf "_law_term" "_law_term" (defArgs (top 46)) (defBody (top 46)) (defScope (top 46)) .none kV30 dc30 pm30 an30 cd30 ct30), sl30⟩)
    (c30 : PySem.W.codeIn K cd30 "_law_term" = true)
    (k30 : PySem.W.keepIn K (.ref f30) = true)
    (a31 : PySem.W.nsIn K mainGlobals "_law_demands" = some (some (.ref f31)))
    (l31 : K.lookup f31 = some ⟨oc31, od31, .func (PySem.W.fnOf "_law_demands" "_law_demands" (defArgs (top 47)) (defBody (top 47)) (defScope (top 47)) .none kV31 dc31 pm31 an31 cd31 ct31), sl31⟩)
    (c31 : PySem.W.codeIn K cd31 "_law_demands" = true)
    (k31 : PySem.W.keepIn K (.ref f31) = true)
    (a32 : PySem.W.nsIn K mainGlobals "_law_is_flag" = some (some (.ref f32)))
    (l32 : K.lookup f32 = some ⟨oc32, od32, .func (PySem.W.fnOf "_law_is_flag" "_law_is_flag" (defArgs (top 52)) (defBody (top 52)) (defScope (top 52)) .none kV32 dc32 pm32 an32 cd32 ct32), sl32⟩)
    (c32 : PySem.W.codeIn K cd32 "_law_is_flag" = true)
    (k32 : PySem.W.keepIn K (.ref f32) = true)
    (a33 : PySem.W.nsIn K mainGlobals "_law_is_compared" = some (some (.ref f33)))
    (l33 : K.lookup f33 = some ⟨oc33, od33, .func (PySem.W.fnOf "_law_is_compared" "_law_is_compared" (defArgs (top 53)) (defBody (top 53)) (defScope (top 53)) .none kV33 dc33 pm33 an33 cd33 ct33), sl33⟩)
    (c33 : PySem.W.codeIn K cd33 "_law_is_compared" = true)
    (k33 : PySem.W.keepIn K (.ref f33) = true)
    (a34 : PySem.W.nsIn K mainGlobals "law" = some (some (.ref f34)))
    (l34 : K.lookup f34 = some ⟨oc34, od34, .func (PySem.W.fnOf "law" "law" (defArgs (top 55)) (defBody (top 55)) (defScope (top 55)) .none kV34 dc34 pm34 an34 cd34 ct34), sl34⟩)
    (c34 : PySem.W.codeIn K cd34 "law" = true)
    (k34 : PySem.W.keepIn K (.ref f34) = true) :
    ∃ fd : FuncData, (∀ (s : Shared) (v : Value), BindsTo s fd ⟨[v], []⟩ [("_law_script", v)]) ∧ ∀ base : Heap, K.In base → base.Ns mainGlobals mg → FnOk P w K mg base (L2.CX P w) 8 fa fd ["_law_script"] (spD ⟨P, w, K, mg⟩ g_law) := by
  have e := hfa.symm.trans (PySem.W.mg_of X G a34)
  cases e
  have T : Txt ⟨P, w, K, mg⟩  := ⟨PySem.W.mg_none_of X G n_abs, PySem.W.mg_none_of X G n_all, PySem.W.mg_none_of X G n_bool, PySem.W.mg_none_of X G n_dict, PySem.W.mg_none_of X G n_int, PySem.W.mg_none_of X G n_isinstance, PySem.W.mg_none_of X G n_len, PySem.W.mg_none_of X G n_list, PySem.W.mg_none_of X G n_range, PySem.W.mg_none_of X G n_sorted, PySem.W.mg_none_of X G n_str, PySem.W.mg_none_of X G n_tuple, ⟨_, PySem.W.mg_of X G c_FRACTIONS⟩, ⟨_, PySem.W.mg_of X G c_GREAT⟩, ⟨_, PySem.W.mg_of X G c_LETTERS⟩, ⟨_, PySem.W.mg_of X G c_MOST_DEMANDS⟩, ⟨_, PySem.W.mg_of X G c_MOST_FACTOR⟩, ⟨_, PySem.W.mg_of X G c_MOST_HOURS⟩, ⟨_, PySem.W.mg_of X G c_MOST_NAMES⟩, ⟨_, PySem.W.mg_of X G c_MOST_RIGHT⟩, ⟨_, PySem.W.mg_of X G c_MOST_SIGNS⟩, ⟨_, PySem.W.mg_of X G c_MOST_SIZE⟩, ⟨_, PySem.W.mg_of X G c_MOST_TABLES⟩, ⟨_, PySem.W.mg_of X G c_MOST_TERMS⟩, ⟨_, PySem.W.mg_of X G c_SMALL⟩, ⟨_, PySem.W.mg_of X G c_WHOLE⟩, (fun n hn => by
    simp only [cs_book, List.mem_cons, List.not_mem_nil, or_false] at hn
    rcases hn with rfl
    · exact ⟨yParty, PySem.W.mg_of X G aParty, ⟨pgParty, hdParty, poParty, saParty⟩, naParty_book⟩), (fun n hn => by
    simp only [cs_demands, List.mem_cons, List.not_mem_nil, or_false] at hn
    rcases hn with rfl
    · exact ⟨yBook, PySem.W.mg_of X G aBook, ⟨pgBook, hdBook, poBook, saBook⟩, naBook_demands⟩), (fun n hn => by
    simp only [cs_kept, List.mem_cons, List.not_mem_nil, or_false] at hn
    rcases hn with rfl
    · exact ⟨yParty, PySem.W.mg_of X G aParty, ⟨pgParty, hdParty, poParty, saParty⟩, naParty_kept⟩), (fun n hn => by
    simp only [cs_names, List.mem_cons, List.not_mem_nil, or_false] at hn
    rcases hn with rfl
    · exact ⟨yParty, PySem.W.mg_of X G aParty, ⟨pgParty, hdParty, poParty, saParty⟩, naParty_names⟩), (fun n hn => by
    simp only [cs_tables, List.mem_cons, List.not_mem_nil, or_false] at hn
    rcases hn with rfl
    · exact ⟨yBook, PySem.W.mg_of X G aBook, ⟨pgBook, hdBook, poBook, saBook⟩, naBook_tables⟩), (fun n hn => by
    simp only [cs_world, List.mem_cons, List.not_mem_nil, or_false] at hn
    rcases hn with rfl
    · exact ⟨yBook, PySem.W.mg_of X G aBook, ⟨pgBook, hdBook, poBook, saBook⟩, naBook_world⟩), ⟨yBook, PySem.W.mg_of X G aBook, cls_two icBook tcBook, sg, st, fun n hn => by
    simp only [clsl, List.mem_cons, List.not_mem_nil, or_false] at hn
    rcases hn with rfl | rfl
    · exact ⟨yBook, PySem.W.mg_of X G aBook, ⟨pgBook, hdBook, poBook, saBook⟩, ccBook, obBook, by simp [PySem.W.kitOne]⟩
    · exact ⟨yParty, PySem.W.mg_of X G aParty, ⟨pgParty, hdParty, poParty, saParty⟩, ccParty, obParty, kit_two knPartyBook icBook tcBook koPartyBook (by decide)⟩⟩, ⟨yParty, PySem.W.mg_of X G aParty, cls_two icParty tcParty, sg, st, fun n hn => by
    simp only [clsl, List.mem_cons, List.not_mem_nil, or_false] at hn
    rcases hn with rfl | rfl
    · exact ⟨yBook, PySem.W.mg_of X G aBook, ⟨pgBook, hdBook, poBook, saBook⟩, ccBook, obBook, kit_two knBookParty icParty tcParty koBookParty (by decide)⟩
    · exact ⟨yParty, PySem.W.mg_of X G aParty, ⟨pgParty, hdParty, poParty, saParty⟩, ccParty, obParty, by simp [PySem.W.kitOne]⟩⟩⟩
  have H0 := fun_mk (st := top 43) l0 c0 k0
  have B0 := H0.binds (ps := ["_law_script"]) fun _ _ _ _ _ _ us hl => match us, hl with | [_], _ => rfl
  have F__law_deck : Fn ⟨P, w, K, mg⟩ 1 "_law_deck" g__law_deck := fn_def [0] m__law_deck H0 sc__law_deck B0 (PySem.W.mg_of X G a0) (fun base cdv A outer s H E vs W g => b__law_deck T  base _ cdv A outer s H E vs W g)
  have H1 := fun_mk (st := top 44) l1 c1 k1
  have B1 := H1.binds (ps := ["_law_deck_here", "_law_many"]) fun _ _ _ _ _ _ us hl => match us, hl with | [_, _], _ => rfl
  have F__law_pick : Fn ⟨P, w, K, mg⟩ 1 "_law_pick" g__law_pick := fn_def [0, 1] m__law_pick H1 sc__law_pick B1 (PySem.W.mg_of X G a1) (fun base cdv A outer s H E vs W g => b__law_pick T  base _ cdv A outer s H E vs W g)
  have H2 := fun_mk (st := top 45) l2 c2 k2
  have B2 := H2.binds (ps := ["_law_deck_here"]) fun _ _ _ _ _ _ us hl => match us, hl with | [_], _ => rfl
  have F__law_tables : Fn ⟨P, w, K, mg⟩ 2 "_law_tables" g__law_tables := fn_def [0] m__law_tables H2 sc__law_tables B2 (PySem.W.mg_of X G a2) (fun base cdv A outer s H E vs W g => b__law_tables T F__law_pick base _ cdv A outer s H E vs W g)
  have H3 := fun_mk (st := top 48) l3 c3 k3
  have B3 := H3.binds (ps := ["_law_deck_here", "_law_demands_here"]) fun _ _ _ _ _ _ us hl => match us, hl with | [_, _], _ => rfl
  have F__law_other_factor : Fn ⟨P, w, K, mg⟩ 2 "_law_other_factor" g__law_other_factor := fn_def [0, 1] m__law_other_factor H3 sc__law_other_factor B3 (PySem.W.mg_of X G a3) (fun base cdv A outer s H E vs W g => b__law_other_factor T F__law_pick base _ cdv A outer s H E vs W g)
  have H4 := fun_mk (st := top 49) l4 c4 k4
  have B4 := H4.binds (ps := ["_law_deck_here", "_law_demands_here"]) fun _ _ _ _ _ _ us hl => match us, hl with | [_, _], _ => rfl
  have F__law_other_right : Fn ⟨P, w, K, mg⟩ 2 "_law_other_right" g__law_other_right := fn_def [0, 1] m__law_other_right H4 sc__law_other_right B4 (PySem.W.mg_of X G a4) (fun base cdv A outer s H E vs W g => b__law_other_right T F__law_pick base _ cdv A outer s H E vs W g)
  have H5 := fun_mk (st := top 50) l5 c5 k5
  have B5 := H5.binds (ps := ["_law_deck_here", "_law_parts"]) fun _ _ _ _ _ _ us hl => match us, hl with | [_, _], _ => rfl
  have F__law_others : Fn ⟨P, w, K, mg⟩ 3 "_law_others" g__law_others := fn_def [0, 1] m__law_others H5 sc__law_others B5 (PySem.W.mg_of X G a5) (fun base cdv A outer s H E vs W g => b__law_others T F__law_pick F__law_other_factor F__law_other_right base _ cdv A outer s H E vs W g)
  have H6 := fun_mk (st := top 8) l6 c6 k6
  have B6 := H6.binds (ps := ["thing"]) fun _ _ _ _ _ _ us hl => match us, hl with | [_], _ => rfl
  have F_is_integer : Fn ⟨P, w, K, mg⟩ 1 "is_integer" g_is_integer := fn_def [0] m_is_integer H6 sc_is_integer B6 (PySem.W.mg_of X G a6) (fun base cdv A outer s H E vs W g => b_is_integer T  base _ cdv A outer s H E vs W g)
  have H7 := fun_mk (st := top 9) l7 c7 k7
  have B7 := H7.binds (ps := ["thing", "least", "most"]) fun _ _ _ _ _ _ us hl => match us, hl with | [_, _, _], _ => rfl
  have F_is_within : Fn ⟨P, w, K, mg⟩ 2 "is_within" g_is_within := fn_def [0, 1, 2] m_is_within H7 sc_is_within B7 (PySem.W.mg_of X G a7) (fun base cdv A outer s H E vs W g => b_is_within T F_is_integer base _ cdv A outer s H E vs W g)
  have H8 := fun_mk (st := top 21) l8 c8 k8
  have B8 := H8.binds (ps := ["thing"]) fun _ _ _ _ _ _ us hl => match us, hl with | [_], _ => rfl
  have F_is_world : Fn ⟨P, w, K, mg⟩ 3 "is_world" g_is_world := fn_def [0] m_is_world H8 sc_is_world B8 (PySem.W.mg_of X G a8) (fun base cdv A outer s H E vs W g => b_is_world T F_is_within base _ cdv A outer s H E vs W g)
  have H9 := fun_mk (st := top 14) l9 c9 k9
  have B9 := H9.binds (ps := ["things"]) fun _ _ _ _ _ _ us hl => match us, hl with | [_], _ => rfl
  have F_are_unlike : Fn ⟨P, w, K, mg⟩ 1 "are_unlike" g_are_unlike := fn_def [0] m_are_unlike H9 sc_are_unlike B9 (PySem.W.mg_of X G a9) (fun base cdv A outer s H E vs W g => b_are_unlike T  base _ cdv A outer s H E vs W g)
  have H10 := fun_mk (st := top 10) l10 c10 k10
  have B10 := H10.binds (ps := ["thing"]) fun _ _ _ _ _ _ us hl => match us, hl with | [_], _ => rfl
  have F_is_pair : Fn ⟨P, w, K, mg⟩ 1 "is_pair" g_is_pair := fn_def [0] m_is_pair H10 sc_is_pair B10 (PySem.W.mg_of X G a10) (fun base cdv A outer s H E vs W g => b_is_pair T  base _ cdv A outer s H E vs W g)
  have H11 := fun_mk (st := top 11) l11 c11 k11
  have B11 := H11.binds (ps := ["thing", "signs"]) fun _ _ _ _ _ _ us hl => match us, hl with | [_, _], _ => rfl
  have F_is_of : Fn ⟨P, w, K, mg⟩ 1 "is_of" g_is_of := fn_def [0, 1] m_is_of H11 sc_is_of B11 (PySem.W.mg_of X G a11) (fun base cdv A outer s H E vs W g => b_is_of T  base _ cdv A outer s H E vs W g)
  have H12 := fun_mk (st := top 12) l12 c12 k12
  have B12 := H12.binds (ps := ["thing"]) fun _ _ _ _ _ _ us hl => match us, hl with | [_], _ => rfl
  have F_is_label : Fn ⟨P, w, K, mg⟩ 2 "is_label" g_is_label := fn_def [0] m_is_label H12 sc_is_label B12 (PySem.W.mg_of X G a12) (fun base cdv A outer s H E vs W g => b_is_label T F_is_of base _ cdv A outer s H E vs W g)
  have H13 := fun_mk (st := top 31) l13 c13 k13
  have B13 := H13.binds (ps := ["thing"]) fun _ _ _ _ _ _ us hl => match us, hl with | [_], _ => rfl
  have F_is_table : Fn ⟨P, w, K, mg⟩ 3 "is_table" g_is_table := fn_def [0] m_is_table H13 sc_is_table B13 (PySem.W.mg_of X G a13) (fun base cdv A outer s H E vs W g => b_is_table T F_is_pair F_is_label F_is_within base _ cdv A outer s H E vs W g)
  have H14 := fun_mk (st := top 32) l14 c14 k14
  have B14 := H14.binds (ps := ["thing"]) fun _ _ _ _ _ _ us hl => match us, hl with | [_], _ => rfl
  have F_are_tables : Fn ⟨P, w, K, mg⟩ 4 "are_tables" g_are_tables := fn_def [0] m_are_tables H14 sc_are_tables B14 (PySem.W.mg_of X G a14) (fun base cdv A outer s H E vs W g => b_are_tables T F_is_table F_are_unlike base _ cdv A outer s H E vs W g)
  have H15 := fun_mk (st := top 33) l15 c15 k15
  have B15 := H15.binds (ps := ["known", "thing"]) fun _ _ _ _ _ _ us hl => match us, hl with | [_, _], _ => rfl
  have F_is_term : Fn ⟨P, w, K, mg⟩ 3 "is_term" g_is_term := fn_def [0, 1] m_is_term H15 sc_is_term B15 (PySem.W.mg_of X G a15) (fun base cdv A outer s H E vs W g => b_is_term T F_is_within F_are_unlike base _ cdv A outer s H E vs W g)
  have H16 := fun_mk (st := top 34) l16 c16 k16
  have B16 := H16.binds (ps := ["known", "thing"]) fun _ _ _ _ _ _ us hl => match us, hl with | [_, _], _ => rfl
  have F_is_demand : Fn ⟨P, w, K, mg⟩ 4 "is_demand" g_is_demand := fn_def [0, 1] m_is_demand H16 sc_is_demand B16 (PySem.W.mg_of X G a16) (fun base cdv A outer s H E vs W g => b_is_demand T F_is_pair F_is_term F_is_within base _ cdv A outer s H E vs W g)
  have H17 := fun_mk (st := inClass (top 35) 0) l17 c17 k17
  have B17 := H17.binds (ps := ["self", "world", "tables", "demands"]) fun _ _ _ _ _ _ us hl => match us, hl with | [_, _, _, _], _ => rfl
  have M_Book : MkOk ⟨P, w, K, mg⟩ 5 "Book" g_Book__init := mk_def [0, 1, 2, 3] m_Book__init H17 sc_Book__init B17 (PySem.W.mg_of X G aBook) ⟨mkBook, a17, i17, kcBook⟩ (fun base cdv A outer s H E vs W g => b_Book__init T F_is_world F_are_tables F_is_demand base _ cdv A outer s H E vs W g)
  have H18 := fun_mk (st := top 51) l18 c18 k18
  have B18 := H18.binds (ps := ["_law_book", "_law_parts"]) fun _ _ _ _ _ _ us hl => match us, hl with | [_, _], _ => rfl
  have F__law_is_kept : Fn ⟨P, w, K, mg⟩ 1 "_law_is_kept" g__law_is_kept := fn_def [0, 1] m__law_is_kept H18 sc__law_is_kept B18 (PySem.W.mg_of X G a18) (fun base cdv A outer s H E vs W g => b__law_is_kept T  base _ cdv A outer s H E vs W g)
  have H19 := fun_mk (st := top 13) l19 c19 k19
  have B19 := H19.binds (ps := ["thing"]) fun _ _ _ _ _ _ us hl => match us, hl with | [_], _ => rfl
  have F_is_name : Fn ⟨P, w, K, mg⟩ 2 "is_name" g_is_name := fn_def [0] m_is_name H19 sc_is_name B19 (PySem.W.mg_of X G a19) (fun base cdv A outer s H E vs W g => b_is_name T F_is_of base _ cdv A outer s H E vs W g)
  have H20 := fun_mk (st := top 38) l20 c20 k20
  have B20 := H20.binds (ps := ["thing"]) fun _ _ _ _ _ _ us hl => match us, hl with | [_], _ => rfl
  have F_are_names : Fn ⟨P, w, K, mg⟩ 3 "are_names" g_are_names := fn_def [0] m_are_names H20 sc_are_names B20 (PySem.W.mg_of X G a20) (fun base cdv A outer s H E vs W g => b_are_names T F_is_name F_are_unlike base _ cdv A outer s H E vs W g)
  have H21 := fun_mk (st := top 39) l21 c21 k21
  have B21 := H21.binds (ps := ["book", "folk", "thing"]) fun _ _ _ _ _ _ us hl => match us, hl with | [_, _, _], _ => rfl
  have F_is_place_of : Fn ⟨P, w, K, mg⟩ 2 "is_place_of" g_is_place_of := fn_def [0, 1, 2] m_is_place_of H21 sc_is_place_of B21 (PySem.W.mg_of X G a21) (fun base cdv A outer s H E vs W g => b_is_place_of T F_is_pair F_are_unlike base _ cdv A outer s H E vs W g)
  have H22 := fun_mk (st := top 15) l22 c22 k22
  have B22 := H22.binds (ps := ["one", "other"]) fun _ _ _ _ _ _ us hl => match us, hl with | [_, _], _ => rfl
  have F_common_divisor : Fn ⟨P, w, K, mg⟩ 1 "common_divisor" g_common_divisor := fn_def ([] : List Nat) m_common_divisor H22 sc_common_divisor B22 (PySem.W.mg_of X G a22) (fun base cdv A outer s H E vs W g => b_common_divisor T  base _ cdv A outer s H E vs W g)
  have H23 := fun_mk (st := top 16) l23 c23 k23
  have B23 := H23.binds (ps := ["thing"]) fun _ _ _ _ _ _ us hl => match us, hl with | [_], _ => rfl
  have F_is_fraction : Fn ⟨P, w, K, mg⟩ 2 "is_fraction" g_is_fraction := fn_def [0] m_is_fraction H23 sc_is_fraction B23 (PySem.W.mg_of X G a23) (fun base cdv A outer s H E vs W g => b_is_fraction T F_is_pair F_is_integer F_common_divisor base _ cdv A outer s H E vs W g)
  have H24 := fun_mk (st := top 22) l24 c24 k24
  have B24 := H24.binds (ps := ["world", "thing"]) fun _ _ _ _ _ _ us hl => match us, hl with | [_, _], _ => rfl
  have F_is_number_of : Fn ⟨P, w, K, mg⟩ 3 "is_number_of" g_is_number_of := fn_def [0, 1] m_is_number_of H24 sc_is_number_of B24 (PySem.W.mg_of X G a24) (fun base cdv A outer s H E vs W g => b_is_number_of T F_is_integer F_is_fraction F_is_within base _ cdv A outer s H E vs W g)
  have H25 := fun_mk (st := top 40) l25 c25 k25
  have B25 := H25.binds (ps := ["book", "names", "thing"]) fun _ _ _ _ _ _ us hl => match us, hl with | [_, _, _], _ => rfl
  have F_are_numbers : Fn ⟨P, w, K, mg⟩ 4 "are_numbers" g_are_numbers := fn_def [0, 1, 2] m_are_numbers H25 sc_are_numbers B25 (PySem.W.mg_of X G a25) (fun base cdv A outer s H E vs W g => b_are_numbers T F_is_place_of F_is_number_of base _ cdv A outer s H E vs W g)
  have H26 := fun_mk (st := inClass (top 41) 0) l26 c26 k26
  have B26 := H26.binds (ps := ["self", "book", "names", "numbers"]) fun _ _ _ _ _ _ us hl => match us, hl with | [_, _, _, _], _ => rfl
  have M_Party : MkOk ⟨P, w, K, mg⟩ 5 "Party" g_Party__init := mk_def [0, 1, 2, 3] m_Party__init H26 sc_Party__init B26 (PySem.W.mg_of X G aParty) ⟨mkParty, a26, i26, kcParty⟩ (fun base cdv A outer s H E vs W g => b_Party__init T F_are_names F_are_numbers base _ cdv A outer s H E vs W g)
  have H27 := fun_mk (st := inClass (top 35) 1) l27 c27 k27
  have B27 := H27.binds (ps := ["self", "other"]) fun _ _ _ _ _ _ us hl => match us, hl with | [_, _], _ => rfl
  have E_Book : EqCls ⟨P, w, K, mg⟩ 1 "Book" (eqtab.map (·.1)) g_Book___eq__ := eq_def [0, 1] m_Book___eq__ H27 sc_Book___eq__ B27 (PySem.W.mg_of X G aBook) a27 i27 nqBook obBook (fun t ht => by
    simp only [List.mem_cons, List.not_mem_nil, or_false] at ht
    rcases ht with rfl | rfl | rfl | rfl | rfl | rfl
    · exact mtupleBook
    · exact mlistBook
    · exact mstrBook
    · exact mintBook
    · exact mboolBook
    · exact mNoneTypeBook) (fun n hn => by
    simp only [eqtab, List.map_cons, List.map_nil, List.mem_cons, List.not_mem_nil, or_false] at hn
    rcases hn with rfl | rfl
    · exact ⟨yBook, PySem.W.mg_of X G aBook, .inl rfl⟩
    · exact ⟨yParty, PySem.W.mg_of X G aParty, .inr koPartyBook⟩) (fun base cdv A outer s H E vs W g => b_Book___eq__ T  base _ cdv A outer s H E vs W g)
  have H28 := fun_mk (st := inClass (top 41) 1) l28 c28 k28
  have B28 := H28.binds (ps := ["self", "other"]) fun _ _ _ _ _ _ us hl => match us, hl with | [_, _], _ => rfl
  have E_Party : EqCls ⟨P, w, K, mg⟩ 1 "Party" (eqtab.map (·.1)) g_Party___eq__ := eq_def [0, 1] m_Party___eq__ H28 sc_Party___eq__ B28 (PySem.W.mg_of X G aParty) a28 i28 nqParty obParty (fun t ht => by
    simp only [List.mem_cons, List.not_mem_nil, or_false] at ht
    rcases ht with rfl | rfl | rfl | rfl | rfl | rfl
    · exact mtupleParty
    · exact mlistParty
    · exact mstrParty
    · exact mintParty
    · exact mboolParty
    · exact mNoneTypeParty) (fun n hn => by
    simp only [eqtab, List.map_cons, List.map_nil, List.mem_cons, List.not_mem_nil, or_false] at hn
    rcases hn with rfl | rfl
    · exact ⟨yBook, PySem.W.mg_of X G aBook, .inr koBookParty⟩
    · exact ⟨yParty, PySem.W.mg_of X G aParty, .inl rfl⟩) (fun base cdv A outer s H E vs W g => b_Party___eq__ T  base _ cdv A outer s H E vs W g)
  have EQ : ∀ c g, List.lookup c eqtab = some g → EqCls ⟨P, w, K, mg⟩ 1 c (eqtab.map (·.1)) g := fun c g h => by
    rcases eqtab_of h with ⟨rfl, rfl⟩ | ⟨rfl, rfl⟩
    · exact E_Book
    · exact E_Party
  have H29 := fun_mk (st := top 54) l29 c29 k29
  have B29 := H29.binds (ps := ["_law_book", "_law_parts"]) fun _ _ _ _ _ _ us hl => match us, hl with | [_, _], _ => rfl
  have F__law_is_apart : Fn ⟨P, w, K, mg⟩ 7 "_law_is_apart" g__law_is_apart := fn_def [0, 1] m__law_is_apart H29 sc__law_is_apart B29 (PySem.W.mg_of X G a29) (fun base cdv A outer s H E vs W g => b__law_is_apart T M_Party EQ  base _ cdv A outer s H E vs W g)
  have H30 := fun_mk (st := top 46) l30 c30 k30
  have B30 := H30.binds (ps := ["_law_deck_here", "_law_tables_here"]) fun _ _ _ _ _ _ us hl => match us, hl with | [_, _], _ => rfl
  have F__law_term : Fn ⟨P, w, K, mg⟩ 2 "_law_term" g__law_term := fn_def [0, 1] m__law_term H30 sc__law_term B30 (PySem.W.mg_of X G a30) (fun base cdv A outer s H E vs W g => b__law_term T F__law_pick base _ cdv A outer s H E vs W g)
  have H31 := fun_mk (st := top 47) l31 c31 k31
  have B31 := H31.binds (ps := ["_law_deck_here", "_law_tables_here"]) fun _ _ _ _ _ _ us hl => match us, hl with | [_, _], _ => rfl
  have F__law_demands : Fn ⟨P, w, K, mg⟩ 3 "_law_demands" g__law_demands := fn_def [0, 1] m__law_demands H31 sc__law_demands B31 (PySem.W.mg_of X G a31) (fun base cdv A outer s H E vs W g => b__law_demands T F__law_pick F__law_term base _ cdv A outer s H E vs W g)
  have H32 := fun_mk (st := top 52) l32 c32 k32
  have B32 := H32.binds (ps := ["_law_flag", "_law_due"]) fun _ _ _ _ _ _ us hl => match us, hl with | [_, _], _ => rfl
  have F__law_is_flag : Fn ⟨P, w, K, mg⟩ 1 "_law_is_flag" g__law_is_flag := fn_def [0, 1] m__law_is_flag H32 sc__law_is_flag B32 (PySem.W.mg_of X G a32) (fun base cdv A outer s H E vs W g => b__law_is_flag T  base _ cdv A outer s H E vs W g)
  have H33 := fun_mk (st := top 53) l33 c33 k33
  have B33 := H33.binds (ps := ["_law_one", "_law_parts", "_law_other", "_law_more"]) fun _ _ _ _ _ _ us hl => match us, hl with | [_, _, _, _], _ => rfl
  have F__law_is_compared : Fn ⟨P, w, K, mg⟩ 3 "_law_is_compared" g__law_is_compared := fn_def [0, 1, 2, 3] m__law_is_compared H33 sc__law_is_compared B33 (PySem.W.mg_of X G a33) (fun base cdv A outer s H E vs W g => b__law_is_compared T F__law_is_flag EQ  base _ cdv A outer s H E vs W g)
  have H34 := fun_mk (st := top 55) l34 c34 k34
  exact ⟨_, fun s v => .of_eq rfl, fun base _ _ => fn_ok [0] m_law H34 sc_law base (fun base cdv A outer s H E vs W g => b_law T F__law_deck F__law_pick F__law_tables F__law_demands F__law_others M_Book F__law_is_kept F__law_is_compared F__law_is_apart base _ cdv A outer s H E vs W g)⟩
end Mi
open PySem PySem.W PyProof.Rows
set_option maxRecDepth 100000 in
set_option maxHeartbeats 0 in
theorem PySem.Challenge.cw_elderalike_k04_books_kept_and_compared_holds : PySem.Challenge.rw_elderalike_k04_books_kept_and_compared.Holds := by
  w_on; o_law; k_head; (case hw => w_witness2)
  k_fill
  refine Mi.law_walk (l := PySem.Challenge.rw_elderalike_k04_books_kept_and_compared) (k := 8) (g := Mi.g_law) rfl rfl ⟨rfl, by decide, by decide⟩ (fun w h Y => PySem.W.kIn_of Y) ?F Mi.law_true
  case F =>
    intro w mg fa h KX G hmg
    refine' Mi.all_mk KX G hmg ?n_abs ?n_all ?n_bool ?n_dict ?n_int ?n_isinstance ?n_len ?n_list ?n_range ?n_sorted ?n_str ?n_tuple ?c_FRACTIONS ?c_GREAT ?c_LETTERS ?c_MOST_DEMANDS ?c_MOST_FACTOR ?c_MOST_HOURS ?c_MOST_NAMES ?c_MOST_RIGHT ?c_MOST_SIGNS ?c_MOST_SIZE ?c_MOST_TABLES ?c_MOST_TERMS ?c_SMALL ?c_WHOLE ?aBook ?pgBook ?hdBook ?poBook ?saBook ?naBook_demands ?naBook_tables ?naBook_world ?aParty ?pgParty ?hdParty ?poParty ?saParty ?naParty_book ?naParty_kept ?naParty_names ?obBook ?icBook ?tcBook ?ccBook ?koBookParty ?knBookParty ?nqBook ?mtupleBook ?mlistBook ?mstrBook ?mintBook ?mboolBook ?mNoneTypeBook ?obParty ?icParty ?tcParty ?ccParty ?koPartyBook ?knPartyBook ?nqParty ?mtupleParty ?mlistParty ?mstrParty ?mintParty ?mboolParty ?mNoneTypeParty ?sg ?st ?a0 ?l0 ?c0 ?k0 ?a1 ?l1 ?c1 ?k1 ?a2 ?l2 ?c2 ?k2 ?a3 ?l3 ?c3 ?k3 ?a4 ?l4 ?c4 ?k4 ?a5 ?l5 ?c5 ?k5 ?a6 ?l6 ?c6 ?k6 ?a7 ?l7 ?c7 ?k7 ?a8 ?l8 ?c8 ?k8 ?a9 ?l9 ?c9 ?k9 ?a10 ?l10 ?c10 ?k10 ?a11 ?l11 ?c11 ?k11 ?a12 ?l12 ?c12 ?k12 ?a13 ?l13 ?c13 ?k13 ?a14 ?l14 ?c14 ?k14 ?a15 ?l15 ?c15 ?k15 ?a16 ?l16 ?c16 ?k16 ?a17 ?i17 ?mkBook ?kcBook ?l17 ?c17 ?k17 ?a18 ?l18 ?c18 ?k18 ?a19 ?l19 ?c19 ?k19 ?a20 ?l20 ?c20 ?k20 ?a21 ?l21 ?c21 ?k21 ?a22 ?l22 ?c22 ?k22 ?a23 ?l23 ?c23 ?k23 ?a24 ?l24 ?c24 ?k24 ?a25 ?l25 ?c25 ?k25 ?a26 ?i26 ?mkParty ?kcParty ?l26 ?c26 ?k26 ?a27 ?i27 ?l27 ?c27 ?k27 ?a28 ?i28 ?l28 ?c28 ?k28 ?a29 ?l29 ?c29 ?k29 ?a30 ?l30 ?c30 ?k30 ?a31 ?l31 ?c31 ?k31 ?a32 ?l32 ?c32 ?k32 ?a33 ?l33 ?c33 ?k33 ?a34 ?l34 ?c34 ?k34
    (case n_abs => k_is); (case n_all => k_is); (case n_bool => k_is); (case n_dict => k_is); (case n_int => k_is); (case n_isinstance => k_is); (case n_len => k_is); (case n_list => k_is); (case n_range => k_is); (case n_sorted => k_is); (case n_str => k_is); (case n_tuple => k_is); (case c_FRACTIONS => k_is); (case c_GREAT => k_is); (case c_LETTERS => k_is); (case c_MOST_DEMANDS => k_is); (case c_MOST_FACTOR => k_is); (case c_MOST_HOURS => k_is); (case c_MOST_NAMES => k_is); (case c_MOST_RIGHT => k_is); (case c_MOST_SIGNS => k_is); (case c_MOST_SIZE => k_is); (case c_MOST_TABLES => k_is); (case c_MOST_TERMS => k_is); (case c_SMALL => k_is); (case c_WHOLE => k_is); (case aBook => k_is); (case pgBook => k_is); (case hdBook => k_is); (case poBook => k_is); (case saBook => k_is); (case naBook_demands => k_is); (case naBook_tables => k_is); (case naBook_world => k_is); (case aParty => k_is); (case pgParty => k_is); (case hdParty => k_is); (case poParty => k_is); (case saParty => k_is); (case naParty_book => k_is); (case naParty_kept => k_is); (case naParty_names => k_is); (case obBook => k_is); (case icBook => k_is); (case tcBook => k_is); (case ccBook => k_is); (case koBookParty => k_is); (case knBookParty => decide); (case nqBook => k_is); (case mtupleBook => k_is); (case mlistBook => k_is); (case mstrBook => k_is); (case mintBook => k_is); (case mboolBook => k_is); (case mNoneTypeBook => k_is); (case obParty => k_is); (case icParty => k_is); (case tcParty => k_is); (case ccParty => k_is); (case koPartyBook => k_is); (case knPartyBook => decide); (case nqParty => k_is); (case mtupleParty => k_is); (case mlistParty => k_is); (case mstrParty => k_is); (case mintParty => k_is); (case mboolParty => k_is); (case mNoneTypeParty => k_is); (case sg => k_is); (case st => k_is); (case a0 => k_is); (case l0 => k_is); (case c0 => k_is); (case k0 => k_is); (case a1 => k_is); (case l1 => k_is); (case c1 => k_is); (case k1 => k_is); (case a2 => k_is); (case l2 => k_is); (case c2 => k_is); (case k2 => k_is); (case a3 => k_is); (case l3 => k_is); (case c3 => k_is); (case k3 => k_is); (case a4 => k_is); (case l4 => k_is); (case c4 => k_is); (case k4 => k_is); (case a5 => k_is); (case l5 => k_is); (case c5 => k_is); (case k5 => k_is); (case a6 => k_is); (case l6 => k_is); (case c6 => k_is); (case k6 => k_is); (case a7 => k_is); (case l7 => k_is); (case c7 => k_is); (case k7 => k_is); (case a8 => k_is); (case l8 => k_is); (case c8 => k_is); (case k8 => k_is); (case a9 => k_is); (case l9 => k_is); (case c9 => k_is); (case k9 => k_is); (case a10 => k_is); (case l10 => k_is); (case c10 => k_is); (case k10 => k_is); (case a11 => k_is); (case l11 => k_is); (case c11 => k_is); (case k11 => k_is); (case a12 => k_is); (case l12 => k_is); (case c12 => k_is); (case k12 => k_is); (case a13 => k_is); (case l13 => k_is); (case c13 => k_is); (case k13 => k_is); (case a14 => k_is); (case l14 => k_is); (case c14 => k_is); (case k14 => k_is); (case a15 => k_is); (case l15 => k_is); (case c15 => k_is); (case k15 => k_is); (case a16 => k_is); (case l16 => k_is); (case c16 => k_is); (case k16 => k_is); (case a17 => k_is); (case i17 => k_is); (case mkBook => k_is); (case kcBook => k_is); (case l17 => k_is); (case c17 => k_is); (case k17 => k_is); (case a18 => k_is); (case l18 => k_is); (case c18 => k_is); (case k18 => k_is); (case a19 => k_is); (case l19 => k_is); (case c19 => k_is); (case k19 => k_is); (case a20 => k_is); (case l20 => k_is); (case c20 => k_is); (case k20 => k_is); (case a21 => k_is); (case l21 => k_is); (case c21 => k_is); (case k21 => k_is); (case a22 => k_is); (case l22 => k_is); (case c22 => k_is); (case k22 => k_is); (case a23 => k_is); (case l23 => k_is); (case c23 => k_is); (case k23 => k_is); (case a24 => k_is); (case l24 => k_is); (case c24 => k_is); (case k24 => k_is); (case a25 => k_is); (case l25 => k_is); (case c25 => k_is); (case k25 => k_is); (case a26 => k_is); (case i26 => k_is); (case mkParty => k_is); (case kcParty => k_is); (case l26 => k_is); (case c26 => k_is); (case k26 => k_is); (case a27 => k_is); (case i27 => k_is); (case l27 => k_is); (case c27 => k_is); (case k27 => k_is); (case a28 => k_is); (case i28 => k_is); (case l28 => k_is); (case c28 => k_is); (case k28 => k_is); (case a29 => k_is); (case l29 => k_is); (case c29 => k_is); (case k29 => k_is); (case a30 => k_is); (case l30 => k_is); (case c30 => k_is); (case k30 => k_is); (case a31 => k_is); (case l31 => k_is); (case c31 => k_is); (case k31 => k_is); (case a32 => k_is); (case l32 => k_is); (case c32 => k_is); (case k32 => k_is); (case a33 => k_is); (case l33 => k_is); (case c33 => k_is); (case k33 => k_is); (case a34 => k_is); (case l34 => k_is); (case c34 => k_is); (case k34 => k_is)
