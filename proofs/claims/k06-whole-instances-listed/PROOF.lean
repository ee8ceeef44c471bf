import PyProof.Rows.All
import Wide.All
import OpenK.AllK
import Wide.FinOn
import HandS.ForMost
import HandS.ForExc
import HandS.Wide
import HandS.IsInst
import HandS.CallSlots
import HandS.ExcInit
import HandS.TryOnly
import HandS.TupAny
import HandS.Style
import HandS.SortInts
import HandS.Comp
import HandS.Small
import HandS.WordsExc
import HandS.EndBits
import HandS.TryMany
import HandS.Text
import HandS.More
import HandS.Conv
import KE.KDictPairs
import HandS.DictComp
import KE.GoesMore
import PySem.Challenge.RW_elderalike_k06_whole_instances_listed
set_option Elab.async false
set_option linter.all false
set_option maxRecDepth 100000
set_option maxHeartbeats 4000000
namespace Mi
open PySem PySem.Spec PyProof.Rows L2

/- data; the flag at a list, a dict, an instance: nothing else holds it -/
inductive D where
  | non | bl (b : Bool) | int (i : Int) | str (s : Str) | ty (n : String) | fn (x : Str) | scr (l : List Int)
  | tup (l : List D)
  | lst (o : Bool) (l : List D)
  | dic (o : Bool) (ks ws : List D)
  | ins (o : Bool) (c : Str) (ns : List Str) (ws : List D)
  deriving Inhabited

mutual
def fz : D → Bool
  | .tup l => fzL l
  | .lst o l => !o && fzL l
  | .dic o ks ws => !o && (fzL ks && fzL ws)
  | .ins o _ _ ws => !o && fzL ws
  | _ => true
def fzL : List D → Bool
  | [] => true
  | d :: r => fz d && fzL r
end
mutual
def frz : D → D
  | .tup l => .tup (frzL l)
  | .lst _ l => .lst false (frzL l)
  | .dic _ ks ws => .dic false ks (frzL ws)
  | .ins _ c ns ws => .ins false c ns (frzL ws)
  | .non => .non | .bl b => .bl b | .int i => .int i | .str s => .str s | .ty n => .ty n | .fn x => .fn x | .scr l => .scr l
def frzL : List D → List D
  | [] => []
  | d :: r => frz d :: frzL r
end
abbrev Tag := Nat × List Nat
structure Wd where
  F : Hp
  H : Hp
  t : Addr → Option Tag
structure KM where
  P : Program
  w : World
  K : PySem.W.Frag
  mg : Str → Option Value

/- a dict's object: its keys and values -/
inductive DCell : HO → List V → List V → Prop where
  | dk (kvs : List (Key × V)) : DCell (.dK kvs) (kvs.map fun p => kV p.1) (kvs.map (·.2))

/- a tuple's object, exactly one (no dict of its own) -/
def XT (K : PySem.W.Frag) (F : Hp) (x : Addr) (vs : List V) : Prop := (∃ ob : Obj, F x = some (.frz ob (.tup vs)) ∧ ob.dict = none ∧ ob.cls = .type "tuple") ∨
  ∃ (o : Obj) (its : Array Value) (n : Nat), K.lookup x = some o ∧ o.cls = .type "tuple" ∧ o.dict = none ∧ o.data = .seq its n ∧ its.size ≤ sizeLine ∧ Vals vs its.toList
theorem XT.sq {K : PySem.W.Frag} {F : Hp} {x : Addr} {vs : List V} (h : XT K F x vs) : SqT K F x vs := by
  rcases h with ⟨ob, h, _⟩ | ⟨o, its, n, h1, h2, _, h3, h4, h5⟩
  · exact .inl (.inr ⟨ob, h⟩)
  · exact .inr ⟨o, its, n, h1, h2, h3, h4, h5⟩
theorem xt_mono {K : PySem.W.Frag} {F G : Hp} (h : ∀ x o, F x = some o → G x = some o) {x : Addr} {vs : List V} (q : XT K F x vs) : XT K G x vs := by
  rcases q with ⟨ob, q, z⟩ | q
  · exact .inl ⟨ob, h _ _ q, z⟩
  · exact .inr q
mutual
def Rep (C : KM) (a : Wd) (r : Nat) (p : List Nat) (v : V) : D → Prop
  | .non => v = .non
  | .bl b => v = .bl b
  | .int i => v = .int i
  | .str s => v = .str s
  | .ty n => v = .ty n
  | .fn x => ∃ u, C.mg x = some (.ref u) ∧ v = .ref u
  | .scr l => ∃ x, v = .ref x ∧ SqL C.K a.F x (l.map V.int)
  | .tup l => ∃ x vs, v = .ref x ∧ XT C.K a.F x vs ∧ RepL C a r p 0 vs l
  | .lst o l => ∃ x vs, v = .ref x ∧ (if o = true then a.t x = some (r, p) ∧ a.H x = some (.lst vs) else a.F x = some (.lst vs) ∧ fzL l = true) ∧ RepL C a r p 0 vs l
  | .dic o ks ws => ∃ x h kv vs, v = .ref x ∧ (if o = true then a.t x = some (r, p) ∧ a.H x = some h else a.F x = some h ∧ fzL ws = true) ∧ DCell h kv vs ∧ fzL ks = true ∧ RepL C a r p 0 kv ks ∧ RepL C a r p 0 vs ws
  | .ins o c ns ws => ∃ x u dx vs, v = .ref x ∧ C.mg c = some (.ref u) ∧ vs.length = ns.length ∧
      (if o = true then a.t x = some (r, p) ∧ a.H x = some (.ins u dx (ns.zip vs)) else a.F x = some (.ins u dx (ns.zip vs)) ∧ fzL ws = true) ∧ RepL C a r p 0 vs ws
def RepL (C : KM) (a : Wd) (r : Nat) (p : List Nat) (n : Nat) (vs : List V) : List D → Prop
  | [] => vs = []
  | d :: ds => ∃ v us, vs = v :: us ∧ Rep C a r (n :: p) v d ∧ RepL C a r p (n + 1) us ds
end

structure Ok (a : Wd) : Prop where
  sub : ∀ x o, a.F x = some o → a.H x = some o
  own : ∀ x t, a.t x = some t → a.F x = none ∧ ∃ o, a.H x = some o
/- nothing is changed, things may be new -/
structure Grow (a b : Wd) : Prop where
  h : ∀ x o, a.H x = some o → b.H x = some o ∧ b.t x = a.t x ∧ b.F x = a.F x
/- what is not owned stays -/
def Step (a b : Wd) : Prop := ∀ x o, a.H x = some o → a.t x = none → b.H x = some o ∧ b.t x = none ∧ b.F x = a.F x
theorem Grow.refl (a : Wd) : Grow a a := ⟨fun _ _ h => ⟨h, rfl, rfl⟩⟩
theorem Grow.trans {a b c : Wd} (x : Grow a b) (y : Grow b c) : Grow a c := ⟨fun z o h => by
  obtain ⟨h1, h2, h3⟩ := x.h z o h
  obtain ⟨g1, g2, g3⟩ := y.h z o h1
  exact ⟨g1, g2.trans h2, g3.trans h3⟩⟩
theorem Step.refl (a : Wd) : Step a a := fun _ _ h t => ⟨h, t, rfl⟩
theorem Step.trans {a b c : Wd} (x : Step a b) (y : Step b c) : Step a c := fun z o h t => by
  obtain ⟨h1, h2, h3⟩ := x z o h t
  obtain ⟨g1, g2, g3⟩ := y z o h1 h2
  exact ⟨g1, g2, g3.trans h3⟩
theorem Grow.step {a b : Wd} (x : Grow a b) : Step a b := fun z o h t => by
  obtain ⟨h1, h2, h3⟩ := x.h z o h
  exact ⟨h1, h2.trans t, h3⟩
theorem Ok.tn {a : Wd} (k : Ok a) {x : Addr} {o : HO} (h : a.F x = some o) : a.t x = none := by
  cases e : a.t x with
  | none => rfl
  | some t => have := (k.own x t e).1; rw [h] at this; cases this
theorem Step.f {a b : Wd} (s : Step a b) (k : Ok a) {x : Addr} {o : HO} (h : a.F x = some o) : b.F x = some o := by
  rw [(s x o (k.sub x o h) (k.tn h)).2.2]; exact h
theorem Grow.f {a b : Wd} (s : Grow a b) (k : Ok a) {x : Addr} {o : HO} (h : a.F x = some o) : b.F x = some o := by
  rw [(s.h x o (k.sub x o h)).2.2]; exact h

theorem sql_mono {K : PySem.W.Frag} {F G : Hp} (h : ∀ x o, F x = some o → G x = some o) {x : Addr} {vs : List V} (q : SqL K F x vs) : SqL K G x vs := by
  rcases q with (q | ⟨o, q⟩) | q
  · exact .inl (.inl (h _ _ q))
  · exact .inl (.inr ⟨o, h _ _ q⟩)
  · exact .inr q
theorem sqt_mono {K : PySem.W.Frag} {F G : Hp} (h : ∀ x o, F x = some o → G x = some o) {x : Addr} {vs : List V} (q : SqT K F x vs) : SqT K G x vs := by
  rcases q with (q | ⟨o, q⟩) | q
  · exact .inl (.inl (h _ _ q))
  · exact .inl (.inr ⟨o, h _ _ q⟩)
  · exact .inr q

/-! the general transport: F grows, owned nodes of the tree keep their cell and get the new tag -/
mutual
theorem Rep.to {C : KM} {a b : Wd} {r s : Nat} {p q : List Nat} (hf : ∀ x o, a.F x = some o → b.F x = some o)
    (ho : ∀ x z o, a.t x = some (r, z ++ p) → a.H x = some o → b.t x = some (s, z ++ q) ∧ b.H x = some o) :
    ∀ (d : D) (z : List Nat) (v : V), Rep C a r (z ++ p) v d → Rep C b s (z ++ q) v d
  | .non, z, v, h => h
  | .bl _, z, v, h => h
  | .int _, z, v, h => h
  | .str _, z, v, h => h
  | .ty _, z, v, h => h
  | .fn _, z, v, h => h
  | .scr _, z, v, ⟨x, e, h⟩ => ⟨x, e, sql_mono hf h⟩
  | .tup l, z, v, ⟨x, vs, e, h, k⟩ => ⟨x, vs, e, xt_mono hf h, RepL.to hf ho l z 0 vs k⟩
  | .lst true l, z, v, ⟨x, vs, e, h, k⟩ => ⟨x, vs, e, by rw [if_pos rfl] at h ⊢; exact ho x z _ h.1 h.2, RepL.to hf ho l z 0 vs k⟩
  | .lst false l, z, v, ⟨x, vs, e, h, k⟩ => ⟨x, vs, e, by rw [if_neg Bool.false_ne_true] at h ⊢; exact ⟨hf _ _ h.1, h.2⟩, RepL.to hf ho l z 0 vs k⟩
  | .dic true ks ws, z, v, ⟨x, u, kv, vs, e, h, c, f, k1, k2⟩ => ⟨x, u, kv, vs, e, by rw [if_pos rfl] at h ⊢; exact ho x z _ h.1 h.2, c, f, RepL.to hf ho ks z 0 kv k1, RepL.to hf ho ws z 0 vs k2⟩
  | .dic false ks ws, z, v, ⟨x, u, kv, vs, e, h, c, f, k1, k2⟩ => ⟨x, u, kv, vs, e, by rw [if_neg Bool.false_ne_true] at h ⊢; exact ⟨hf _ _ h.1, h.2⟩, c, f, RepL.to hf ho ks z 0 kv k1, RepL.to hf ho ws z 0 vs k2⟩
  | .ins true c ns ws, z, v, ⟨x, u, dx, vs, e, m, l, h, k⟩ => ⟨x, u, dx, vs, e, m, l, by rw [if_pos rfl] at h ⊢; exact ho x z _ h.1 h.2, RepL.to hf ho ws z 0 vs k⟩
  | .ins false c ns ws, z, v, ⟨x, u, dx, vs, e, m, l, h, k⟩ => ⟨x, u, dx, vs, e, m, l, by rw [if_neg Bool.false_ne_true] at h ⊢; exact ⟨hf _ _ h.1, h.2⟩, RepL.to hf ho ws z 0 vs k⟩
theorem RepL.to {C : KM} {a b : Wd} {r s : Nat} {p q : List Nat} (hf : ∀ x o, a.F x = some o → b.F x = some o)
    (ho : ∀ x z o, a.t x = some (r, z ++ p) → a.H x = some o → b.t x = some (s, z ++ q) ∧ b.H x = some o) :
    ∀ (l : List D) (z : List Nat) (n : Nat) (vs : List V), RepL C a r (z ++ p) n vs l → RepL C b s (z ++ q) n vs l
  | [], z, n, vs, h => h
  | d :: l, z, n, vs, ⟨v, us, e, h1, h2⟩ => ⟨v, us, e, Rep.to hf ho d (n :: z) v h1, RepL.to hf ho l z (n + 1) us h2⟩
end
/-! frozen data stands at any tag -/
mutual
theorem Rep.fz {C : KM} {a b : Wd} {r s : Nat} (hf : ∀ x o, a.F x = some o → b.F x = some o) :
    ∀ (d : D) (p q : List Nat) (v : V), fz d = true → Rep C a r p v d → Rep C b s q v d
  | .non, p, q, v, _, h => h
  | .bl _, p, q, v, _, h => h
  | .int _, p, q, v, _, h => h
  | .str _, p, q, v, _, h => h
  | .ty _, p, q, v, _, h => h
  | .fn _, p, q, v, _, h => h
  | .scr _, p, q, v, _, ⟨x, e, h⟩ => ⟨x, e, sql_mono hf h⟩
  | .tup l, p, q, v, z, ⟨x, vs, e, h, k⟩ => ⟨x, vs, e, xt_mono hf h, RepL.fz hf l p q 0 vs z k⟩
  | .lst true l, p, q, v, z, _ => by simp [Mi.fz] at z
  | .lst false l, p, q, v, z, ⟨x, vs, e, h, k⟩ => by
    have z : fzL l = true := by simpa [Mi.fz] using z
    exact ⟨x, vs, e, by rw [if_neg Bool.false_ne_true] at h ⊢; exact ⟨hf _ _ h.1, h.2⟩, RepL.fz hf l p q 0 vs z k⟩
  | .dic true ks ws, p, q, v, z, _ => by simp [Mi.fz] at z
  | .dic false ks ws, p, q, v, z, ⟨x, u, kv, vs, e, h, c, f, k1, k2⟩ => by
    have z : fzL ks = true ∧ fzL ws = true := by simpa [Mi.fz] using z
    exact ⟨x, u, kv, vs, e, by rw [if_neg Bool.false_ne_true] at h ⊢; exact ⟨hf _ _ h.1, h.2⟩, c, f, RepL.fz hf ks p q 0 kv z.1 k1, RepL.fz hf ws p q 0 vs z.2 k2⟩
  | .ins true c ns ws, p, q, v, z, _ => by simp [Mi.fz] at z
  | .ins false c ns ws, p, q, v, z, ⟨x, u, dx, vs, e, m, l, h, k⟩ => by
    have z : fzL ws = true := by simpa [Mi.fz] using z
    exact ⟨x, u, dx, vs, e, m, l, by rw [if_neg Bool.false_ne_true] at h ⊢; exact ⟨hf _ _ h.1, h.2⟩, RepL.fz hf ws p q 0 vs z k⟩
theorem RepL.fz {C : KM} {a b : Wd} {r s : Nat} (hf : ∀ x o, a.F x = some o → b.F x = some o) :
    ∀ (l : List D) (p q : List Nat) (n : Nat) {m : Nat} (vs : List V), fzL l = true → RepL C a r p n vs l → RepL C b s q m vs l
  | [], p, q, n, m, vs, _, h => h
  | d :: l, p, q, n, m, vs, z, ⟨v, us, e, h1, h2⟩ => by
    have z : Mi.fz d = true ∧ fzL l = true := by simpa [Mi.fzL] using z
    exact ⟨v, us, e, Rep.fz hf d (n :: p) (m :: q) v z.1 h1, RepL.fz hf l p q (n + 1) us z.2 h2⟩
end
/-! a tree is frozen: its nodes go into F -/
mutual
theorem Rep.frz {C : KM} {a b : Wd} {r s : Nat} (hf : ∀ x o, a.F x = some o → b.F x = some o) (ho : ∀ x z o, a.t x = some (r, z) → a.H x = some o → b.F x = some o) :
    ∀ (d : D) (p q : List Nat) (v : V), Rep C a r p v d → Mi.fz (Mi.frz d) = true ∧ Rep C b s q v (Mi.frz d)
  | .non, p, q, v, h => ⟨rfl, h⟩
  | .bl _, p, q, v, h => ⟨rfl, h⟩
  | .int _, p, q, v, h => ⟨rfl, h⟩
  | .str _, p, q, v, h => ⟨rfl, h⟩
  | .ty _, p, q, v, h => ⟨rfl, h⟩
  | .fn _, p, q, v, h => ⟨rfl, h⟩
  | .scr _, p, q, v, ⟨x, e, h⟩ => ⟨rfl, x, e, sql_mono hf h⟩
  | .tup l, p, q, v, ⟨x, vs, e, h, k⟩ => by
    obtain ⟨z, k'⟩ := RepL.frz (s := s) hf ho l p q 0 vs k
    exact ⟨by simpa [Mi.fz, Mi.frz] using z, x, vs, e, xt_mono hf h, k'⟩
  | .lst o l, p, q, v, ⟨x, vs, e, h, k⟩ => by
    obtain ⟨z, k'⟩ := RepL.frz (s := s) hf ho l p q 0 vs k
    refine ⟨by simpa [Mi.fz, Mi.frz] using z, x, vs, e, ?_, k'⟩
    rw [if_neg Bool.false_ne_true]
    cases o with
    | true => rw [if_pos rfl] at h; exact ⟨ho x _ _ h.1 h.2, z⟩
    | false => rw [if_neg Bool.false_ne_true] at h; exact ⟨hf _ _ h.1, z⟩
  | .dic o ks ws, p, q, v, ⟨x, u, kv, vs, e, h, c, f, k1, k2⟩ => by
    obtain ⟨z, k'⟩ := RepL.frz (s := s) hf ho ws p q 0 vs k2
    refine ⟨by simp [Mi.fz, Mi.frz, z, f], x, u, kv, vs, e, ?_, c, f, RepL.fz hf ks p q 0 kv f k1, k'⟩
    rw [if_neg Bool.false_ne_true]
    cases o with
    | true => rw [if_pos rfl] at h; exact ⟨ho x _ _ h.1 h.2, z⟩
    | false => rw [if_neg Bool.false_ne_true] at h; exact ⟨hf _ _ h.1, z⟩
  | .ins o c ns ws, p, q, v, ⟨x, u, dx, vs, e, m, l, h, k⟩ => by
    obtain ⟨z, k'⟩ := RepL.frz (s := s) hf ho ws p q 0 vs k
    refine ⟨by simpa [Mi.fz, Mi.frz] using z, x, u, dx, vs, e, m, l, ?_, k'⟩
    rw [if_neg Bool.false_ne_true]
    cases o with
    | true => rw [if_pos rfl] at h; exact ⟨ho x _ _ h.1 h.2, z⟩
    | false => rw [if_neg Bool.false_ne_true] at h; exact ⟨hf _ _ h.1, z⟩
theorem RepL.frz {C : KM} {a b : Wd} {r s : Nat} (hf : ∀ x o, a.F x = some o → b.F x = some o) (ho : ∀ x z o, a.t x = some (r, z) → a.H x = some o → b.F x = some o) :
    ∀ (l : List D) (p q : List Nat) (n : Nat) {m : Nat} (vs : List V), RepL C a r p n vs l → fzL (frzL l) = true ∧ RepL C b s q m vs (frzL l)
  | [], p, q, n, m, vs, h => ⟨rfl, h⟩
  | d :: l, p, q, n, m, vs, ⟨v, us, e, h1, h2⟩ => by
    obtain ⟨z1, k1⟩ := Rep.frz (s := s) hf ho d (n :: p) (m :: q) v h1
    obtain ⟨z2, k2⟩ := RepL.frz (s := s) hf ho l p q (n + 1) (m := m + 1) us h2
    exact ⟨by simp [Mi.frzL, Mi.fzL, z1, z2], v, us, e, k1, k2⟩
end
end Mi
namespace Mi
open PySem PySem.Spec PyProof.Rows L2

mutual
theorem frz_fz : ∀ d : D, fz d = true → frz d = d
  | .non, _ => rfl
  | .bl _, _ => rfl
  | .int _, _ => rfl
  | .str _, _ => rfl
  | .ty _, _ => rfl
  | .fn _, _ => rfl
  | .scr _, _ => rfl
  | .tup l, h => by simp only [frz, frzL_fz l (by simpa [fz] using h)]
  | .lst o l, h => by
    have h : o = false ∧ fzL l = true := by simpa [fz] using h
    simp only [frz, frzL_fz l h.2, h.1]
  | .dic o ks ws, h => by
    have h : o = false ∧ fzL ks = true ∧ fzL ws = true := by simpa [fz] using h
    simp only [frz, frzL_fz ws h.2.2, h.1]
  | .ins o c ns ws, h => by
    have h : o = false ∧ fzL ws = true := by simpa [fz] using h
    simp only [frz, frzL_fz ws h.2, h.1]
theorem frzL_fz : ∀ l : List D, fzL l = true → frzL l = l
  | [], _ => rfl
  | d :: l, h => by
    have h : fz d = true ∧ fzL l = true := by simpa [fzL] using h
    simp only [frzL, frz_fz d h.1, frzL_fz l h.2]
end

/-! ### the worlds behind a freezing, a move -/
def frzW (a : Wd) (r : Nat) : Wd where
  F := fun x => match a.t x with | some (s, _) => if s = r then a.H x else a.F x | none => a.F x
  H := a.H
  t := fun x => match a.t x with | some (s, q) => if s = r then none else some (s, q) | none => none
def mvW (a : Wd) (r k : Nat) : Wd where
  F := a.F
  H := a.H
  t := fun x => match a.t x with | some (s, q) => if s = r then some (k, q) else some (s, q) | none => none
section
variable {a b : Wd} {C : KM} {r k s : Nat} {d : D} {v : V} {p q : List Nat}
theorem frzW_f (k : Ok a) : ∀ x o, a.F x = some o → (frzW a r).F x = some o := fun x o h => by
  show (match a.t x with | some (s, _) => if s = r then a.H x else a.F x | none => a.F x) = _
  rw [k.tn h]; exact h
theorem frzW_o (r : Nat) : ∀ x z o, a.t x = some (r, z) → a.H x = some o → (frzW a r).F x = some o := fun x z o h e => by
  show (match a.t x with | some (s, _) => if s = r then a.H x else a.F x | none => a.F x) = _
  rw [h]; simpa using e
theorem frzW_ok (k : Ok a) : Ok (frzW a r) := by
  refine ⟨fun x o h => ?_, fun x t h => ?_⟩
  · have h : (match a.t x with | some (s, _) => if s = r then a.H x else a.F x | none => a.F x) = some o := h
    show a.H x = some o
    split at h
    · split at h
      · exact h
      · exact k.sub x o h
    · exact k.sub x o h
  · have h : (match a.t x with | some (s, q) => if s = r then none else some (s, q) | none => none) = some t := h
    split at h
    · rename_i s q e
      split at h
      · cases h
      · rename_i ne
        obtain ⟨h1, h2⟩ := k.own x _ e
        refine ⟨?_, h2⟩
        show (match a.t x with | some (s, _) => if s = r then a.H x else a.F x | none => a.F x) = none
        rw [e]; simp [ne, h1]
    · cases h
theorem frzW_step : Step a (frzW a r) := fun x o h t => by
  refine ⟨h, ?_, ?_⟩
  · show (match a.t x with | some (s, q) => if s = r then none else some (s, q) | none => none) = none
    rw [t]
  · show (match a.t x with | some (s, _) => if s = r then a.H x else a.F x | none => a.F x) = a.F x
    rw [t]
theorem frzW_rep (k : Ok a) (h : Rep C a r p v d) : fz (frz d) = true ∧ Rep C (frzW a r) s q v (frz d) := Rep.frz (frzW_f k) (frzW_o r) d p q v h
theorem frzW_else (k : Ok a) (ne : s ≠ r) (h : Rep C a s p v d) : Rep C (frzW a r) s p v d := by
  have := Rep.to (C := C) (a := a) (b := frzW a r) (r := s) (s := s) (p := p) (q := p) (frzW_f k) (fun x z o h e => ⟨by
    show (match a.t x with | some (s, q) => if s = r then none else some (s, q) | none => none) = _
    rw [h]; simp [ne], e⟩) d [] v
  exact this h
theorem mvW_ok (k : Ok a) {r m : Nat} : Ok (mvW a r m) := by
  refine ⟨k.sub, fun x t h => ?_⟩
  have h : (match a.t x with | some (s, q) => if s = r then some (m, q) else some (s, q) | none => none) = some t := h
  split at h
  · rename_i s q e; exact k.own x _ e
  · cases h
theorem mvW_step {r m : Nat} : Step a (mvW a r m) := fun x o h t => by
  refine ⟨h, ?_, rfl⟩
  show (match a.t x with | some (s, q) => if s = r then some (m, q) else some (s, q) | none => none) = none
  rw [t]
theorem mvW_rep {m : Nat} (h : Rep C a r p v d) : Rep C (mvW a r m) m p v d := by
  have := Rep.to (C := C) (a := a) (b := mvW a r m) (r := r) (s := m) (p := p) (q := p) (fun _ _ h => h) (fun x z o h e => ⟨by
    show (match a.t x with | some (s, q) => if s = r then some (m, q) else some (s, q) | none => none) = _
    rw [h]; simp, e⟩) d [] v
  exact this h
theorem mvW_else {m : Nat} (ne : s ≠ r) (h : Rep C a s p v d) : Rep C (mvW a r m) s p v d := by
  have := Rep.to (C := C) (a := a) (b := mvW a r m) (r := s) (s := s) (p := p) (q := p) (fun _ _ h => h) (fun x z o h e => ⟨by
    show (match a.t x with | some (s, q) => if s = r then some (m, q) else some (s, q) | none => none) = _
    rw [h]; simp [ne], e⟩) d [] v
  exact this h
theorem Rep.grow (k : Ok a) (g : Grow a b) (h : Rep C a r p v d) : Rep C b r p v d := by
  have := Rep.to (C := C) (a := a) (b := b) (r := r) (s := r) (p := p) (q := p) (fun x o h => g.f k h) (fun x z o h e => ⟨((g.h x o e).2.1).trans h, (g.h x o e).1⟩) d [] v
  exact this h
theorem Rep.step (k : Ok a) (st : Step a b) (z : Mi.fz d = true) (h : Rep C a r p v d) : Rep C b s q v d := Rep.fz (fun x o h => st.f k h) d p q v z h
theorem Rep.stepL {l : List D} {vs : List V} {n m : Nat} (k : Ok a) (st : Step a b) (z : fzL l = true) (h : RepL C a r p n vs l) : RepL C b s q m vs l := RepL.fz (fun x o h => st.f k h) l p q n vs z h
/- a new thing, frozen, owned -/
theorem grow_f {o : HO} {x : Addr} (k : Ok a) (hx : a.H x = none) : Grow a ⟨upd a.F x o, upd a.H x o, a.t⟩ ∧ Ok ⟨upd a.F x o, upd a.H x o, a.t⟩ := by
  have tx : a.t x = none := by
    cases e : a.t x with
    | none => rfl
    | some t => obtain ⟨_, o, h⟩ := k.own x t e; rw [hx] at h; cases h
  refine ⟨⟨fun y u h => ?_⟩, ⟨fun y u h => ?_, fun y t h => ?_⟩⟩
  · have ne : y ≠ x := by rintro rfl; rw [hx] at h; cases h
    exact ⟨by show upd a.H x o y = _; rw [upd_ne ne]; exact h, rfl, by show upd a.F x o y = _; rw [upd_ne ne]⟩
  · by_cases e : y = x
    · subst e
      have h : upd a.F y o y = some u := h
      rw [upd_same] at h
      show upd a.H y o y = some u
      rw [upd_same]; exact h
    · have h : upd a.F x o y = some u := h
      rw [upd_ne e] at h
      show upd a.H x o y = some u
      rw [upd_ne e]; exact k.sub y u h
  · have ne : y ≠ x := by rintro rfl; have h : a.t y = some t := h; rw [tx] at h; cases h
    obtain ⟨h1, u, h2⟩ := k.own y t h
    exact ⟨by show upd a.F x o y = _; rw [upd_ne ne]; exact h1, u, by show upd a.H x o y = _; rw [upd_ne ne]; exact h2⟩
theorem grow_o {o : HO} {x : Addr} (T : Tag) (k : Ok a) (hx : a.H x = none) : Grow a ⟨a.F, upd a.H x o, fun y => if y = x then some T else a.t y⟩ ∧ Ok ⟨a.F, upd a.H x o, fun y => if y = x then some T else a.t y⟩ := by
  have fx : a.F x = none := by
    cases e : a.F x with
    | none => rfl
    | some u => have := k.sub x u e; rw [hx] at this; cases this
  refine ⟨⟨fun y u h => ?_⟩, ⟨fun y u h => ?_, fun y t h => ?_⟩⟩
  · have ne : y ≠ x := by rintro rfl; rw [hx] at h; cases h
    exact ⟨by show upd a.H x o y = _; rw [upd_ne ne]; exact h, if_neg ne, rfl⟩
  · have ne : y ≠ x := by rintro rfl; have h : a.F y = some u := h; rw [fx] at h; cases h
    show upd a.H x o y = _
    rw [upd_ne ne]; exact k.sub y u h
  · have h : (if y = x then some T else a.t y) = some t := h
    by_cases e : y = x
    · subst e
      exact ⟨fx, o, upd_same⟩
    · rw [if_neg e] at h
      obtain ⟨h1, u, h2⟩ := k.own y t h
      exact ⟨h1, u, by show upd a.H x o y = _; rw [upd_ne e]; exact h2⟩
end

/-! ### results, frames -/
abbrev EnvD := List (Option D)
structure Exc where
  cls : Str
  ns : List Str
  ws : List D
inductive Res (α : Type) where
  | ok (a : α) | exc (x : Exc) (e : EnvD) | bad
def Res.bind {α β : Type} (m : Res α) (k : α → Res β) : Res β := match m with
  | .ok a => k a
  | .exc x e => .exc x e
  | .bad => .bad
instance : Monad Res where
  pure := .ok
  bind := Res.bind
structure Gm where
  C : KM
  vs0 : List V
  io : List Nat
structure RelE (G : Gm) (a : Wd) (σ : L2.St) (env : EnvD) : Prop where
  ok : Ok a
  len : env.length = σ.length
  slot : ∀ i d, env[i]? = some (some d) → ∃ v, σ[i]? = some (some v) ∧ Rep G.C a (i + 1) [] v d
  prm : ∀ i ∈ G.io, ∀ v, G.vs0[i]? = some v → σ[i]? = some (some v)
def ExcRep (C : KM) (a : Wd) (x : Exc) (cls : Value) (dd : Option Addr) : Prop :=
  C.mg x.cls = some cls ∧ ((x.ns = [] ∧ x.ws = [] ∧ dd = none) ∨ ∃ u vs, dd = some u ∧ a.F u = some (.xd (x.ns.zip vs)) ∧ vs.length = x.ns.length ∧ fzL x.ws = true ∧ RepL C a 0 [] 0 vs x.ws)

section
variable {G : Gm} {W : WX} {σ : L2.St} {a b : Wd} {env : EnvD} {α β : Type}
theorem RelE.grow (r : RelE G a σ env) (g : Grow a b) (k : Ok b) : RelE G b σ env :=
  ⟨k, r.len, fun i d h => let ⟨v, e, q⟩ := r.slot i d h; ⟨v, e, q.grow r.ok g⟩, r.prm⟩
/- behind an expression -/
def PostR (G : Gm) (W : WX) (σ : L2.St) (a : Wd) (r : Res (α × EnvD)) (K : α → EnvD → Wd → Prop) : Prop :=
  match r with
  | .ok (x, e) => ∀ b, Step a b → RelE G b σ e → K x e b
  | .exc x e => ∀ b cls dd, Step a b → RelE G b σ e → ExcRep G.C b x cls dd → W cls dd σ b.H
  | .bad => False
theorem PostR.step {r : Res (α × EnvD)} {K : α → EnvD → Wd → Prop} (st : Step a b) (h : PostR G W σ a r K) : PostR G W σ b r K := by
  cases r with
  | ok x => exact fun c s k => h c (st.trans s) k
  | exc x e => exact fun c cls dd s k => h c cls dd (st.trans s) k
  | bad => exact h
theorem PostR.imp {r : Res (α × EnvD)} {K K' : α → EnvD → Wd → Prop} (h : PostR G W σ a r K) (f : ∀ x e b, Step a b → RelE G b σ e → K x e b → K' x e b) : PostR G W σ a r K' := by
  cases r with
  | ok x => exact fun c s k => f _ _ _ s k (h c s k)
  | exc x e => exact h
  | bad => exact h
theorem PostR.bind {m : Res (α × EnvD)} {k : α × EnvD → Res (β × EnvD)} {K : β → EnvD → Wd → Prop} (h : PostR G W σ a (m.bind k) K) :
    PostR G W σ a m (fun x e b => PostR G W σ b (k (x, e)) K) := by
  cases m with
  | ok x => exact fun c s _ => PostR.step s h
  | exc x e => exact h
  | bad => exact h
end

abbrev EM (α : Type) := EnvD → Res (α × EnvD)
/- an operand: a name's slot, or frozen data -/
inductive Arg where
  | var (i : Nat) | val (d : D)
def Arg.get (e : EnvD) : Arg → Option D
  | .val d => some d
  | .var i => match e[i]? with | some (some d) => some d | _ => none
def ArgRep (C : KM) (a : Wd) (σ : L2.St) (x : Arg) (v : V) : Prop := match x with
  | .val d => fz d = true ∧ Rep C a 0 [] v d
  | .var i => σ[i]? = some (some v)
theorem ArgRep.step {C : KM} {a b : Wd} {σ : L2.St} {x : Arg} {v : V} (k : Ok a) (s : Step a b) (h : ArgRep C a σ x v) : ArgRep C b σ x v := by
  cases x with
  | val d => exact ⟨h.1, h.2.step k s h.1⟩
  | var i => exact h
theorem ArgRep.rep {G : Gm} {a : Wd} {σ : L2.St} {env : EnvD} {x : Arg} {v : V} {d : D} (rel : RelE G a σ env) (h : ArgRep G.C a σ x v) (e : x.get env = some d) : ∃ r, Rep G.C a r [] v d := by
  cases x with
  | val d' => cases e; exact ⟨0, h.2⟩
  | var i =>
    have e : (match env[i]? with | some (some d) => some d | _ => none) = some d := e
    split at e
    · rename_i d' q
      cases e
      obtain ⟨v', h1, h2⟩ := rel.slot i d q
      have h : σ[i]? = some (some v) := h
      rw [h] at h1; cases h1
      exact ⟨_, h2⟩
    · cases e

/-! ### readings -/
section
variable (G : Gm) (W : WX)
def tE (m : EM D) : TE := fun σ H Q => ∃ a env, a.H = H ∧ RelE G a σ env ∧ PostR G W σ a (m env) fun d _ b => ∀ v, Rep G.C b 0 [] v d → Q v b.H
def tArg (m : EM Arg) : TE := fun σ H Q => ∃ a env, a.H = H ∧ RelE G a σ env ∧ PostR G W σ a (m env) fun x _ b => ∀ v, ArgRep G.C b σ x v → Q v b.H
def tArgs (m : EM (List Arg)) : TA := fun σ H Q => ∃ a env, a.H = H ∧ RelE G a σ env ∧ PostR G W σ a (m env) fun xs _ b => ∀ vs, Paired (ArgRep G.C b σ) xs vs → Q vs b.H
def tT (m : EM Bool) : TT := fun σ H Q => ∃ a env, a.H = H ∧ RelE G a σ env ∧ PostR G W σ a (m env) fun x _ b => Q x b.H
end
theorem PE.weak {X : Cx} {e : Expr} {t u : TE} (h : PE X e t) (w : ∀ σ H Q, u σ H Q → t σ H Q) : PE X e u := ⟨fun pins s σ H Q I q => h.run pins s σ H Q I (w σ H Q q)⟩
theorem PT.weak {X : Cx} {e : Expr} {t u : TT} (h : PT X e t) (w : ∀ σ H Q, u σ H Q → t σ H Q) : PT X e u := ⟨fun pins s σ H Q I q => h.run pins s σ H Q I (w σ H Q q)⟩
theorem PW.weak {X : Cx} {e : Expr} {t u : TT} (h : PW X e t) (w : ∀ σ H Q, u σ H Q → t σ H Q) : PW X e u := ⟨fun wh pins s σ H Q I q => h.run wh pins s σ H Q I (w σ H Q q)⟩
theorem PA.weak {X : Cx} {e : List Expr} {t u : TA} (h : PA X e t) (w : ∀ σ H Q, u σ H Q → t σ H Q) : PA X e u := ⟨fun p pins s σ H Q I q => h.run p pins s σ H Q I (w σ H Q q)⟩
theorem PS.weak {X : Cx} {e : Stmt} {t u : TS} (h : PS X e t) (w : ∀ D σ H, u D σ H → t D σ H) : PS X e u := ⟨fun pins s σ H D I q => h.run pins s σ H D I (w D σ H q)⟩
theorem PSs.weak {X : Cx} {e : List Stmt} {t u : TS} (h : PSs X e t) (w : ∀ D σ H, u D σ H → t D σ H) : PSs X e u := ⟨fun pins s σ H D I q => h.run pins s σ H D I (w D σ H q)⟩

section
variable {G : Gm} {W : WX} {σ : L2.St} {a : Wd} {env : EnvD} {β : Type} {K : β → EnvD → Wd → Prop}
theorem tArg_of {m : EM Arg} {k : Arg × EnvD → Res (β × EnvD)} {R : VK} (rel : RelE G a σ env) (h : PostR G W σ a ((m env).bind k) K)
    (hq : ∀ x e b v, Step a b → RelE G b σ e → ArgRep G.C b σ x v → PostR G W σ b (k (x, e)) K → R v b.H) : tArg G W m σ a.H R :=
  ⟨a, env, rfl, rel, h.bind.imp fun x e b s r p v q => hq x e b v s r q p⟩
theorem tE_of {m : EM D} {k : D × EnvD → Res (β × EnvD)} {R : VK} (rel : RelE G a σ env) (h : PostR G W σ a ((m env).bind k) K)
    (hq : ∀ x e b v, Step a b → RelE G b σ e → Rep G.C b 0 [] v x → PostR G W σ b (k (x, e)) K → R v b.H) : tE G W m σ a.H R :=
  ⟨a, env, rfl, rel, h.bind.imp fun x e b s r p v q => hq x e b v s r q p⟩
theorem tArgs_of {m : EM (List Arg)} {k : List Arg × EnvD → Res (β × EnvD)} {R : List V → Hp → Prop} (rel : RelE G a σ env) (h : PostR G W σ a ((m env).bind k) K)
    (hq : ∀ x e b v, Step a b → RelE G b σ e → Paired (ArgRep G.C b σ) x v → PostR G W σ b (k (x, e)) K → R v b.H) : tArgs G W m σ a.H R :=
  ⟨a, env, rfl, rel, h.bind.imp fun x e b s r p v q => hq x e b v s r q p⟩
theorem tT_of {m : EM Bool} {k : Bool × EnvD → Res (β × EnvD)} {R : Bool → Hp → Prop} (rel : RelE G a σ env) (h : PostR G W σ a ((m env).bind k) K)
    (hq : ∀ x e b, Step a b → RelE G b σ e → PostR G W σ b (k (x, e)) K → R x b.H) : tT G W m σ a.H R :=
  ⟨a, env, rfl, rel, h.bind.imp fun x e b s r p => hq x e b s r p⟩
/- what is handed on -/
theorem PostR.get {x : β} {e : EnvD} (h : PostR G W σ a (.ok (x, e)) K) (rel : RelE G a σ e) : K x e a := h a (Step.refl a) rel
end

/-! ### operations on values -/
/- a two-place operation that changes nothing, by data -/
def rD (C : KM) (g : D → D → Option D) : R2 := fun x y H Q => ∃ a d1 d2 r1 r2 d, a.H = H ∧ Ok a ∧ Rep C a r1 [] x d1 ∧ Rep C a r2 [] y d2 ∧ g d1 d2 = some d ∧ ∀ z b, Grow a b → Ok b → Rep C b 0 [] z d → Q z b.H
def uD (C : KM) (g : D → Option D) : V → Hp → VK → Prop := fun x H Q => ∃ a d1 r1 d, a.H = H ∧ Ok a ∧ Rep C a r1 [] x d1 ∧ g d1 = some d ∧ ∀ z b, Grow a b → Ok b → Rep C b 0 [] z d → Q z b.H
/- a call of a builtin on values -/
def cD (C : KM) (g : List D → Option D) : List V → Hp → VK → Prop := fun xs H Q => ∃ a ds d, a.H = H ∧ Ok a ∧ Paired (fun d v => ∃ r, Rep C a r [] v d) ds xs ∧ g ds = some d ∧ ∀ z b, Grow a b → Ok b → Rep C b 0 [] z d → Q z b.H

def mLift (o : Option D) (e : EnvD) : Res (D × EnvD) := match o with
  | some d => .ok (d, e)
  | none => .bad
def mBin (g : D → D → Option D) (ma mb : EM Arg) : EM D := fun env => (ma env).bind fun (x, e1) => (mb e1).bind fun (y, e2) =>
  match x.get e2, y.get e2 with
  | some d1, some d2 => mLift (g d1 d2) e2
  | _, _ => .bad
def mUn (g : D → Option D) (ma : EM Arg) : EM D := fun env => (ma env).bind fun (x, e1) =>
  match x.get e1 with
  | some d1 => mLift (g d1) e1
  | _ => .bad
def Arg.gets (e : EnvD) : List Arg → Option (List D)
  | [] => some []
  | x :: r => match x.get e, Arg.gets e r with
    | some d, some ds => some (d :: ds)
    | _, _ => none
def mCB (g : List D → Option D) (ma : EM (List Arg)) : EM D := fun env => (ma env).bind fun (xs, e1) =>
  match Arg.gets e1 xs with
  | some ds => mLift (g ds) e1
  | _ => .bad
section
variable {G : Gm} {W : WX} {σ : L2.St} {H : Hp} {Q : VK} {ma mb : EM Arg} {g : D → D → Option D}
theorem PostR.lift {a : Wd} {o : Option D} {e : EnvD} {K : D → EnvD → Wd → Prop} (h : PostR G W σ a (mLift o e) K) (rel : RelE G a σ e) : ∃ d, o = some d ∧ ∀ b, Grow a b → Ok b → K d e b := by
  cases o with
  | none => exact (show False from h).elim
  | some d => exact ⟨d, rfl, fun b g k => h b g.step (rel.grow g k)⟩
theorem bin_w (h : tE G W (mBin g ma mb) σ H Q) : tOp (rD G.C g) (tArg G W ma) (tArg G W mb) σ H Q := by
  obtain ⟨a, env, rfl, rel, post⟩ := h
  refine tArg_of rel post fun x e1 b v s1 rel1 ar1 post1 => ?_
  refine tArg_of rel1 post1 fun y e2 c u s2 rel2 ar2 post2 => ?_
  have ar1 := ar1.step rel1.ok s2
  cases hx : x.get e2 with
  | none => simp only [hx] at post2; exact (show False from post2).elim
  | some d1 =>
    cases hy : y.get e2 with
    | none => simp only [hx, hy] at post2; exact (show False from post2).elim
    | some d2 =>
      simp only [hx, hy] at post2
      obtain ⟨d, hd, k⟩ := post2.lift rel2
      obtain ⟨r1, p1⟩ := ar1.rep rel2 hx
      obtain ⟨r2, p2⟩ := ar2.rep rel2 hy
      exact ⟨c, d1, d2, r1, r2, d, rfl, rel2.ok, p1, p2, hd, fun z b' gr ok rp => k b' gr ok z rp⟩
theorem un_w {g : D → Option D} (h : tE G W (mUn g ma) σ H Q) : tUn (uD G.C g) (tArg G W ma) σ H Q := by
  obtain ⟨a, env, rfl, rel, post⟩ := h
  refine tArg_of rel post fun x e1 b v s1 rel1 ar1 post1 => ?_
  cases hx : x.get e1 with
  | none => simp only [hx] at post1; exact (show False from post1).elim
  | some d1 =>
    simp only [hx] at post1
    obtain ⟨d, hd, k⟩ := post1.lift rel1
    obtain ⟨r1, p1⟩ := ar1.rep rel1 hx
    exact ⟨b, d1, r1, d, rfl, rel1.ok, p1, hd, fun z b' gr ok rp => k b' gr ok z rp⟩
theorem gets_rep {a : Wd} {env : EnvD} (rel : RelE G a σ env) : ∀ {xs : List Arg} {vs : List V} {ds : List D}, Paired (ArgRep G.C a σ) xs vs → Arg.gets env xs = some ds → Paired (fun d v => ∃ r, Rep G.C a r [] v d) ds vs
  | _, _, _, .nil, e => by cases e; exact .nil
  | x :: xs, v :: vs, ds, .cons h t, e => by
    simp only [Arg.gets] at e
    cases hx : x.get env with
    | none => simp [hx] at e
    | some d =>
      cases hr : Arg.gets env xs with
      | none => simp [hx, hr] at e
      | some dr =>
        simp [hx, hr] at e
        subst e
        exact .cons (h.rep rel hx) (gets_rep rel t hr)
theorem cb_w {g : List D → Option D} {ma : EM (List Arg)} (h : tE G W (mCB g ma) σ H Q) : tCB (cD G.C g) (tArgs G W ma) σ H Q := by
  obtain ⟨a, env, rfl, rel, post⟩ := h
  refine tArgs_of rel post fun x e1 b v s1 rel1 ar1 post1 => ?_
  cases hx : Arg.gets e1 x with
  | none => simp only [hx] at post1; exact (show False from post1).elim
  | some ds =>
    simp only [hx] at post1
    obtain ⟨d, hd, k⟩ := post1.lift rel1
    exact ⟨b, ds, d, rfl, rel1.ok, gets_rep rel1 ar1 hx, hd, fun z b' gr ok rp => k b' gr ok z rp⟩
end

/-! ### lists of operands -/
def mArgs : List (EM Arg) → EM (List Arg)
  | [] => fun env => .ok ([], env)
  | m :: ms => fun env => (m env).bind fun (x, e1) => (mArgs ms e1).bind fun (xs, e2) => .ok (x :: xs, e2)
section
variable {G : Gm} {W : WX} {σ : L2.St} {H : Hp}
theorem args_nil_w {Q : List V → Hp → Prop} (h : tArgs G W (mArgs []) σ H Q) : tNil σ H Q := by
  obtain ⟨a, env, rfl, rel, post⟩ := h
  exact post a (Step.refl a) rel [] .nil
theorem args_cons_w {Q : List V → Hp → Prop} {m : EM Arg} {ms : List (EM Arg)} (h : tArgs G W (mArgs (m :: ms)) σ H Q) : tCons (tArg G W m) (tArgs G W (mArgs ms)) σ H Q := by
  obtain ⟨a, env, rfl, rel, post⟩ := h
  refine tArg_of rel post fun x e1 b v s1 rel1 ar1 post1 => ?_
  refine tArgs_of rel1 post1 fun xs e2 c vs s2 rel2 ar2 post2 => ?_
  exact post2 c (Step.refl c) rel2 (v :: vs) (.cons (ar1.step rel1.ok s2) ar2)
end
end Mi
namespace Mi
open PySem PySem.Spec PyProof.Rows L2

/-! ### names -/
def mVarA (i : Nat) : EM Arg := fun env => match env[i]? with
  | some (some _) => .ok (.var i, env)
  | _ => .bad
def frzQ (d : D) : D := if fz d = true then d else frz d
def mVarE (i : Nat) : EM D := fun env => match env[i]? with
  | some (some d) => if fz d = true then .ok (d, env) else .ok (frz d, env.set i (some (frz d)))
  | _ => .bad
/- a name handed out for good (not a parameter's) -/
def mVarM (np i : Nat) : EM D := fun env => match env[i]? with
  | some (some d) => if fz d = true then .ok (d, env) else if i < np then .ok (frz d, env.set i (some (frz d))) else .ok (d, env.set i none)
  | _ => .bad
def mFrz (m : EM D) : EM Arg := fun env => (m env).bind fun (d, e) => .ok (.val (frzQ d), e)
theorem frzQ_rep {C : KM} {a : Wd} {r s : Nat} {p q : List Nat} {d : D} {v : V} (k : Ok a) (h : Rep C a r p v d) : fz (frzQ d) = true ∧ Rep C (frzW a r) s q v (frzQ d) := by
  unfold frzQ
  by_cases z : fz d = true
  · rw [if_pos z]; exact ⟨z, h.step k frzW_step z⟩
  · rw [if_neg z]; exact frzW_rep k h
section
variable {G : Gm} {W : WX} {σ : L2.St} {H : Hp} {Q : VK} {a : Wd} {env : EnvD}
theorem RelE.frz0 (r : RelE G a σ env) : RelE G (frzW a 0) σ env :=
  ⟨frzW_ok r.ok, r.len, fun i d h => let ⟨v, e, q⟩ := r.slot i d h; ⟨v, e, frzW_else r.ok (Nat.succ_ne_zero i) q⟩, r.prm⟩
theorem RelE.frzS (r : RelE G a σ env) {i : Nat} {d : D} (h : env[i]? = some (some d)) : RelE G (frzW a (i + 1)) σ (env.set i (some (frz d))) := by
  refine ⟨frzW_ok r.ok, by rw [List.length_set]; exact r.len, fun j e hj => ?_, r.prm⟩
  by_cases ij : i = j
  · subst ij
    have hi : i < env.length := (List.getElem?_eq_some_iff.mp h).1
    rw [List.getElem?_set_self hi] at hj
    cases hj
    obtain ⟨v, e, q⟩ := r.slot i d h
    exact ⟨v, e, (frzW_rep r.ok q).2⟩
  · rw [List.getElem?_set_ne ij] at hj
    obtain ⟨v, e', q⟩ := r.slot j e hj
    exact ⟨v, e', frzW_else r.ok (fun z => ij (Nat.succ.inj z).symm) q⟩
theorem RelE.kill (r : RelE G a σ env) (i : Nat) : RelE G a σ (env.set i none) := by
  refine ⟨r.ok, by rw [List.length_set]; exact r.len, fun j e hj => ?_, r.prm⟩
  by_cases ij : i = j
  · subst ij
    by_cases hi : i < env.length
    · rw [List.getElem?_set_self hi] at hj; cases hj
    · rw [List.getElem?_eq_none (by rw [List.length_set]; omega)] at hj; cases hj
  · rw [List.getElem?_set_ne ij] at hj
    exact r.slot j e hj
theorem varA_w {i : Nat} (h : tArg G W (mVarA i) σ H Q) : tVar i σ H Q := by
  obtain ⟨a, env, rfl, rel, post⟩ := h
  unfold mVarA at post
  split at post
  · rename_i d e
    obtain ⟨v, hv, _⟩ := rel.slot i d e
    exact ⟨v, hv, post a (Step.refl a) rel v hv⟩
  · exact (show False from post).elim
theorem varE_w {i : Nat} (h : tE G W (mVarE i) σ H Q) : tVar i σ H Q := by
  obtain ⟨a, env, rfl, rel, post⟩ := h
  unfold mVarE at post
  split at post
  · rename_i d e
    obtain ⟨v, hv, rp⟩ := rel.slot i d e
    by_cases z : fz d = true
    · rw [if_pos z] at post
      exact ⟨v, hv, post a (Step.refl a) rel v (rp.step rel.ok (Step.refl a) z)⟩
    · rw [if_neg z] at post
      exact ⟨v, hv, post (frzW a (i + 1)) frzW_step (rel.frzS e) v (frzW_rep rel.ok rp).2⟩
  · exact (show False from post).elim
theorem varM_w {np i : Nat} (h : tE G W (mVarM np i) σ H Q) : tVar i σ H Q := by
  obtain ⟨a, env, rfl, rel, post⟩ := h
  unfold mVarM at post
  split at post
  · rename_i d e
    obtain ⟨v, hv, rp⟩ := rel.slot i d e
    by_cases z : fz d = true
    · rw [if_pos z] at post
      exact ⟨v, hv, post a (Step.refl a) rel v (rp.step rel.ok (Step.refl a) z)⟩
    · rw [if_neg z] at post
      by_cases y : i < np
      · rw [if_pos y] at post
        exact ⟨v, hv, post (frzW a (i + 1)) frzW_step (rel.frzS e) v (frzW_rep rel.ok rp).2⟩
      · rw [if_neg y] at post
        have k0 := rel.kill i
        have R : RelE G (mvW a (i + 1) 0) σ (env.set i none) := by
          refine ⟨mvW_ok rel.ok, k0.len, fun j e' hj => ?_, k0.prm⟩
          obtain ⟨v', e2, q⟩ := k0.slot j e' hj
          refine ⟨v', e2, mvW_else (fun ij => ?_) q⟩
          have ij : j = i := Nat.succ.inj ij
          subst ij
          have hi : j < env.length := (List.getElem?_eq_some_iff.mp e).1
          rw [List.getElem?_set_self hi] at hj
          cases hj
        exact ⟨v, hv, post (mvW a (i + 1) 0) mvW_step R v (mvW_rep rp)⟩
  · exact (show False from post).elim
theorem frz_w {m : EM D} (h : tArg G W (mFrz m) σ H Q) : tE G W m σ H Q := by
  obtain ⟨a, env, rfl, rel, post⟩ := h
  refine tE_of rel post fun d e b v s r rp p => ?_
  have k := p (frzW b 0) frzW_step r.frz0 v (frzQ_rep r.ok rp)
  exact k

/-! ### constants -/
def mC (d : D) : EM D := fun env => .ok (d, env)
def atomV : D → Option V
  | .non => some .non
  | .bl b => some (.bl b)
  | .int i => some (.int i)
  | .str s => some (.str s)
  | .ty n => some (.ty n)
  | _ => none
theorem atom_rep {C : KM} {a : Wd} {r : Nat} {p : List Nat} {d : D} {v : V} (h : atomV d = some v) : Rep C a r p v d := by
  cases d <;> simp [atomV] at h <;> subst h <;> simp [Rep]
theorem c_w {d : D} {v : V} (hv : ∀ a, Ok a → Rep G.C a 0 [] v d) (h : tE G W (mC d) σ H Q) : tC v σ H Q := by
  obtain ⟨a, env, rfl, rel, post⟩ := h
  exact post a (Step.refl a) rel v (hv a rel.ok)

/-! ### tests -/
def D.bool : D → Option Bool
  | .bl b => some b
  | _ => none
def mLiftT (o : Option Bool) (e : EnvD) : Res (Bool × EnvD) := match o with
  | some d => .ok (d, e)
  | none => .bad
/- a value that is a flag -/
def mTB (m : EM D) : EM Bool := fun env => (m env).bind fun (d, e) => mLiftT d.bool e
theorem rep_bl {C : KM} {a : Wd} {r : Nat} {p : List Nat} {v : V} {b : Bool} (h : Rep C a r p v (.bl b)) : v = .bl b := h
theorem rep_int {C : KM} {a : Wd} {r : Nat} {p : List Nat} {v : V} {b : Int} (h : Rep C a r p v (.int b)) : v = .int b := h
theorem rep_str {C : KM} {a : Wd} {r : Nat} {p : List Nat} {v : V} {b : Str} (h : Rep C a r p v (.str b)) : v = .str b := h
theorem rep_non {C : KM} {a : Wd} {r : Nat} {p : List Nat} {v : V} (h : Rep C a r p v .non) : v = .non := h
theorem D.bool_eq {d : D} {b : Bool} (h : d.bool = some b) : d = .bl b := by
  cases d <;> simp [D.bool] at h
  rw [h]
theorem tb_w {m : EM D} {R : Bool → Hp → Prop} (h : tT G W (mTB m) σ H R) : tTest (tE G W m) σ H R := by
  obtain ⟨a, env, rfl, rel, post⟩ := h
  refine tE_of rel post fun d e b v s r rp p => ?_
  cases hb : d.bool with
  | none => simp only [hb] at p; exact (show False from p).elim
  | some c =>
    simp only [hb] at p
    have e1 := D.bool_eq hb
    subst e1
    exact ⟨c, rep_bl rp, p b (Step.refl b) r⟩
def mAndT (m n : EM Bool) : EM Bool := fun env => (m env).bind fun (c, e) => if c = true then n e else .ok (false, e)
def mOrT (m n : EM Bool) : EM Bool := fun env => (m env).bind fun (c, e) => if c = true then .ok (true, e) else n e
def mNotT (m : EM Bool) : EM Bool := fun env => (m env).bind fun (c, e) => .ok (!c, e)
section
variable {m n : EM Bool} {R : Bool → Hp → Prop}
theorem and_w (h : tT G W (mAndT m n) σ H R) : tAnd (tT G W m) (tT G W n) σ H R := by
  obtain ⟨a, env, rfl, rel, post⟩ := h
  refine tT_of rel post fun c e b s r p => ?_
  cases c with
  | true => simp only [if_true] at p ⊢; exact ⟨b, e, rfl, r, p⟩
  | false => simp only [if_false, Bool.false_eq_true] at p ⊢; exact p b (Step.refl b) r
theorem or_w (h : tT G W (mOrT m n) σ H R) : tOr (tT G W m) (tT G W n) σ H R := by
  obtain ⟨a, env, rfl, rel, post⟩ := h
  refine tT_of rel post fun c e b s r p => ?_
  cases c with
  | true => simp only [if_true] at p ⊢; exact p b (Step.refl b) r
  | false => simp only [if_false, Bool.false_eq_true] at p ⊢; exact ⟨b, e, rfl, r, p⟩
theorem not_w (h : tT G W (mNotT m) σ H R) : tNot (tT G W m) σ H R := by
  obtain ⟨a, env, rfl, rel, post⟩ := h
  exact tT_of rel post fun c e b s r p => p b (Step.refl b) r
end
/- and, or, not as values: flags -/
def mAndV (m n : EM D) : EM D := fun env => (m env).bind fun (c, e) => match c.bool with
  | some true => n e
  | some false => .ok (.bl false, e)
  | none => .bad
def mOrV (m n : EM D) : EM D := fun env => (m env).bind fun (c, e) => match c.bool with
  | some true => .ok (.bl true, e)
  | some false => n e
  | none => .bad
def mNotV (m : EM D) : EM D := fun env => (m env).bind fun (c, e) => match c.bool with
  | some b => .ok (.bl (!b), e)
  | none => .bad
theorem rep_ofbl {C : KM} {a : Wd} {r : Nat} {p : List Nat} {b : Bool} : Rep C a r p (.bl b) (.bl b) := by simp [Rep]
theorem andV_w {m n : EM D} (h : tE G W (mAndV m n) σ H Q) : tAndV (tE G W m) (tE G W n) σ H Q := by
  obtain ⟨a, env, rfl, rel, post⟩ := h
  refine tE_of rel post fun d e b v s r rp p => ?_
  cases hb : d.bool with
  | none => simp only [hb] at p; exact (show False from p).elim
  | some c =>
    simp only [hb] at p
    have e1 := D.bool_eq hb
    subst e1
    refine ⟨c, rep_bl rp, ?_⟩
    cases c with
    | true => simp only [if_true] at p ⊢; exact ⟨b, e, rfl, r, p⟩
    | false => simp only [if_false, Bool.false_eq_true] at p ⊢; exact p b (Step.refl b) r _ rep_ofbl
theorem orV_w {m n : EM D} (h : tE G W (mOrV m n) σ H Q) : tOrV (tE G W m) (tE G W n) σ H Q := by
  obtain ⟨a, env, rfl, rel, post⟩ := h
  refine tE_of rel post fun d e b v s r rp p => ?_
  cases hb : d.bool with
  | none => simp only [hb] at p; exact (show False from p).elim
  | some c =>
    simp only [hb] at p
    have e1 := D.bool_eq hb
    subst e1
    refine ⟨c, rep_bl rp, ?_⟩
    cases c with
    | true => simp only [if_true] at p ⊢; exact p b (Step.refl b) r _ rep_ofbl
    | false => simp only [if_false, Bool.false_eq_true] at p ⊢; exact ⟨b, e, rfl, r, p⟩
theorem notV_w {m : EM D} (h : tE G W (mNotV m) σ H Q) : tNotV (tE G W m) σ H Q := by
  obtain ⟨a, env, rfl, rel, post⟩ := h
  refine tE_of rel post fun d e b v s r rp p => ?_
  cases hb : d.bool with
  | none => simp only [hb] at p; exact (show False from p).elim
  | some c =>
    simp only [hb] at p
    have e1 := D.bool_eq hb
    subst e1
    exact ⟨c, rep_bl rp, p b (Step.refl b) r _ rep_ofbl⟩
def mIfE (t : EM Bool) (m n : EM D) : EM D := fun env => (t env).bind fun (c, e) => if c = true then m e else n e
theorem ifE_w {t : EM Bool} {m n : EM D} (h : tE G W (mIfE t m n) σ H Q) : tIf (tT G W t) (tE G W m) (tE G W n) σ H Q := by
  obtain ⟨a, env, rfl, rel, post⟩ := h
  refine tT_of rel post fun c e b s r p => ?_
  cases c with
  | true => simp only [if_true] at p ⊢; exact ⟨b, e, rfl, r, p⟩
  | false => simp only [if_false, Bool.false_eq_true] at p ⊢; exact ⟨b, e, rfl, r, p⟩
end

/-! ### truth -/
def truD : D → Option Bool
  | .non => some false
  | .bl b => some b
  | .int i => some (i != 0)
  | .str s => if s.length ≤ sizeLine then some ((s.length : Int) != 0) else none
  | .tup l => some (!l.isEmpty)
  | .lst _ l => some (!l.isEmpty)
  | .dic _ ks _ => some (!ks.isEmpty)
  | _ => none
def mTru (m : EM Arg) : EM Bool := fun env => (m env).bind fun (x, e) => match x.get e with
  | some d => mLiftT (truD d) e
  | none => .bad
theorem RepL.empty {C : KM} {a : Wd} {r : Nat} {p : List Nat} {n : Nat} {vs : List V} {l : List D} (h : RepL C a r p n vs l) : vs.isEmpty = l.isEmpty := by
  cases l with
  | nil => simp only [RepL] at h; rw [h]; rfl
  | cons d l => simp only [RepL] at h; obtain ⟨v, us, e, _⟩ := h; rw [e]; rfl
theorem RepL.len {C : KM} {a : Wd} {r : Nat} {p : List Nat} : ∀ {l : List D} {n : Nat} {vs : List V}, RepL C a r p n vs l → vs.length = l.length
  | [], n, vs, h => by simp only [RepL] at h; rw [h]; rfl
  | d :: l, n, vs, h => by
    simp only [RepL] at h
    obtain ⟨v, us, e, _, h2⟩ := h
    rw [e, List.length_cons, List.length_cons, RepL.len h2]
theorem RepL.get {C : KM} {a : Wd} {r : Nat} {p : List Nat} : ∀ {l : List D} {n : Nat} {vs : List V} {i : Nat} {d : D}, RepL C a r p n vs l → l[i]? = some d → ∃ v, vs[i]? = some v ∧ Rep C a r ((n + i) :: p) v d
  | [], n, vs, i, d, h, e => by simp at e
  | d' :: l, n, vs, 0, d, h, e => by
    simp only [RepL] at h
    obtain ⟨v, us, e1, h1, h2⟩ := h
    simp at e; subst e
    exact ⟨v, by rw [e1]; rfl, h1⟩
  | d' :: l, n, vs, i + 1, d, h, e => by
    simp only [RepL] at h
    obtain ⟨v, us, e1, h1, h2⟩ := h
    simp at e
    obtain ⟨u, g1, g2⟩ := RepL.get h2 e
    refine ⟨u, by rw [e1]; simpa using g1, ?_⟩
    rw [show n + (i + 1) = n + 1 + i by omega]
    exact g2
/- the object of an owned or a frozen list, read -/
theorem rep_lst {C : KM} {a : Wd} {r : Nat} {p : List Nat} {v : V} {o : Bool} {l : List D} (k : Ok a) (h : Rep C a r p v (.lst o l)) : ∃ x vs, v = .ref x ∧ a.H x = some (.lst vs) ∧ RepL C a r p 0 vs l := by
  simp only [Rep] at h
  obtain ⟨x, vs, e, c, h⟩ := h
  refine ⟨x, vs, e, ?_, h⟩
  cases o with
  | true => rw [if_pos rfl] at c; exact c.2
  | false => rw [if_neg Bool.false_ne_true] at c; exact k.sub _ _ c.1
theorem rep_scr {C : KM} {a : Wd} {r : Nat} {p : List Nat} {v : V} {l : List Int} (k : Ok a) (h : Rep C a r p v (.scr l)) : ∃ x, v = .ref x ∧ SqL C.K a.H x (l.map V.int) := by
  simp only [Rep] at h
  obtain ⟨x, e, h⟩ := h
  exact ⟨x, e, sql_mono k.sub h⟩
theorem rep_tup {C : KM} {a : Wd} {r : Nat} {p : List Nat} {v : V} {l : List D} (k : Ok a) (h : Rep C a r p v (.tup l)) : ∃ x vs, v = .ref x ∧ SqT C.K a.H x vs ∧ RepL C a r p 0 vs l := by
  simp only [Rep] at h
  obtain ⟨x, vs, e, c, h⟩ := h
  exact ⟨x, vs, e, sqt_mono k.sub c.sq, h⟩
theorem rep_dic {C : KM} {a : Wd} {r : Nat} {p : List Nat} {v : V} {o : Bool} {ks ws : List D} (k : Ok a) (h : Rep C a r p v (.dic o ks ws)) :
    ∃ x u kv vs, v = .ref x ∧ a.H x = some u ∧ DCell u kv vs ∧ fzL ks = true ∧ RepL C a r p 0 kv ks ∧ RepL C a r p 0 vs ws := by
  simp only [Rep] at h
  obtain ⟨x, u, kv, vs, e, c, dc, f, k1, k2⟩ := h
  refine ⟨x, u, kv, vs, e, ?_, dc, f, k1, k2⟩
  cases o with
  | true => rw [if_pos rfl] at c; exact c.2
  | false => rw [if_neg Bool.false_ne_true] at c; exact k.sub _ _ c.1
theorem tru_rep {C : KM} {a : Wd} {r : Nat} {p : List Nat} {v : V} {d : D} {b : Bool} (k : Ok a) (h : Rep C a r p v d) (e : truD d = some b) : TruV C.K v a.H b := by
  cases d with
  | non => cases rep_non h; cases e; rfl
  | bl x => cases rep_bl h; cases e; rfl
  | int i => cases rep_int h; simp [truD] at e; subst e; rfl
  | str s =>
    cases rep_str h
    simp only [truD] at e
    split at e
    · rename_i z; cases e; exact ⟨z, rfl⟩
    · cases e
  | tup l =>
    obtain ⟨x, vs, rfl, q, hl⟩ := rep_tup k h
    simp only [truD, Option.some.injEq] at e; subst e
    exact .inr (.inl ⟨vs, q, by rw [hl.empty]⟩)
  | lst o l =>
    obtain ⟨x, vs, rfl, q, hl⟩ := rep_lst k h
    simp only [truD, Option.some.injEq] at e; subst e
    exact .inl ⟨vs, SqL.of q, by rw [hl.empty]⟩
  | dic o ks ws =>
    obtain ⟨x, u, kv, vs, rfl, q, dc, f, hk, hw⟩ := rep_dic k h
    simp only [truD, Option.some.injEq] at e; subst e
    cases dc with
    | dk kvs =>
      refine .inr (.inr ⟨kvs, q, ?_⟩)
      rw [← hk.empty]; cases kvs <;> rfl
  | _ => simp [truD] at e
theorem tru_w {G : Gm} {W : WX} {σ : L2.St} {H : Hp} {m : EM Arg} {R : Bool → Hp → Prop} (h : tT G W (mTru m) σ H R) : (tArg G W m) σ H fun x H' => ∃ k, TruV G.C.K x H' k ∧ R k H' := by
  obtain ⟨a, env, rfl, rel, post⟩ := h
  refine tArg_of rel post fun x e b v s r ar p => ?_
  cases hx : x.get e with
  | none => simp only [hx] at p; exact (show False from p).elim
  | some d =>
    simp only [hx] at p
    cases ht : truD d with
    | none => simp only [ht] at p; exact (show False from p).elim
    | some c =>
      simp only [ht] at p
      obtain ⟨r', rp⟩ := ar.rep r hx
      exact ⟨c, tru_rep r.ok rp ht, p b (Step.refl b) r⟩
end Mi
namespace Mi
open PySem PySem.Spec PyProof.Rows L2

/-! ### new things -/
section
variable {C : KM} {a : Wd} {Q : VK}
theorem new_lst {r : Nat} {p : List Nat} {n : Nat} {vs : List V} {l : List D} (k : Ok a) (z : fzL l = true) (h : RepL C a r p n vs l) (q : ∀ z b, Grow a b → Ok b → Rep C b 0 [] z (.lst true l) → Q z b.H) :
    ∀ x, a.H x = none → Q (.ref x) (upd a.H x (.lst vs)) := fun x hx => by
  obtain ⟨g, o⟩ := grow_o (o := .lst vs) (0, []) k hx
  refine q (.ref x) _ g o ⟨x, vs, rfl, ?_, RepL.fz (fun y u e => g.f k e) l p [] n vs z h⟩
  rw [if_pos rfl]
  exact ⟨if_pos rfl, upd_same⟩
theorem new_tup {r : Nat} {p : List Nat} {n : Nat} {vs : List V} {l : List D} (k : Ok a) (z : fzL l = true) (h : RepL C a r p n vs l) (q : ∀ z b, Grow a b → Ok b → Rep C b 0 [] z (.tup l) → Q z b.H) :
    ∀ (x : Addr) (ob : Obj), a.H x = none → ob.dict = none → ob.cls = .type "tuple" → Q (.ref x) (upd a.H x (.frz ob (.tup vs))) := fun x ob hx h1 h2 => by
  obtain ⟨g, o⟩ := grow_f (o := .frz ob (.tup vs)) k hx
  exact q (.ref x) _ g o ⟨x, vs, rfl, .inl ⟨ob, upd_same, h1, h2⟩, RepL.fz (fun y u e => g.f k e) l p [] n vs z h⟩
theorem new_dic {r : Nat} {p : List Nat} {kvs : List (Key × V)} {ks ws : List D} (k : Ok a) (zk : fzL ks = true) (zw : fzL ws = true) (hk : RepL C a r p 0 (kvs.map fun p => kV p.1) ks) (hw : RepL C a r p 0 (kvs.map (·.2)) ws)
    (q : ∀ z b, Grow a b → Ok b → Rep C b 0 [] z (.dic true ks ws) → Q z b.H) : ∀ x, a.H x = none → Q (.ref x) (upd a.H x (.dK kvs)) := fun x hx => by
  obtain ⟨g, o⟩ := grow_o (o := .dK kvs) (0, []) k hx
  refine q (.ref x) _ g o ⟨x, .dK kvs, _, _, rfl, ?_, .dk kvs, zk, RepL.fz (fun y u e => g.f k e) ks p [] 0 _ zk hk, RepL.fz (fun y u e => g.f k e) ws p [] 0 _ zw hw⟩
  rw [if_pos rfl]
  exact ⟨if_pos rfl, upd_same⟩
end
theorem RepL.app {C : KM} {a : Wd} {r : Nat} {p : List Nat} : ∀ {l m : List D} {n : Nat} {vs us : List V}, RepL C a r p n vs l → RepL C a r p (n + l.length) us m → RepL C a r p n (vs ++ us) (l ++ m)
  | [], m, n, vs, us, h, g => by simp only [RepL] at h; subst h; exact g
  | d :: l, m, n, vs, us, h, g => by
    simp only [RepL] at h
    obtain ⟨v, vr, rfl, h1, h2⟩ := h
    exact ⟨v, vr ++ us, rfl, h1, RepL.app h2 (by rw [show n + 1 + l.length = n + (d :: l).length by simp only [List.length_cons]; omega]; exact g)⟩
theorem fzL_append {l m : List D} : fzL (l ++ m) = (fzL l && fzL m) := by
  induction l with
  | nil => rfl
  | cons d l ih => simp only [List.cons_append, fzL, ih, Bool.and_assoc]
theorem fzL_mem {l : List D} (h : fzL l = true) : ∀ d ∈ l, fz d = true := by
  induction l with
  | nil => intro d hd; cases hd
  | cons x l ih =>
    simp only [fzL, Bool.and_eq_true] at h
    intro d hd
    rcases List.mem_cons.mp hd with rfl | hd
    · exact h.1
    · exact ih h.2 d hd
theorem fzL_all {l : List D} (h : ∀ d ∈ l, fz d = true) : fzL l = true := by
  induction l with
  | nil => rfl
  | cons x l ih =>
    simp only [fzL, Bool.and_eq_true]
    exact ⟨h x List.mem_cons_self, ih fun d hd => h d (List.mem_cons_of_mem _ hd)⟩
/- frozen lists, by any tags -/
theorem RepL.appz {C : KM} {a : Wd} {r s : Nat} {p q : List Nat} {l m : List D} {n k : Nat} {vs us : List V} (zl : fzL l = true) (zm : fzL m = true) (h : RepL C a r p n vs l) (g : RepL C a s q k us m) : RepL C a 0 [] 0 (vs ++ us) (l ++ m) :=
  RepL.app (RepL.fz (s := 0) (fun _ _ e => e) l p [] n vs zl h) (RepL.fz (s := 0) (fun _ _ e => e) m q [] k us zm g)

/-! ### tuples laid -/
abbrev TupNew (Q : VK) (H : Hp) (xs : List V) : Prop := ∀ (p : Addr) (ob : Obj), H p = none → ob.dict = none → ob.cls = .type "tuple" → Q (.ref p) (upd H p (.frz ob (.tup xs)))
section
variable {X : Cx} {pins : List (Addr × Obj)} {σ : L2.St} {H : Hp} {s : Shared} {Q : VK} {xs : List V} {its : List Value}
theorem lay_tup (I : Inv X pins σ H s) (r : Vals xs its) (hz : xs.length ≤ sizeLine) (q : TupNew Q H xs) :
    EP X pins σ Q (.ref s.heap.objs.size) { s with heap := s.heap.push { cls := .type "tuple", data := .seq its.toArray } } :=
  ⟨.ref s.heap.objs.size, _, I.laid (t' := s.toks) (o := .frz { cls := .type "tuple", data := .seq its.toArray } (.tup xs)) (fun b ob q => Heap.get?_push_of_some _ q) (Nat.le_refl _)
    ⟨Heap.get?_push_size _ rfl, hz, its, r, IsTup.new _ _⟩, rfl, q _ _ (I.hok.fresh (Nat.le_refl _)) rfl rfl⟩
end
def tTupX (t : TA) : TE := fun σ H Q => t σ H fun xs H1 => xs.length ≤ sizeLine ∧ TupNew Q H1 xs
theorem pe_tupX {X : Cx} {es : List Expr} {t : TA} {k : Nat} {pos : Pos} (h : PA X es t) : PE X (.Tuple es k pos) (tTupX t) := by
  refine ⟨fun pins s σ H Q I hq => wpAny_Tuple_spliced (thn (h.run pos pins s σ H _ I hq) fun us s1 ⟨xs, H1, I1, r, z, q⟩ => ⟨by rw [← r.length]; exact z, ?_⟩)⟩
  exact lay_tup I1 r z q
def rCatX (K : PySem.W.Frag) : R2 := fun x y H Q => ∃ a b xs ys, x = .ref a ∧ y = .ref b ∧ SqT K H a xs ∧ SqT K H b ys ∧ xs.length + ys.length ≤ sizeLine ∧
  (xs = [] → Q (.ref b) H) ∧ (xs ≠ [] → ys = [] → Q (.ref a) H) ∧ (xs ≠ [] → ys ≠ [] → TupNew Q H (xs ++ ys))
theorem op_catX {X : Cx} : OpR X (binaryOp .Add) (rCatX X.K) := by
  intro pins s σ H x y v u Q I rx ry h
  obtain ⟨a, b, xs, ys, rfl, rfl, ha, hb, hz, q0, q1, q2⟩ := h
  by_cases hx : xs = []
  · exact op_catA pins s σ H _ _ v u Q I rx ry ⟨a, b, xs, ys, rfl, rfl, ha, hb, hz, q0, fun z => absurd hx z, fun z => absurd hx z⟩
  by_cases hy : ys = []
  · exact op_catA pins s σ H _ _ v u Q I rx ry ⟨a, b, xs, ys, rfl, rfl, ha, hb, hz, q0, q1, fun _ z => absurd hy z⟩
  cases rx; cases ry
  obtain ⟨its, r1, p1, _⟩ := I.tuple ha
  obtain ⟨its2, r2, p2, _⟩ := I.tuple hb
  refine HT.cat_tup p1 p2 (fun z => hx (r1.nil_iff.mp z)) (fun z => absurd (r2.nil_iff.mp z) hy) (fun z => ?_) (by rw [← r1.length, ← r2.length]; exact hz)
  exact lay_tup I (r1.append r2) (by rw [List.length_append]; exact hz) (q2 hx hy)

/-! ### arithmetic -/
def addD : D → D → Option D
  | .int i, .int j => some (.int (i + j))
  | .str s, .str t => if s.length + t.length ≤ sizeLine then some (.str (s ++ t)) else none
  | .lst _ l, .lst _ m => if fzL l && fzL m && decide (l.length + m.length ≤ sizeLine) then some (.lst true (l ++ m)) else none
  | .tup l, .tup m => if fzL l && fzL m && decide (l.length + m.length ≤ sizeLine) then some (.tup (l ++ m)) else none
  | _, _ => none
def subD : D → D → Option D
  | .int i, .int j => some (.int (i - j))
  | _, _ => none
def mulD : D → D → Option D
  | .int i, .int j => if i.natAbs.log2 + j.natAbs.log2 < 1000000 then some (.int (i * j)) else if j.natAbs < 18446744073709551616 then some (.int (i * j)) else if i.natAbs < 18446744073709551616 then some (.int (i * j)) else none
  | _, _ => none
def fdivD : D → D → Option D
  | .int i, .int j => if 0 < j ∧ j.natAbs.log2 < 9000 then some (.int (i / j)) else none
  | _, _ => none
def modD : D → D → Option D
  | .int i, .int j => if 0 < j then some (.int (i % j)) else if j ≠ 0 then some (.int (i.fmod j)) else none
  | _, _ => none
def powD : D → D → Option D
  | .int i, .int j => if 0 ≤ j ∧ j ≤ 1000000 ∧ i.natAbs < 2 ^ 64 then some (.int (i ^ j.toNat)) else none
  | _, _ => none
def negD : D → Option D
  | .int i => some (.int (-i))
  | _ => none
theorem nab {x : Int} (h : x.natAbs < 18446744073709551616) : -(2 ^ 64) < x ∧ x < 2 ^ 64 := by
  have e : (2 : Int) ^ 64 = 18446744073709551616 := by decide
  rw [e]; omega
section
variable {X : Cx} {C : KM} (hC : C.K = X.K)
include hC
theorem op_addD : OpR X (binaryOp .Add) (rD C addD) := by
  intro pins s σ H x y v u Q I rx ry h
  obtain ⟨a, d1, d2, r1, r2, d, rfl, k, p1, p2, hd, q⟩ := h
  cases d1 <;> cases d2 <;> simp only [addD] at hd <;> try (cases hd; done)
  case int.int i j =>
    cases hd; cases rep_int p1; cases rep_int p2
    exact op_add pins s σ a.H _ _ v u Q I rx ry ⟨i, j, rfl, rfl, q _ a (Grow.refl a) k (by simp [Rep])⟩
  case str.str i j =>
    split at hd
    · rename_i z; cases hd; cases rep_str p1; cases rep_str p2
      exact op_add_str pins s σ a.H _ _ v u Q I rx ry ⟨i, j, rfl, rfl, z, q _ a (Grow.refl a) k (by simp [Rep])⟩
    · cases hd
  case tup.tup l m =>
    split at hd
    · rename_i z; cases hd
      simp only [Bool.and_eq_true, decide_eq_true_eq] at z
      obtain ⟨x1, vs, rfl, q1, h1⟩ := rep_tup k p1
      obtain ⟨x2, us, rfl, q2, h2⟩ := rep_tup k p2
      rw [hC] at q1 q2
      have n1 := h1.len
      have n2 := h2.len
      refine op_catX pins s σ a.H _ _ v u Q I rx ry ⟨x1, x2, vs, us, rfl, rfl, q1, q2, by omega, fun e => ?_, fun e1 e2 => ?_, fun _ _ => new_tup k (by rw [fzL_append, z.1.1, z.1.2]; rfl) (RepL.appz z.1.1 z.1.2 h1 h2) q⟩
      · have el : l = [] := by cases l with | nil => rfl | cons _ _ => rw [e] at n1; simp at n1
        subst el
        exact q _ a (Grow.refl a) k (p2.step k (Step.refl a) (by simpa [fz] using z.1.2))
      · have el : m = [] := by cases m with | nil => rfl | cons _ _ => rw [e2] at n2; simp at n2
        subst el
        rw [List.append_nil] at q
        exact q _ a (Grow.refl a) k (p1.step k (Step.refl a) (by simpa [fz] using z.1.1))
    · cases hd
  case lst.lst o l o' m =>
    split at hd
    · rename_i z; cases hd
      simp only [Bool.and_eq_true, decide_eq_true_eq] at z
      obtain ⟨x1, vs, rfl, q1, h1⟩ := rep_lst k p1
      obtain ⟨x2, us, rfl, q2, h2⟩ := rep_lst k p2
      have n1 := h1.len
      have n2 := h2.len
      exact op_cat pins s σ a.H _ _ v u Q I rx ry ⟨x1, x2, vs, us, rfl, rfl, q1, q2, by omega, new_lst k (by rw [fzL_append, z.1.1, z.1.2]; rfl) (RepL.appz z.1.1 z.1.2 h1 h2) q⟩
    · cases hd
omit hC in
theorem op_subD : OpR X (binaryOp .Sub) (rD C subD) := by
  intro pins s σ H x y v u Q I rx ry h
  obtain ⟨a, d1, d2, r1, r2, d, rfl, k, p1, p2, hd, q⟩ := h
  cases d1 <;> cases d2 <;> simp only [subD] at hd <;> try (cases hd; done)
  case int.int i j =>
    cases hd; cases rep_int p1; cases rep_int p2
    exact op_sub pins s σ a.H _ _ v u Q I rx ry ⟨i, j, rfl, rfl, q _ a (Grow.refl a) k (by simp [Rep])⟩
omit hC in
theorem op_mulD : OpR X (binaryOp .Mult) (rD C mulD) := by
  intro pins s σ H x y v u Q I rx ry h
  obtain ⟨a, d1, d2, r1, r2, d, rfl, k, p1, p2, hd, q⟩ := h
  cases d1 <;> cases d2 <;> simp only [mulD] at hd <;> try (cases hd; done)
  case int.int i j =>
    cases rep_int p1; cases rep_int p2
    split at hd
    · rename_i z
      cases hd
      exact op_mulW pins s σ a.H _ _ v u Q I rx ry ⟨i, j, rfl, rfl, z, q _ a (Grow.refl a) k (by simp [Rep])⟩
    · split at hd
      · rename_i z; cases hd
        exact op_mul pins s σ a.H _ _ v u Q I rx ry ⟨i, j, rfl, rfl, .inr (nab z), q _ a (Grow.refl a) k (by simp [Rep])⟩
      · split at hd
        · rename_i z; cases hd
          exact op_mul pins s σ a.H _ _ v u Q I rx ry ⟨i, j, rfl, rfl, .inl (nab z), q _ a (Grow.refl a) k (by simp [Rep])⟩
        · cases hd
omit hC in
theorem op_fdivD : OpR X (binaryOp .FloorDiv) (rD C fdivD) := by
  intro pins s σ H x y v u Q I rx ry h
  obtain ⟨a, d1, d2, r1, r2, d, rfl, k, p1, p2, hd, q⟩ := h
  cases d1 <;> cases d2 <;> simp only [fdivD] at hd <;> try (cases hd; done)
  case int.int i j =>
    split at hd
    · rename_i z; cases hd; cases rep_int p1; cases rep_int p2
      exact op_fdivW pins s σ a.H _ _ v u Q I rx ry ⟨i, j, rfl, rfl, z, q _ a (Grow.refl a) k (by simp [Rep])⟩
    · cases hd
omit hC in
theorem op_modD : OpR X (binaryOp .Mod) (rD C modD) := by
  intro pins s σ H x y v u Q I rx ry h
  obtain ⟨a, d1, d2, r1, r2, d, rfl, k, p1, p2, hd, q⟩ := h
  cases d1 <;> cases d2 <;> simp only [modD] at hd <;> try (cases hd; done)
  case int.int i j =>
    cases rep_int p1; cases rep_int p2
    split at hd
    · rename_i z; cases hd
      exact op_mod pins s σ a.H _ _ v u Q I rx ry ⟨i, j, rfl, rfl, z, q _ a (Grow.refl a) k (by simp [Rep])⟩
    · split at hd
      · rename_i z; cases hd
        exact op_modN pins s σ a.H _ _ v u Q I rx ry ⟨i, j, rfl, rfl, z, q _ a (Grow.refl a) k (by simp [Rep])⟩
      · cases hd
omit hC in
theorem op_powD : OpR X (binaryOp .Pow) (rD C powD) := by
  intro pins s σ H x y v u Q I rx ry h
  obtain ⟨a, d1, d2, r1, r2, d, rfl, k, p1, p2, hd, q⟩ := h
  cases d1 <;> cases d2 <;> simp only [powD] at hd <;> try (cases hd; done)
  case int.int i j =>
    split at hd
    · rename_i z; cases hd; cases rep_int p1; cases rep_int p2
      exact op_pow pins s σ a.H _ _ v u Q I rx ry ⟨i, j, rfl, rfl, z, q _ a (Grow.refl a) k (by simp [Rep])⟩
    · cases hd
omit hC in
theorem un_negD : UnR X (unaryOp .USub) (uD C negD) := by
  intro pins s σ H x v Q I rx h
  obtain ⟨a, d1, r1, d, rfl, k, p1, hd, q⟩ := h
  cases d1 <;> simp only [negD] at hd <;> try (cases hd; done)
  case int i =>
    cases hd; cases rep_int p1
    exact un_neg pins s σ a.H _ v Q I rx ⟨i, rfl, q _ a (Grow.refl a) k (by simp [Rep])⟩
end
def binD : Operator → Option (D → D → Option D)
  | .Add => some addD
  | .Sub => some subD
  | .Mult => some mulD
  | .FloorDiv => some fdivD
  | .Mod => some modD
  | .Pow => some powD
  | _ => none
theorem op_binD {X : Cx} {C : KM} (hC : C.K = X.K) {op : Operator} {g : D → D → Option D} (h : binD op = some g) : OpR X (binaryOp op) (rD C g) := by
  cases op <;> simp only [binD] at h <;> cases h
  · exact op_addD hC
  · exact op_subD
  · exact op_mulD
  · exact op_modD
  · exact op_powD
  · exact op_fdivD

/-! ### == -/
mutual
def okP : Nat → D → Bool
  | _, .non | _, .bl _ | _, .int _ => true
  | _, .str s => PyData.strOk s
  | 0, .tup _ | 0, .lst _ _ => false
  | n + 1, .tup l => okPL n l
  | n + 1, .lst _ l => okPL n l
  | _, _ => false
def okPL : Nat → List D → Bool
  | _, [] => true
  | n, d :: l => okP n d && okPL n l
end
mutual
def toP : D → PyData
  | .bl b => .bool b
  | .int i => .int i
  | .str s => .str s
  | .tup l => .tuple (toPL l)
  | .lst _ l => .list (toPL l)
  | _ => .none
def toPL : List D → List PyData
  | [] => []
  | d :: l => toP d :: toPL l
end
mutual
theorem okP_shape : ∀ (d : D) (n : Nat), okP n d = true → (toP d).canLay0 = true ∧ (toP d).depth ≤ n
  | .non, n, h => by simp [toP, PyData.canLay0, PyData.depth]
  | .bl _, n, h => by simp [toP, PyData.canLay0, PyData.depth]
  | .int _, n, h => by simp [toP, PyData.canLay0, PyData.depth]
  | .str s, n, h => by
    have h : PyData.strOk s = true := by cases n <;> simpa [okP] using h
    simp [toP, PyData.canLay0, PyData.depth, h]
  | .tup l, 0, h => by simp [okP] at h
  | .lst _ l, 0, h => by simp [okP] at h
  | .tup l, n + 1, h => by
    obtain ⟨h1, h2⟩ := okPL_shape l n (by simpa [okP] using h)
    exact ⟨by simpa [toP, PyData.canLay0] using h1, by simp only [toP, PyData.depth]; omega⟩
  | .lst _ l, n + 1, h => by
    obtain ⟨h1, h2⟩ := okPL_shape l n (by simpa [okP] using h)
    exact ⟨by simpa [toP, PyData.canLay0] using h1, by simp only [toP, PyData.depth]; omega⟩
  | .ty _, n, h => by simp [okP] at h
  | .fn _, n, h => by simp [okP] at h
  | .scr _, n, h => by simp [okP] at h
  | .dic _ _ _, n, h => by simp [okP] at h
  | .ins _ _ _ _, n, h => by simp [okP] at h
theorem okPL_shape : ∀ (l : List D) (n : Nat), okPL n l = true → PyData.canLayAll0 (toPL l) = true ∧ PyData.depthAll (toPL l) ≤ n
  | [], n, h => by simp [toPL, PyData.canLayAll0, PyData.depthAll]
  | d :: l, n, h => by
    simp only [okPL, Bool.and_eq_true] at h
    obtain ⟨h1, h2⟩ := okP_shape d n h.1
    obtain ⟨h3, h4⟩ := okPL_shape l n h.2
    exact ⟨by simp [toPL, PyData.canLayAll0, h1, h3], by simp only [toPL, PyData.depthAll]; omega⟩
end
mutual
theorem okP_dp {C : KM} {a : Wd} (k : Ok a) : ∀ (d : D) (n : Nat) (r : Nat) (p : List Nat) (v : V), okP n d = true → Rep C a r p v d → Dp C.K a.H v (toP d)
  | .non, n, r, p, v, h, q => by cases rep_non q; simp only [toP]; exact .non
  | .bl b, n, r, p, v, h, q => by cases rep_bl q; simp only [toP]; exact .bl b
  | .int i, n, r, p, v, h, q => by cases rep_int q; simp only [toP]; exact .int i
  | .str s, n, r, p, v, h, q => by cases rep_str q; simp only [toP]; exact .str s
  | .tup l, 0, r, p, v, h, q => by simp [okP] at h
  | .lst _ l, 0, r, p, v, h, q => by simp [okP] at h
  | .tup l, n + 1, r, p, v, h, q => by
    obtain ⟨x, vs, rfl, h1, h2⟩ := rep_tup k q
    simp only [toP]
    exact .tup h1 (okPL_dp k l n r p 0 vs (by simpa [okP] using h) h2)
  | .lst _ l, n + 1, r, p, v, h, q => by
    obtain ⟨x, vs, rfl, h1, h2⟩ := rep_lst k q
    simp only [toP]
    exact .lst (SqL.of h1) (okPL_dp k l n r p 0 vs (by simpa [okP] using h) h2)
  | .ty _, n, r, p, v, h, q => by simp [okP] at h
  | .fn _, n, r, p, v, h, q => by simp [okP] at h
  | .scr _, n, r, p, v, h, q => by simp [okP] at h
  | .dic _ _ _, n, r, p, v, h, q => by simp [okP] at h
  | .ins _ _ _ _, n, r, p, v, h, q => by simp [okP] at h
theorem okPL_dp {C : KM} {a : Wd} (k : Ok a) : ∀ (l : List D) (n : Nat) (r : Nat) (p : List Nat) (m : Nat) (vs : List V), okPL n l = true → RepL C a r p m vs l → DpAll C.K a.H vs (toPL l)
  | [], n, r, p, m, vs, h, q => by simp only [RepL] at q; subst q; simp only [toPL]; exact .nil
  | d :: l, n, r, p, m, vs, h, q => by
    simp only [okPL, Bool.and_eq_true] at h
    simp only [RepL] at q
    obtain ⟨v, us, rfl, h1, h2⟩ := q
    simp only [toPL]
    exact .cons (okP_dp k d n r (m :: p) v h.1 h1) (okPL_dp k l n r p (m + 1) us h.2 h2)
end
def eqB (d e : D) : Bool := PyData.eqv (toP d) (toP e)
/- scalars -/
def scalD : D → D → Option Bool
  | .non, .non => some true
  | .int i, .int j => some (i == j)
  | .str s, .str t => some (s == t)
  | .bl a, .bl b => some (a == b)
  | .non, .int _ | .int _, .non | .non, .bl _ | .bl _, .non | .non, .str _ | .str _, .non => some false
  | .int _, .str _ | .str _, .int _ | .bl _, .str _ | .str _, .bl _ => some false
  | _, _ => none
def eqQ (d e : D) : Option Bool := match scalD d e with
  | some b => some b
  | none => if okP 64 d && okP 64 e then some (eqB d e) else none
def eqD (d e : D) : Option D := (eqQ d e).map .bl
def neD (d e : D) : Option D := (eqQ d e).map fun b => .bl (!b)
theorem scalD_eq {C : KM} {a : Wd} {r s : Nat} {x y : V} {d e : D} {b : Bool} (h : scalD d e = some b) (p : Rep C a r [] x d) (q : Rep C a s [] y e) : scal x y = true ∧ decide (x = y) = b := by
  cases d <;> cases e <;> simp only [scalD] at h <;> (try (cases h; done)) <;> (simp only [Option.some.injEq] at h; subst h) <;> (simp only [Rep] at p q; subst p q) <;> simp [scal] <;> (rw [Bool.eq_iff_iff]; simp)
section
variable {X : Cx} {C : KM} (hC : C.K = X.K)
include hC
theorem op_eqDD (hu : X.A.units + 64 < cLine) : OpR X (compareOp .Eq) (rD C eqD) := by
  intro pins s σ H x y v u Q I rx ry h
  obtain ⟨a, d1, d2, r1, r2, d, rfl, k, p1, p2, hd, q⟩ := h
  unfold eqD eqQ at hd
  cases hs : scalD d1 d2 with
  | some b =>
    rw [hs] at hd
    cases hd
    obtain ⟨h1, h2⟩ := scalD_eq hs p1 p2
    exact op_eq pins s σ a.H _ _ v u Q I rx ry ⟨h1, by rw [h2]; exact q _ a (Grow.refl a) k rep_ofbl⟩
  | none =>
    rw [hs] at hd
    dsimp only at hd
    split at hd
    · rename_i z
      cases hd
      simp only [Bool.and_eq_true] at z
      obtain ⟨s1, s2⟩ := okP_shape d1 64 z.1
      obtain ⟨s3, s4⟩ := okP_shape d2 64 z.2
      refine op_eqD hu pins s σ a.H _ _ v u Q I rx ry ⟨toP d1, toP d2, ?_, ?_, by simp [SeqAt.shaped, s1, s2], by simp [SeqAt.shaped, s3, s4], q _ a (Grow.refl a) k rep_ofbl⟩
      · rw [← hC]; exact okP_dp k d1 64 _ _ _ z.1 p1
      · rw [← hC]; exact okP_dp k d2 64 _ _ _ z.2 p2
    · cases hd
theorem op_neDD (hu : X.A.units + 64 < cLine) : OpR X (compareOp .NotEq) (rD C neD) := by
  intro pins s σ H x y v u Q I rx ry h
  obtain ⟨a, d1, d2, r1, r2, d, rfl, k, p1, p2, hd, q⟩ := h
  unfold neD eqQ at hd
  cases hs : scalD d1 d2 with
  | some b =>
    rw [hs] at hd
    cases hd
    obtain ⟨h1, h2⟩ := scalD_eq hs p1 p2
    exact op_ne pins s σ a.H _ _ v u Q I rx ry ⟨h1, by rw [h2]; exact q _ a (Grow.refl a) k rep_ofbl⟩
  | none =>
    rw [hs] at hd
    dsimp only at hd
    split at hd
    · rename_i z
      cases hd
      simp only [Bool.and_eq_true] at z
      obtain ⟨s1, s2⟩ := okP_shape d1 64 z.1
      obtain ⟨s3, s4⟩ := okP_shape d2 64 z.2
      refine op_neD hu pins s σ a.H _ _ v u Q I rx ry ⟨toP d1, toP d2, ?_, ?_, by simp [SeqAt.shaped, s1, s2], by simp [SeqAt.shaped, s3, s4], q _ a (Grow.refl a) k rep_ofbl⟩
      · rw [← hC]; exact okP_dp k d1 64 _ _ _ z.1 p1
      · rw [← hC]; exact okP_dp k d2 64 _ _ _ z.2 p2
    · cases hd
end

/-! ### order, in, is -/
def ltD : D → D → Option D
  | .int i, .int j => some (.bl (decide (i < j)))
  | .str s, .str t => some (.bl (decide (s.cps.toList < t.cps.toList)))
  | _, _ => none
def leD : D → D → Option D
  | .int i, .int j => some (.bl (decide (i ≤ j)))
  | .str s, .str t => some (.bl (!decide (t.cps.toList < s.cps.toList)))
  | _, _ => none
def gtD : D → D → Option D
  | .int i, .int j => some (.bl (decide (j < i)))
  | .str s, .str t => some (.bl (decide (t.cps.toList < s.cps.toList)))
  | _, _ => none
def geD : D → D → Option D
  | .int i, .int j => some (.bl (decide (j ≤ i)))
  | .str s, .str t => some (.bl (!decide (s.cps.toList < t.cps.toList)))
  | _, _ => none
/- atoms as values -/
def flatD : D → Bool
  | .non | .bl _ | .int _ | .str _ => true
  | _ => false
def eqF : D → D → Bool
  | .non, .non => true
  | .bl a, .bl b => a == b
  | .bl a, .int b => (if a then 1 else 0) == b
  | .int a, .bl b => a == (if b then 1 else 0)
  | .int a, .int b => a == b
  | .str a, .str b => a == b
  | _, _ => false
def keyD : D → Option Key
  | .int i => some (.inl i)
  | .str s => some (.inr s)
  | _ => none
def unkD : Key → D
  | .inl i => .int i
  | .inr s => .str s
/- the value at a key -/
def getK : List D → List D → Key → Option D
  | k :: ks, w :: ws, x => if keyD k = some x then some w else getK ks ws x
  | _, _, _ => none
def inQ : D → D → Option Bool
  | .str s, .str t => match s.cps.toList with
    | [c] => some (decide (c ∈ t.cps.toList))
    | _ => some (!(Builtin.Str.occurrences t s 0 t.length 1).isEmpty)
  | x, .dic _ ks ws => match keyD x with
    | some k => some (getK ks ws k).isSome
    | none => none
  | x, .lst _ l => if flatD x && l.all flatD then some (l.any fun y => eqF y x) else none
  | x, .tup l => if flatD x && l.all flatD then some (l.any fun y => eqF y x) else none
  | _, _ => none
def inD (d e : D) : Option D := (inQ d e).map .bl
def ninD (d e : D) : Option D := (inQ d e).map fun b => .bl (!b)
def isQ : D → D → Option Bool
  | .non, .non => some true
  | .int _, .non | .str _, .non | .bl _, .non | .tup _, .non | .lst _ _, .non | .dic _ _ _, .non | .ins _ _ _ _, .non => some false
  | .bl a, .bl b => some (a == b)
  | .non, .bl _ | .int _, .bl _ | .str _, .bl _ | .tup _, .bl _ | .lst _ _, .bl _ | .dic _ _ _, .bl _ | .ins _ _ _ _, .bl _ => some false
  | _, _ => none
def isD (d e : D) : Option D := (isQ d e).map .bl
def nisD (d e : D) : Option D := (isQ d e).map fun b => .bl (!b)
end Mi
namespace Mi
open PySem PySem.Spec PyProof.Rows L2

/-! ### keys -/
theorem rep_key {C : KM} {a : Wd} {r : Nat} {p : List Nat} {d : D} {k : Key} (h : Rep C a r p (kV k) d) : d = unkD k := by
  cases k with
  | inl i => cases d <;> simp only [Rep, kV] at h <;> first | (cases h; done) | (cases h; rfl) | (obtain ⟨_, h⟩ := h; first | (cases h; done) | (obtain ⟨h, _⟩ := h; cases h; done) | (obtain ⟨_, h⟩ := h; first | (cases h; done) | (obtain ⟨h, _⟩ := h; cases h; done) | (obtain ⟨_, _, h, _⟩ := h; cases h; done)))
  | inr i => cases d <;> simp only [Rep, kV] at h <;> first | (cases h; done) | (cases h; rfl) | (obtain ⟨_, h⟩ := h; first | (cases h; done) | (obtain ⟨h, _⟩ := h; cases h; done) | (obtain ⟨_, h⟩ := h; first | (cases h; done) | (obtain ⟨h, _⟩ := h; cases h; done) | (obtain ⟨_, _, h, _⟩ := h; cases h; done)))
theorem keyD_unk (k : Key) : keyD (unkD k) = some k := by cases k <;> rfl
theorem keyD_rep {C : KM} {a : Wd} {r : Nat} {p : List Nat} {d : D} {v : V} {k : Key} (h : keyD d = some k) (q : Rep C a r p v d) : v = kV k := by
  cases d <;> simp only [keyD] at h <;> (try (cases h; done)) <;> cases h
  · exact rep_int q
  · exact rep_str q
theorem getK_rep {C : KM} {a : Wd} {r : Nat} {p : List Nat} (x : Key) : ∀ {kvs : List (Key × V)} {ks ws : List D} {n m : Nat}, RepL C a r p n (kvs.map fun q => kV q.1) ks → RepL C a r p m (kvs.map (·.2)) ws →
    match getK ks ws x with
    | some w => ∃ v j, valV kvs x = some v ∧ Rep C a r (j :: p) v w
    | none => valV kvs x = none
  | [], ks, ws, n, m, h, g => by
    have e : ks = [] := by cases ks with | nil => rfl | cons _ _ => simp only [RepL, List.map_nil] at h; obtain ⟨_, _, e, _⟩ := h; cases e
    subst e
    simp [getK, valV]
  | (k, v) :: kvs, ks, ws, n, m, h, g => by
    cases ks with
    | nil => simp only [RepL, List.map_cons] at h; cases h
    | cons d ks =>
      cases ws with
      | nil => simp only [RepL, List.map_cons] at g; cases g
      | cons w ws =>
        simp only [RepL, List.map_cons] at h g
        obtain ⟨v1, us, e1, h1, h2⟩ := h
        obtain ⟨v2, us', e2, g1, g2⟩ := g
        cases e1; cases e2
        have ed := rep_key h1
        subst ed
        simp only [getK, keyD_unk]
        by_cases e : k = x
        · subst e
          simp only [if_true]
          exact ⟨v, m, valV_pos rfl, g1⟩
        · have ne : ¬ (some k : Option Key) = some x := fun z => e (Option.some.inj z)
          simp only [if_neg ne]
          have ih := getK_rep (C := C) (a := a) (r := r) (p := p) x (kvs := kvs) (ks := ks) (ws := ws) h2 g2
          rw [valV_neg (p := (k, v)) e]
          exact ih

/-! ### order -/
section
variable {X : Cx} {C : KM}
theorem op_ltD : OpR X (compareOp .Lt) (rD C ltD) := by
  intro pins s σ H x y v u Q I rx ry h
  obtain ⟨a, d1, d2, r1, r2, d, rfl, k, p1, p2, hd, q⟩ := h
  cases d1 <;> cases d2 <;> simp only [ltD] at hd <;> try (cases hd; done)
  case int.int i j => cases hd; cases rep_int p1; cases rep_int p2; exact op_lt pins s σ a.H _ _ v u Q I rx ry ⟨i, j, rfl, rfl, q _ a (Grow.refl a) k rep_ofbl⟩
  case str.str i j => cases hd; cases rep_str p1; cases rep_str p2; exact op_lt_str pins s σ a.H _ _ v u Q I rx ry ⟨i, j, rfl, rfl, q _ a (Grow.refl a) k rep_ofbl⟩
theorem op_leD : OpR X (compareOp .LtE) (rD C leD) := by
  intro pins s σ H x y v u Q I rx ry h
  obtain ⟨a, d1, d2, r1, r2, d, rfl, k, p1, p2, hd, q⟩ := h
  cases d1 <;> cases d2 <;> simp only [leD] at hd <;> try (cases hd; done)
  case int.int i j => cases hd; cases rep_int p1; cases rep_int p2; exact op_le pins s σ a.H _ _ v u Q I rx ry ⟨i, j, rfl, rfl, q _ a (Grow.refl a) k rep_ofbl⟩
  case str.str i j => cases hd; cases rep_str p1; cases rep_str p2; exact op_le_str pins s σ a.H _ _ v u Q I rx ry ⟨i, j, rfl, rfl, q _ a (Grow.refl a) k rep_ofbl⟩
theorem op_gtD : OpR X (compareOp .Gt) (rD C gtD) := by
  intro pins s σ H x y v u Q I rx ry h
  obtain ⟨a, d1, d2, r1, r2, d, rfl, k, p1, p2, hd, q⟩ := h
  cases d1 <;> cases d2 <;> simp only [gtD] at hd <;> try (cases hd; done)
  case int.int i j => cases hd; cases rep_int p1; cases rep_int p2; exact op_gt pins s σ a.H _ _ v u Q I rx ry ⟨i, j, rfl, rfl, q _ a (Grow.refl a) k rep_ofbl⟩
  case str.str i j => cases hd; cases rep_str p1; cases rep_str p2; exact op_gt_str pins s σ a.H _ _ v u Q I rx ry ⟨i, j, rfl, rfl, q _ a (Grow.refl a) k rep_ofbl⟩
theorem op_geD : OpR X (compareOp .GtE) (rD C geD) := by
  intro pins s σ H x y v u Q I rx ry h
  obtain ⟨a, d1, d2, r1, r2, d, rfl, k, p1, p2, hd, q⟩ := h
  cases d1 <;> cases d2 <;> simp only [geD] at hd <;> try (cases hd; done)
  case int.int i j => cases hd; cases rep_int p1; cases rep_int p2; exact op_ge pins s σ a.H _ _ v u Q I rx ry ⟨i, j, rfl, rfl, q _ a (Grow.refl a) k rep_ofbl⟩
  case str.str i j => cases hd; cases rep_str p1; cases rep_str p2; exact op_ge_str pins s σ a.H _ _ v u Q I rx ry ⟨i, j, rfl, rfl, q _ a (Grow.refl a) k rep_ofbl⟩
end

/-! ### in -/
theorem flat_rep {C : KM} {a : Wd} {r : Nat} {p : List Nat} {d : D} {v : V} (h : flatD d = true) (q : Rep C a r p v d) : flatV v = true := by
  cases d <;> simp only [flatD] at h <;> (try (cases h; done)) <;> (simp only [Rep] at q; subst q; rfl)
theorem eqF_rep {C : KM} {a : Wd} {r s : Nat} {p p' : List Nat} {d e : D} {v u : V} (h : flatD d = true) (h' : flatD e = true) (q : Rep C a r p v d) (q' : Rep C a s p' u e) : eqV v u = eqF d e := by
  cases d <;> simp only [flatD] at h <;> (try (cases h; done)) <;> cases e <;> simp only [flatD] at h' <;> (try (cases h'; done)) <;> (simp only [Rep] at q q'; subst q q'; rfl)
theorem flats_rep {C : KM} {a : Wd} {r : Nat} {p : List Nat} : ∀ {l : List D} {n : Nat} {vs : List V}, l.all flatD = true → RepL C a r p n vs l → vs.all flatV = true
  | [], n, vs, h, q => by simp only [RepL] at q; subst q; rfl
  | d :: l, n, vs, h, q => by
    simp only [List.all_cons, Bool.and_eq_true] at h
    simp only [RepL] at q
    obtain ⟨v, us, rfl, q1, q2⟩ := q
    rw [List.all_cons, flat_rep h.1 q1, flats_rep h.2 q2]; rfl
theorem anyF_rep {C : KM} {a : Wd} {r s : Nat} {p p' : List Nat} {x : D} {v : V} (hx : flatD x = true) (qx : Rep C a s p' v x) : ∀ {l : List D} {n : Nat} {vs : List V}, l.all flatD = true → RepL C a r p n vs l → inV v vs = l.any fun y => eqF y x
  | [], n, vs, h, q => by simp only [RepL] at q; subst q; rfl
  | d :: l, n, vs, h, q => by
    simp only [List.all_cons, Bool.and_eq_true] at h
    simp only [RepL] at q
    obtain ⟨u, us, rfl, q1, q2⟩ := q
    have ih := anyF_rep hx qx h.2 q2
    unfold inV at ih ⊢
    rw [List.any_cons, List.any_cons, eqF_rep h.1 hx q1 qx, ih]
section
variable {X : Cx} {C : KM} (hC : C.K = X.K)
theorem sign_of {s : Str} {c : Nat} (h : s.cps.toList = [c]) : s = ⟨#[c]⟩ := by
  obtain ⟨a⟩ := s
  have e : a = #[c] := by
    apply Array.ext'
    simpa using h
  rw [e]
include hC
/- in, by its truth b; f the comparison, g what it tells of b -/
theorem op_inG {op : CmpOp} {g : Bool → Bool} (hop : (op = .In ∧ g = id) ∨ (op = .NotIn ∧ g = (!·))) (hu : X.A.units + 1 < cLine) : OpR X (compareOp op) (rD C fun d e => (inQ d e).map fun b => .bl (g b)) := by
  intro pins s σ H x y v u Q I rx ry h
  obtain ⟨a, d1, d2, r1, r2, d, rfl, k, p1, p2, hd, q⟩ := h
  cases hb : inQ d1 d2 with
  | none => simp only [hb] at hd; cases hd
  | some b =>
    simp only [hb] at hd
    cases hd
    have fin : ∀ s', Inv X pins σ a.H s' → EP X pins σ Q (.bool (g b)) s' := fun s' I' => ⟨.bl (g b), a.H, I', rfl, q _ a (Grow.refl a) k rep_ofbl⟩
    have qv : Q (.bl (g b)) a.H := q _ a (Grow.refl a) k rep_ofbl
    have seq : ∀ {x2 : Addr} {us : List V} {l : List D}, y = .ref x2 → (SqL X.K a.H x2 us ∨ SqT X.K a.H x2 us) → RepL C a r2 [] 0 us l → (if flatD d1 && l.all flatD then some (l.any fun y => eqF y d1) else none) = some b →
        wpAny (model X.prog X.w) X.A (compareOp op v u) (EP X pins σ Q) X.xe s := fun {x2 us l} e1 hs hl e2 => by
      split at e2
      · rename_i z
        simp only [Bool.and_eq_true] at z
        cases e2
        subst e1
        have ei := anyF_rep z.1 p1 z.2 hl
        rcases hop with ⟨rfl, rfl⟩ | ⟨rfl, rfl⟩
        · exact op_in_seq pins s σ a.H _ _ v u Q I rx ry ⟨x2, us, rfl, hs, flat_rep z.1 p1, flats_rep z.2 hl, by rw [ei]; exact qv⟩
        · exact op_notIn_seq pins s σ a.H _ _ v u Q I rx ry ⟨x2, us, rfl, hs, flat_rep z.1 p1, flats_rep z.2 hl, by rw [ei]; exact qv⟩
      · cases e2
    have dic : ∀ {o : Bool} {ks ws : List D}, Rep C a r2 [] y (.dic o ks ws) → (match keyD d1 with | some k => some (getK ks ws k).isSome | none => none) = some b → wpAny (model X.prog X.w) X.A (compareOp op v u) (EP X pins σ Q) X.xe s := fun {o ks ws} rp e => by
      cases hk : keyD d1 with
      | none => rw [hk] at e; cases e
      | some key =>
        rw [hk] at e
        cases e
        obtain ⟨x2, ho, kv, vs, rfl, h1, dc, f, hk1, hk2⟩ := rep_dic k rp
        cases dc with
        | dk kvs =>
          have ex := keyD_rep hk p1
          subst ex
          obtain rfl : u = Value.ref x2 := ry
          have gk := getK_rep key hk1 hk2
          have ei : (valV kvs key).isSome = (getK ks ws key).isSome := by
            cases e : getK ks ws key with
            | none => rw [e] at gk; rw [gk]; rfl
            | some w => rw [e] at gk; obtain ⟨v', j, e', _⟩ := gk; rw [e']; rfl
          rcases hop with ⟨rfl, rfl⟩ | ⟨rfl, rfl⟩
          · exact d_in hu I (DGet.k h1) rx fun s3 I3 => by rw [ei]; exact fin s3 I3
          · exact d_notIn hu I (DGet.k h1) rx fun s3 I3 => by rw [ei]; exact fin s3 I3
    cases d2
    case str t =>
      cases d1 <;> simp only [inQ] at hb <;> try (cases hb; done)
      case str z =>
        cases rep_str p1; cases rep_str p2
        split at hb
        · rename_i c e
          cases hb
          have ez := sign_of e
          subst ez
          rcases hop with ⟨rfl, rfl⟩ | ⟨rfl, rfl⟩
          · exact op_in_sign pins s σ a.H _ _ v u Q I rx ry ⟨c, t, rfl, rfl, qv⟩
          · exact op_notIn_sign pins s σ a.H _ _ v u Q I rx ry ⟨c, t, rfl, rfl, qv⟩
        · cases hb
          rcases hop with ⟨rfl, rfl⟩ | ⟨rfl, rfl⟩
          · exact op_in_str pins s σ a.H _ _ v u Q I rx ry ⟨z, t, rfl, rfl, qv⟩
          · exact L2.op_notIn_str pins s σ a.H _ _ v u Q I rx ry ⟨z, t, rfl, rfl, qv⟩
    case dic o ks ws => cases d1 <;> simp only [inQ] at hb <;> exact dic p2 hb
    case lst o l =>
      obtain ⟨x2, us, e, h1, h2⟩ := rep_lst k p2
      cases d1 <;> simp only [inQ] at hb <;> exact seq e (.inl (SqL.of h1)) h2 hb
    case tup l =>
      obtain ⟨x2, us, e, h1, h2⟩ := rep_tup k p2
      rw [hC] at h1
      cases d1 <;> simp only [inQ] at hb <;> exact seq e (.inr h1) h2 hb
    all_goals (cases d1 <;> simp only [inQ] at hb <;> cases hb)
theorem op_inD (hu : X.A.units + 1 < cLine) : OpR X (compareOp .In) (rD C inD) := op_inG hC (g := id) (.inl ⟨rfl, rfl⟩) hu
theorem op_ninD (hu : X.A.units + 1 < cLine) : OpR X (compareOp .NotIn) (rD C ninD) := op_inG hC (g := (!·)) (.inr ⟨rfl, rfl⟩) hu
omit hC in
theorem op_isG {op : CmpOp} {g : Bool → Bool} (hop : (op = .Is ∧ g = id) ∨ (op = .IsNot ∧ g = (!·))) : OpR X (compareOp op) (rD C fun d e => (isQ d e).map fun b => .bl (g b)) := by
  intro pins s σ H x y v u Q I rx ry h
  obtain ⟨a, d1, d2, r1, r2, d, rfl, k, p1, p2, hd, q⟩ := h
  cases hb : isQ d1 d2 with
  | none => simp only [hb] at hd; cases hd
  | some b =>
    simp only [hb] at hd
    cases hd
    have qv : Q (.bl (g b)) a.H := q _ a (Grow.refl a) k rep_ofbl
    cases d2 <;> (try (cases d1 <;> simp only [isQ] at hb <;> cases hb; done))
    case non =>
      cases rep_non p2
      have ex : decide (x = .non) = b := by
        cases d1 <;> simp only [isQ] at hb <;> (try (cases hb; done)) <;> cases hb <;> simp only [Rep] at p1
        · subst p1; rfl
        · subst p1; rfl
        · subst p1; rfl
        · subst p1; rfl
        · obtain ⟨_, _, rfl, _⟩ := p1; rfl
        · obtain ⟨_, _, rfl, _⟩ := p1; rfl
        · obtain ⟨_, _, _, _, rfl, _⟩ := p1; rfl
        · obtain ⟨_, _, _, _, rfl, _⟩ := p1; rfl
      rcases hop with ⟨rfl, rfl⟩ | ⟨rfl, rfl⟩
      · exact op_isN pins s σ a.H _ _ v u Q I rx ry ⟨rfl, by rw [ex]; exact qv⟩
      · exact op_notN pins s σ a.H _ _ v u Q I rx ry ⟨rfl, by rw [ex]; exact qv⟩
    case bl c =>
      cases rep_bl p2
      cases d1 <;> simp only [isQ] at hb <;> (try (cases hb; done))
      case bl c' =>
        cases hb; cases rep_bl p1
        have e : decide (c' = c) = (c' == c) := by rw [Bool.eq_iff_iff]; simp
        rcases hop with ⟨rfl, rfl⟩ | ⟨rfl, rfl⟩
        · exact op_isBl pins s σ a.H _ _ v u Q I rx ry ⟨c', c, rfl, rfl, by rw [e]; exact qv⟩
        · exact op_notBl pins s σ a.H _ _ v u Q I rx ry ⟨c', c, rfl, rfl, by rw [e]; exact qv⟩
      all_goals
        cases hb
        have hv : plainIs v (.bool c) = true ∧ (v == .bool c) = false := by
          simp only [Rep] at p1
          first
            | (subst p1; cases rx; exact ⟨rfl, rfl⟩)
            | (subst p1; obtain ⟨t, rfl⟩ := rx; exact ⟨rfl, rfl⟩)
            | (obtain ⟨_, _, rfl, _⟩ := p1; cases rx; exact ⟨rfl, rfl⟩)
            | (obtain ⟨_, _, _, _, rfl, _⟩ := p1; cases rx; exact ⟨rfl, rfl⟩)
        obtain rfl : u = Value.bool c := ry
        rcases hop with ⟨rfl, rfl⟩ | ⟨rfl, rfl⟩
        · exact wpAny_is_plain hv.1 (by rw [hv.2]; exact ⟨.bl false, a.H, I, rfl, qv⟩)
        · exact wpAny_isNot_plain hv.1 (by rw [hv.2]; exact ⟨.bl true, a.H, I, rfl, qv⟩)
theorem op_isD : OpR X (compareOp .Is) (rD C isD) := op_isG (g := id) (.inl ⟨rfl, rfl⟩)
theorem op_nisD : OpR X (compareOp .IsNot) (rD C nisD) := op_isG (g := (!·)) (.inr ⟨rfl, rfl⟩)
end
end Mi
namespace Mi
open PySem PySem.Spec PyProof.Rows L2

/-! ### subscripts -/
def pick (o : Option D) : Option D := match o with
  | some d => if fz d = true then some d else none
  | none => none
theorem pick_eq {o : Option D} {d : D} (h : pick o = some d) : o = some d ∧ fz d = true := by
  unfold pick at h
  split at h
  · split at h
    · rename_i z; cases h; exact ⟨rfl, z⟩
    · cases h
  · cases h
def ixD : D → D → Option D
  | .lst _ l, .int i => pick (atI l i)
  | .tup l, .int i => pick (atI l i)
  | .scr l, .int i => (atI l i).map .int
  | .str s, .int i => if s.length ≤ sizeLine then (atI s.cps.toList i).map fun c => .str ⟨#[c]⟩ else none
  | .dic _ ks ws, x => match keyD x with
    | some k => pick (getK ks ws k)
    | none => none
  | _, _ => none
theorem atI_rep {C : KM} {a : Wd} {r : Nat} {p : List Nat} {l : List D} {n : Nat} {vs : List V} {i : Int} {d : D} (h : RepL C a r p n vs l) (e : atI l i = some d) : ∃ v j, atI vs i = some v ∧ Rep C a r (j :: p) v d := by
  unfold atI at e ⊢
  rw [h.len]
  cases hx : ixN l.length i with
  | none => rw [hx] at e; cases e
  | some j =>
    rw [hx] at e
    obtain ⟨v, h1, h2⟩ := h.get (show l[j]? = some d from e)
    exact ⟨v, n + j, h1, h2⟩
section
variable {X : Cx} {C : KM} (hC : C.K = X.K)
include hC
theorem ix_D (hu : X.A.units + 1 < cLine) : IxR X (rD C ixD) := by
  intro value slice pins s σ H x y v u Q I rx ry h hs
  obtain ⟨a, d1, d2, r1, r2, d, rfl, k, p1, p2, hd, q⟩ := h
  have fz_ok : ∀ {z : V} {r : Nat} {p : List Nat}, Rep C a r p z d → fz d = true → Q z a.H := fun {z r p} h e => q z a (Grow.refl a) k (h.step k (Step.refl a) e)
  have dic : ∀ {o : Bool} {ks ws : List D}, Rep C a r1 [] x (.dic o ks ws) → (match keyD d2 with | some k => pick (getK ks ws k) | none => none) = some d → wpAny (model X.prog X.w) X.A (subscriptTail value slice v u) (EP X pins σ Q) X.xe s := fun {o ks ws} rp e => by
    cases hk : keyD d2 with
    | none => rw [hk] at e; cases e
    | some key =>
      rw [hk] at e
      obtain ⟨e1, z⟩ := pick_eq e
      obtain ⟨x2, ho, kv, vs, rfl, h1, dc, f, hk1, hk2⟩ := rep_dic k rp
      cases dc with
      | dk kvs =>
        have ex := keyD_rep hk p2
        subst ex
        obtain rfl : v = Value.ref x2 := rx
        have gk := getK_rep key hk1 hk2
        rw [e1] at gk
        obtain ⟨w, j, ew, rw'⟩ := gk
        have g : DGet a.H x2 (kV key) (some w) := by rw [← ew]; exact DGet.k h1
        exact tail_any (dict_typeIs I g) PySem.F.slot_dict_getitem.lookup (d_getItem hu I g ry fun w' s3 I3 r3 => ⟨w, a.H, I3, r3, fz_ok rw' z⟩) hs
  cases d1
  case lst o l =>
    cases d2 <;> simp only [ixD] at hd <;> (try (cases hd; done))
    case int i =>
      obtain ⟨e1, z⟩ := pick_eq hd
      obtain ⟨x1, vs, rfl, h1, h2⟩ := rep_lst k p1
      cases rep_int p2
      obtain ⟨w, j, ew, rw'⟩ := atI_rep h2 e1
      exact ix_list value slice pins s σ a.H _ _ v u Q I rx ry ⟨x1, vs, i, w, rfl, rfl, SqL.of h1, ew, fz_ok rw' z⟩ hs
  case tup l =>
    cases d2 <;> simp only [ixD] at hd <;> (try (cases hd; done))
    case int i =>
      obtain ⟨e1, z⟩ := pick_eq hd
      obtain ⟨x1, vs, rfl, h1, h2⟩ := rep_tup k p1
      cases rep_int p2
      rw [hC] at h1
      obtain ⟨w, j, ew, rw'⟩ := atI_rep h2 e1
      exact ix_tup value slice pins s σ a.H _ _ v u Q I rx ry ⟨x1, vs, i, w, rfl, rfl, h1, ew, fz_ok rw' z⟩ hs
  case scr l =>
    cases d2 <;> simp only [ixD] at hd <;> (try (cases hd; done))
    case int i =>
      obtain ⟨x1, rfl, h1⟩ := rep_scr k p1
      cases rep_int p2
      rw [hC] at h1
      cases e1 : atI l i with
      | none => rw [e1] at hd; cases hd
      | some n =>
        rw [e1] at hd
        cases hd
        have ew : atI (l.map V.int) i = some (.int n) := by
          unfold atI at e1 ⊢
          rw [List.length_map]
          cases hx : ixN l.length i with
          | none => rw [hx] at e1; cases e1
          | some j =>
            rw [hx] at e1
            have e1 : l[j]? = some n := e1
            show (l.map V.int)[j]? = some (.int n)
            rw [List.getElem?_map, e1]; rfl
        exact ix_list value slice pins s σ a.H _ _ v u Q I rx ry ⟨x1, _, i, .int n, rfl, rfl, h1, ew, fz_ok (r := 0) (p := []) (by simp [Rep]) rfl⟩ hs
  case str z =>
    cases d2 <;> simp only [ixD] at hd <;> (try (cases hd; done))
    case int i =>
      split at hd
      · rename_i hz
        cases rep_int p2
        cases rep_str p1
        cases e1 : atI z.cps.toList i with
        | none => rw [e1] at hd; cases hd
        | some n =>
          rw [e1] at hd
          cases hd
          exact ix_str value slice pins s σ a.H _ _ v u Q I rx ry ⟨z, i, n, rfl, rfl, hz, e1, fz_ok (r := 0) (p := []) (by simp [Rep]) rfl⟩ hs
      · cases hd
  case dic o ks ws => cases d2 <;> simp only [ixD] at hd <;> exact dic p1 hd
  all_goals (cases d2 <;> simp only [ixD] at hd <;> cases hd)
end

/-! ### slices -/
def cutD {α : Type} (xs : List α) (lo hi : Option Int) : List α := (xs.drop (HT.sIx xs.length 0 lo)).take (HT.sIx xs.length xs.length hi - HT.sIx xs.length 0 lo)
def slD (d : D) (lo hi : Option Int) : Option D := match d with
  | .lst _ l => if fzL l then some (.lst true (cutD l lo hi)) else none
  | .tup l => if fzL l then some (.tup (cutD l lo hi)) else none
  | .scr l => some (.lst true ((cutD l lo hi).map .int))
  | .str s => if s.length ≤ sizeLine then some (.str (cutS s lo hi)) else none
  | _ => none
theorem RepL.cut {C : KM} {a : Wd} {r s : Nat} {p q : List Nat} : ∀ {l : List D} {n m : Nat} {vs : List V} (i k : Nat), fzL l = true → RepL C a r p n vs l → RepL C a s q m ((vs.drop i).take k) ((l.drop i).take k)
  | [], n, m, vs, i, k, _, h => by simp only [RepL] at h; subst h; simp [RepL]
  | d :: l, n, m, vs, i, 0, _, h => by simp [RepL]
  | d :: l, n, m, vs, 0, k + 1, z, h => by
    simp only [RepL] at h
    obtain ⟨v, us, rfl, h1, h2⟩ := h
    simp only [fzL, Bool.and_eq_true] at z
    simp only [List.drop_zero, List.take_succ_cons]
    have ih := RepL.cut (s := s) (q := q) (m := m + 1) 0 k z.2 h2
    exact ⟨v, _, rfl, Rep.fz (fun _ _ e => e) d _ _ v z.1 h1, ih⟩
  | d :: l, n, m, vs, i + 1, k + 1, z, h => by
    simp only [RepL] at h
    obtain ⟨v, us, rfl, h1, h2⟩ := h
    simp only [fzL, Bool.and_eq_true] at z
    simp only [List.drop_succ_cons]
    exact RepL.cut i (k + 1) z.2 h2
theorem fzL_take {l : List D} (h : fzL l = true) (k : Nat) : fzL (l.take k) = true := fzL_all fun d hd => fzL_mem h d (List.mem_of_mem_take hd)
theorem fzL_drop {l : List D} (h : fzL l = true) (k : Nat) : fzL (l.drop k) = true := fzL_all fun d hd => fzL_mem h d (List.mem_of_mem_drop hd)
theorem repL_ints {C : KM} {a : Wd} {r : Nat} {p : List Nat} : ∀ (l : List Int) (n : Nat), RepL C a r p n (l.map V.int) (l.map D.int)
  | [], n => by simp [RepL]
  | i :: l, n => ⟨.int i, l.map V.int, rfl, by simp [Rep], repL_ints l (n + 1)⟩
theorem fzL_ints : ∀ l : List Int, fzL (l.map D.int) = true
  | [] => rfl
  | i :: l => by simp only [List.map_cons, fzL, fz, fzL_ints l]; rfl
theorem map_cut {α β : Type} (f : α → β) (l : List α) (lo hi : Option Int) : cutD (l.map f) lo hi = (cutD l lo hi).map f := by
  unfold cutD
  rw [List.length_map, List.map_take, List.map_drop]
def rSD (C : KM) : V → Option Int → Option Int → Hp → VK → Prop := fun x lo hi H Q => ∃ a d1 r1 d, a.H = H ∧ Ok a ∧ Rep C a r1 [] x d1 ∧ slD d1 lo hi = some d ∧ ∀ z b, Grow a b → Ok b → Rep C b 0 [] z d → Q z b.H
def rSlX (K : PySem.W.Frag) : V → Option Int → Option Int → Hp → VK → Prop := fun x lo hi H Q => ∃ a xs, x = .ref a ∧ SqT K H a xs ∧
  (HT.sIx xs.length 0 lo = 0 ∧ HT.sIx xs.length xs.length hi = xs.length → Q (.ref a) H) ∧ (¬ (HT.sIx xs.length 0 lo = 0 ∧ HT.sIx xs.length xs.length hi = xs.length) → TupNew Q H (cutV xs lo hi))
theorem sl_tupX {X : Cx} : SlR X (rSlX X.K) := by
  intro pins s σ H x v vl vu lo hi sl Q I rx hs pl pu h
  obtain ⟨a, xs, rfl, hx, q1, q2⟩ := h
  by_cases hw : HT.sIx xs.length 0 lo = 0 ∧ HT.sIx xs.length xs.length hi = xs.length
  · exact sl_tupA pins s σ H _ v vl vu lo hi sl Q I rx hs pl pu ⟨a, xs, rfl, hx, q1, fun z => absurd hw z⟩
  cases rx
  obtain ⟨its, r, ht, hz⟩ := I.tuple hx
  have hlen : its.toArray.size = xs.length := by rw [List.size_toArray]; exact r.length.symm
  refine ⟨"tuple", _, PyProof.Rows.slot_tuple_getitem.lookup, ht.typeIs, HT.getItem_tuple_cut ht hs pl pu (by rw [hlen]; exact hw) ?_ (by rw [hlen]; exact hz)⟩
  rw [hlen]
  exact lay_tup I ((r.drop (HT.sIx xs.length 0 lo)).take (HT.sIx xs.length xs.length hi - HT.sIx xs.length 0 lo)) (Nat.le_trans (cutV_length xs lo hi) hz) (q2 hw)
theorem call_tupleX {X : Cx} : CallR X (.type "tuple") (fun xs H Q => ∃ p ys, xs = [.ref p] ∧ SqL X.K H p ys ∧ TupNew Q H ys) := by
  intro pins s σ H xs us Q I r h
  obtain ⟨p, ys, rfl, hq, q⟩ := h
  obtain ⟨u, rfl, rx⟩ := vals1 r
  cases rx
  obtain ⟨its, r', pl, hz⟩ := I.list hq
  have hlen := r'.length
  refine call_tuple_list pl.isList (fun h' kp => ?_) (by simp only [List.size_toArray] <;> omega)
  have I1 : Inv X pins σ H { s with heap := h' } := I.kept (t' := s.toks) kp
  exact lay_tup I1 r' hz q
section
variable {X : Cx} {C : KM} (hC : C.K = X.K)
include hC
theorem sl_D : SlR X (rSD C) := by
  intro pins s σ H x v vl vu lo hi sl Q I rx hs pl pu h
  obtain ⟨a, d1, r1, d, rfl, k, p1, hd, q⟩ := h
  cases d1 <;> simp only [slD] at hd <;> (try (cases hd; done))
  case str z =>
    split at hd
    · rename_i hz; cases hd; cases rep_str p1
      exact sl_str pins s σ a.H _ v vl vu lo hi sl Q I rx hs pl pu ⟨z, rfl, hz, q _ a (Grow.refl a) k (by simp [Rep])⟩
    · cases hd
  case scr l =>
    cases hd
    obtain ⟨x1, rfl, h1⟩ := rep_scr k p1
    rw [hC] at h1
    refine sl_list pins s σ a.H _ v vl vu lo hi sl Q I rx hs pl pu ⟨x1, _, rfl, h1, ?_⟩
    rw [show cutV (l.map V.int) lo hi = (cutD l lo hi).map V.int from map_cut V.int l lo hi]
    exact new_lst k (fzL_ints _) (repL_ints (r := 0) (p := []) _ 0) q
  case lst o l =>
    split at hd
    · rename_i hz; cases hd
      obtain ⟨x1, vs, rfl, h1, h2⟩ := rep_lst k p1
      refine sl_list pins s σ a.H _ v vl vu lo hi sl Q I rx hs pl pu ⟨x1, vs, rfl, SqL.of h1, ?_⟩
      unfold cutV
      rw [h2.len]
      exact new_lst k (fzL_take (fzL_drop hz _) _) (RepL.cut (s := 0) (q := []) (m := 0) _ _ hz h2) q
    · cases hd
  case tup l =>
    split at hd
    · rename_i hz; cases hd
      obtain ⟨x1, vs, rfl, h1, h2⟩ := rep_tup k p1
      rw [hC] at h1
      refine sl_tupX pins s σ a.H _ v vl vu lo hi sl Q I rx hs pl pu ⟨x1, vs, rfl, h1, fun e => ?_, fun _ => ?_⟩
      · rw [h2.len] at e
        have e2 : cutD l lo hi = l := by unfold cutD; rw [e.1, e.2]; simp
        rw [e2] at q
        exact q _ a (Grow.refl a) k (p1.step k (Step.refl a) (by simpa [fz] using hz))
      · unfold cutV
        rw [h2.len]
        exact new_tup k (fzL_take (fzL_drop hz _) _) (RepL.cut (s := 0) (q := []) (m := 0) _ _ hz h2) q
    · cases hd
end

/-! ### calls of builtins -/
def lenD : List D → Option D
  | [.str s] => if s.length ≤ sizeLine then some (.int s.length) else none
  | [.lst _ l] => some (.int l.length)
  | [.tup l] => some (.int l.length)
  | [.scr l] => some (.int l.length)
  | [.dic _ ks _] => some (.int ks.length)
  | _ => none
def absD : List D → Option D
  | [.int i] => some (.int (if i < 0 then -i else i))
  | _ => none
def intD : List D → Option D
  | [.int i] => some (.int i)
  | [.bl b] => some (.int (if b then 1 else 0))
  | _ => none
def minD : List D → Option D
  | [.int i, .int j] => some (.int (if j < i then j else i))
  | _ => none
def maxD : List D → Option D
  | [.int i, .int j] => some (.int (if j > i then j else i))
  | _ => none
def strD : List D → Option D
  | [.int i] => if i.natAbs.log2 < 1920 then some (.str (toString i)) else none
  | _ => none
def listD : List D → Option D
  | [.lst _ l] => if fzL l then some (.lst true l) else none
  | [.tup l] => if fzL l then some (.lst true l) else none
  | [.scr l] => some (.lst true (l.map .int))
  | _ => none
def tupleD : List D → Option D
  | [.lst _ l] => if fzL l then some (.tup l) else none
  | [.tup l] => if fzL l then some (.tup l) else none
  | _ => none
def blsOf : List D → Option (List Bool)
  | [] => some []
  | .bl b :: l => (blsOf l).map (b :: ·)
  | _ => none
def allD : List D → Option D
  | [.lst _ l] => (blsOf l).map fun bs => .bl (bs.all id)
  | _ => none
def anyD : List D → Option D
  | [.lst _ l] => (blsOf l).map fun bs => .bl (bs.any id)
  | _ => none
def intsOf : List D → Option (List Int)
  | [] => some []
  | .int b :: l => (intsOf l).map (b :: ·)
  | _ => none
def sumD : List D → Option D
  | [.lst _ l] => (intsOf l).map fun bs => .int bs.sum
  | _ => none
theorem one_rep {P : D → V → Prop} {d : D} {xs : List V} (h : Paired P [d] xs) : ∃ v, xs = [v] ∧ P d v := by
  cases h with
  | cons h t => cases t; exact ⟨_, rfl, h⟩
theorem two_rep {P : D → V → Prop} {d e : D} {xs : List V} (h : Paired P [d, e] xs) : ∃ v u, xs = [v, u] ∧ P d v ∧ P e u := by
  cases h with
  | cons h t => cases t with
    | cons h2 t => cases t; exact ⟨_, _, rfl, h, h2⟩
theorem bls_rep {C : KM} {a : Wd} {r : Nat} {p : List Nat} : ∀ {l : List D} {n : Nat} {vs : List V} {bs : List Bool}, blsOf l = some bs → RepL C a r p n vs l → vs = bs.map V.bl
  | [], n, vs, bs, h, q => by simp only [RepL] at q; subst q; cases h; rfl
  | d :: l, n, vs, bs, h, q => by
    simp only [RepL] at q
    obtain ⟨v, us, rfl, q1, q2⟩ := q
    cases d <;> simp only [blsOf] at h <;> (try (cases h; done))
    case bl b =>
      cases hl : blsOf l with
      | none => rw [hl] at h; cases h
      | some cs =>
        rw [hl] at h
        cases h
        rw [rep_bl q1, bls_rep hl q2]; rfl
theorem ints_rep {C : KM} {a : Wd} {r : Nat} {p : List Nat} : ∀ {l : List D} {n : Nat} {vs : List V} {bs : List Int}, intsOf l = some bs → RepL C a r p n vs l → vs = bs.map V.int
  | [], n, vs, bs, h, q => by simp only [RepL] at q; subst q; cases h; rfl
  | d :: l, n, vs, bs, h, q => by
    simp only [RepL] at q
    obtain ⟨v, us, rfl, q1, q2⟩ := q
    cases d <;> simp only [intsOf] at h <;> (try (cases h; done))
    case int b =>
      cases hl : intsOf l with
      | none => rw [hl] at h; cases h
      | some cs =>
        rw [hl] at h
        cases h
        rw [rep_int q1, ints_rep hl q2]; rfl
section
variable {X : Cx} {C : KM} (hC : C.K = X.K)
include hC
theorem call_lenDD : CallR X (.builtin "len") (cD C lenD) := by
  intro pins s σ H xs us Q I r h
  obtain ⟨a, ds, d, rfl, k, ps, hd, q⟩ := h
  match ds, hd with
  | [d1], hd =>
    obtain ⟨v, rfl, r1, p1⟩ := one_rep ps
    cases d1 <;> simp only [lenD] at hd <;> (try (cases hd; done))
    case str z =>
      split at hd
      · rename_i hz; cases hd; cases rep_str p1
        exact call_len pins s σ a.H _ us Q I r ⟨_, _, rfl, ⟨hz, rfl⟩, q _ a (Grow.refl a) k (by simp [Rep])⟩
      · cases hd
    case lst o l =>
      cases hd
      obtain ⟨x1, vs, rfl, h1, h2⟩ := rep_lst k p1
      exact call_len pins s σ a.H _ us Q I r ⟨_, _, rfl, .inl ⟨vs, SqL.of h1, rfl⟩, q _ a (Grow.refl a) k (by simp [Rep, h2.len])⟩
    case tup l =>
      cases hd
      obtain ⟨x1, vs, rfl, h1, h2⟩ := rep_tup k p1
      rw [hC] at h1
      exact call_len pins s σ a.H _ us Q I r ⟨_, _, rfl, .inr ⟨vs, h1, rfl⟩, q _ a (Grow.refl a) k (by simp [Rep, h2.len])⟩
    case scr l =>
      cases hd
      obtain ⟨x1, rfl, h1⟩ := rep_scr k p1
      rw [hC] at h1
      exact call_len pins s σ a.H _ us Q I r ⟨_, _, rfl, .inl ⟨_, h1, rfl⟩, q _ a (Grow.refl a) k (by simp [Rep])⟩
    case dic o ks ws =>
      cases hd
      obtain ⟨x1, ho, kv, vs, rfl, h1, dc, f, hk1, hk2⟩ := rep_dic k p1
      cases dc with
      | dk kvs =>
        have hl : kvs.length = ks.length := by have := hk1.len; simpa using this
        exact call_lenD pins s σ a.H _ us Q I r ⟨x1, kvs, rfl, h1, q _ a (Grow.refl a) k (by simp [Rep, hl])⟩
  | [], hd => simp [lenD] at hd
  | _ :: _ :: _, hd => simp [lenD] at hd
omit hC in
theorem call_absD : CallR X (.builtin "abs") (cD C absD) := by
  intro pins s σ H xs us Q I r h
  obtain ⟨a, ds, d, rfl, k, ps, hd, q⟩ := h
  match ds, hd with
  | [.int i], hd =>
    obtain ⟨v, rfl, r1, p1⟩ := one_rep ps
    simp only [absD] at hd
    cases hd; cases rep_int p1
    exact call_abs pins s σ a.H _ us Q I r ⟨i, rfl, q _ a (Grow.refl a) k (by simp [Rep])⟩
omit hC in
theorem call_intD : CallR X (.type "int") (cD C intD) := by
  intro pins s σ H xs us Q I r h
  obtain ⟨a, ds, d, rfl, k, ps, hd, q⟩ := h
  match ds, hd with
  | [.int i], hd =>
    obtain ⟨v, rfl, r1, p1⟩ := one_rep ps
    simp only [intD] at hd
    cases hd; cases rep_int p1
    exact call_int1 pins s σ a.H _ us Q I r (.inl ⟨i, rfl, q _ a (Grow.refl a) k (by simp [Rep])⟩)
  | [.bl i], hd =>
    obtain ⟨v, rfl, r1, p1⟩ := one_rep ps
    simp only [intD] at hd
    cases hd; cases rep_bl p1
    exact call_int1 pins s σ a.H _ us Q I r (.inr ⟨i, rfl, q _ a (Grow.refl a) k (by simp [Rep])⟩)
omit hC in
theorem call_minD (hc : X.calm = true) : CallR X (.builtin "min") (cD C minD) := by
  intro pins s σ H xs us Q I r h
  obtain ⟨a, ds, d, rfl, k, ps, hd, q⟩ := h
  match ds, hd with
  | [.int i, .int j], hd =>
    obtain ⟨v, w, rfl, ⟨_, p1⟩, ⟨_, p2⟩⟩ := two_rep ps
    simp only [minD] at hd
    cases hd; cases rep_int p1; cases rep_int p2
    exact call_min2 hc pins s σ a.H _ us Q I r ⟨i, j, rfl, q _ a (Grow.refl a) k (by simp [Rep])⟩
omit hC in
theorem call_maxD (hc : X.calm = true) : CallR X (.builtin "max") (cD C maxD) := by
  intro pins s σ H xs us Q I r h
  obtain ⟨a, ds, d, rfl, k, ps, hd, q⟩ := h
  match ds, hd with
  | [.int i, .int j], hd =>
    obtain ⟨v, w, rfl, ⟨_, p1⟩, ⟨_, p2⟩⟩ := two_rep ps
    simp only [maxD] at hd
    cases hd; cases rep_int p1; cases rep_int p2
    exact call_max2 hc pins s σ a.H _ us Q I r ⟨i, j, rfl, q _ a (Grow.refl a) k (by simp [Rep])⟩
omit hC in
theorem call_strD : CallR X (.type "str") (cD C strD) := by
  intro pins s σ H xs us Q I r h
  obtain ⟨a, ds, d, rfl, k, ps, hd, q⟩ := h
  match ds, hd with
  | [.int i], hd =>
    obtain ⟨v, rfl, r1, p1⟩ := one_rep ps
    simp only [strD] at hd
    split at hd
    · rename_i hz; cases hd; cases rep_int p1
      exact call_str_int pins s σ a.H _ us Q I r ⟨i, rfl, hz, q _ a (Grow.refl a) k (by simp [Rep])⟩
    · cases hd
theorem call_listD : CallR X (.type "list") (cD C listD) := by
  intro pins s σ H xs us Q I r h
  obtain ⟨a, ds, d, rfl, k, ps, hd, q⟩ := h
  match ds, hd with
  | [.lst o l], hd =>
    obtain ⟨v, rfl, r1, p1⟩ := one_rep ps
    simp only [listD] at hd
    split at hd
    · rename_i hz; cases hd
      obtain ⟨x1, vs, rfl, h1, h2⟩ := rep_lst k p1
      exact call_list_of pins s σ a.H _ us Q I r ⟨x1, vs, rfl, .inl (SqL.of h1), new_lst k hz h2 q⟩
    · cases hd
  | [.tup l], hd =>
    obtain ⟨v, rfl, r1, p1⟩ := one_rep ps
    simp only [listD] at hd
    split at hd
    · rename_i hz; cases hd
      obtain ⟨x1, vs, rfl, h1, h2⟩ := rep_tup k p1
      rw [hC] at h1
      exact call_list_of pins s σ a.H _ us Q I r ⟨x1, vs, rfl, .inr h1, new_lst k hz h2 q⟩
    · cases hd
  | [.scr l], hd =>
    obtain ⟨v, rfl, r1, p1⟩ := one_rep ps
    simp only [listD] at hd
    cases hd
    obtain ⟨x1, rfl, h1⟩ := rep_scr k p1
    rw [hC] at h1
    exact call_list_of pins s σ a.H _ us Q I r ⟨x1, _, rfl, .inl h1, new_lst k (fzL_ints _) (repL_ints (r := 0) (p := []) _ 0) q⟩
theorem call_tupleD : CallR X (.type "tuple") (cD C tupleD) := by
  intro pins s σ H xs us Q I r h
  obtain ⟨a, ds, d, rfl, k, ps, hd, q⟩ := h
  match ds, hd with
  | [.lst o l], hd =>
    obtain ⟨v, rfl, r1, p1⟩ := one_rep ps
    simp only [tupleD] at hd
    split at hd
    · rename_i hz; cases hd
      obtain ⟨x1, vs, rfl, h1, h2⟩ := rep_lst k p1
      exact call_tupleX pins s σ a.H _ us Q I r ⟨x1, vs, rfl, SqL.of h1, new_tup k hz h2 q⟩
    · cases hd
  | [.tup l], hd =>
    obtain ⟨v, rfl, r1, p1⟩ := one_rep ps
    simp only [tupleD] at hd
    split at hd
    · rename_i hz; cases hd
      have p0 := p1.step (s := 0) (q := []) k (Step.refl a) (show fz (.tup l) = true by simpa [fz] using hz)
      obtain ⟨x1, vs, rfl, h1, h2⟩ := rep_tup k p1
      rw [hC] at h1
      exact call_tuple_of pins s σ a.H _ us Q I r ⟨x1, vs, rfl, .inr ⟨h1, q _ a (Grow.refl a) k p0⟩⟩
    · cases hd
omit hC in
theorem call_allD (hc : X.calm = true) : CallR X (.builtin "all") (cD C allD) := by
  intro pins s σ H xs us Q I r h
  obtain ⟨a, ds, d, rfl, k, ps, hd, q⟩ := h
  match ds, hd with
  | [.lst o l], hd =>
    obtain ⟨v, rfl, r1, p1⟩ := one_rep ps
    simp only [allD] at hd
    cases hb : blsOf l with
    | none => rw [hb] at hd; cases hd
    | some bs =>
      rw [hb] at hd; cases hd
      obtain ⟨x1, vs, rfl, h1, h2⟩ := rep_lst k p1
      have e := bls_rep hb h2
      subst e
      exact cr_all hc pins s σ a.H _ us Q I r ⟨x1, bs, rfl, SqL.of h1, q _ a (Grow.refl a) k (by simp [Rep])⟩
omit hC in
theorem call_anyD (hc : X.calm = true) : CallR X (.builtin "any") (cD C anyD) := by
  intro pins s σ H xs us Q I r h
  obtain ⟨a, ds, d, rfl, k, ps, hd, q⟩ := h
  match ds, hd with
  | [.lst o l], hd =>
    obtain ⟨v, rfl, r1, p1⟩ := one_rep ps
    simp only [anyD] at hd
    cases hb : blsOf l with
    | none => rw [hb] at hd; cases hd
    | some bs =>
      rw [hb] at hd; cases hd
      obtain ⟨x1, vs, rfl, h1, h2⟩ := rep_lst k p1
      have e := bls_rep hb h2
      subst e
      exact cr_any hc pins s σ a.H _ us Q I r ⟨x1, bs, rfl, SqL.of h1, q _ a (Grow.refl a) k (by simp [Rep])⟩
omit hC in
theorem call_sumD (hc : X.calm = true) : CallR X (.builtin "sum") (cD C sumD) := by
  intro pins s σ H xs us Q I r h
  obtain ⟨a, ds, d, rfl, k, ps, hd, q⟩ := h
  match ds, hd with
  | [.lst o l], hd =>
    obtain ⟨v, rfl, r1, p1⟩ := one_rep ps
    simp only [sumD] at hd
    cases hb : intsOf l with
    | none => rw [hb] at hd; cases hd
    | some bs =>
      rw [hb] at hd; cases hd
      obtain ⟨x1, vs, rfl, h1, h2⟩ := rep_lst k p1
      have e := ints_rep hb h2
      subst e
      exact cr_sum hc pins s σ a.H _ us Q I r ⟨x1, bs, rfl, SqL.of h1, q _ a (Grow.refl a) k (by simp [Rep])⟩
end
end Mi
namespace Mi
open PySem PySem.Spec PyProof.Rows L2

/-! ### statements' ends -/
inductive FlowD where
  | next | ret (d : D) | brk | cont
section
variable (G : Gm) (W : WX)
def PostS (D : Ends) (a : Wd) (r : Res (FlowD × EnvD)) : Prop :=
  match r with
  | .ok (.next, e) => ∀ b σ, Step a b → RelE G b σ e → D.nx σ b.H
  | .ok (.brk, e) => ∀ b σ, Step a b → RelE G b σ e → D.bk σ b.H
  | .ok (.cont, e) => ∀ b σ, Step a b → RelE G b σ e → D.ct σ b.H
  | .ok (.ret d, e) => ∀ b σ v, Step a b → RelE G b σ e → Rep G.C b 0 [] v d → D.rt v b.H
  | .exc x e => ∀ b σ cls dd, Step a b → RelE G b σ e → ExcRep G.C b x cls dd → W cls dd σ b.H
  | .bad => False
def tS (m : EM FlowD) : TS := fun D σ H => ∃ a env, a.H = H ∧ RelE G a σ env ∧ PostS G W D a (m env)
end
section
variable {G : Gm} {W : WX} {D : Ends} {a b : Wd} {σ : L2.St} {env : EnvD}
theorem PostS.step {r : Res (FlowD × EnvD)} (st : Step a b) (h : PostS G W D a r) : PostS G W D b r := by
  match r, h with
  | .ok (.next, e), h => exact fun c σ s => h c σ (st.trans s)
  | .ok (.brk, e), h => exact fun c σ s => h c σ (st.trans s)
  | .ok (.cont, e), h => exact fun c σ s => h c σ (st.trans s)
  | .ok (.ret d, e), h => exact fun c σ v s => h c σ v (st.trans s)
  | .exc x e, h => exact fun c σ cls dd s => h c σ cls dd (st.trans s)
  | .bad, h => exact h
/- an expression ahead of the rest of a statement -/
theorem PostS.ahead {α : Type} {m : Res (α × EnvD)} {k : α × EnvD → Res (FlowD × EnvD)} (h : PostS G W D a (m.bind k)) : PostR G W σ a m fun x e b => PostS G W D b (k (x, e)) := by
  cases m with
  | ok x => exact fun c s _ => PostS.step s h
  | exc x e => exact fun c cls dd s r q => h c σ cls dd s r q
  | bad => exact h
theorem tE_ofS {m : EM Mi.D} {k : Mi.D × EnvD → Res (FlowD × EnvD)} {R : VK} (rel : RelE G a σ env) (h : PostS G W D a ((m env).bind k))
    (hq : ∀ x e b v, Step a b → RelE G b σ e → Rep G.C b 0 [] v x → PostS G W D b (k (x, e)) → R v b.H) : tE G W m σ a.H R :=
  ⟨a, env, rfl, rel, h.ahead.imp fun x e b s r p v q => hq x e b v s r q p⟩
theorem tArg_ofS {m : EM Arg} {k : Arg × EnvD → Res (FlowD × EnvD)} {R : VK} (rel : RelE G a σ env) (h : PostS G W D a ((m env).bind k))
    (hq : ∀ x e b v, Step a b → RelE G b σ e → ArgRep G.C b σ x v → PostS G W D b (k (x, e)) → R v b.H) : tArg G W m σ a.H R :=
  ⟨a, env, rfl, rel, h.ahead.imp fun x e b s r p v q => hq x e b v s r q p⟩
theorem tArgs_ofS {m : EM (List Arg)} {k : List Arg × EnvD → Res (FlowD × EnvD)} {R : List V → Hp → Prop} (rel : RelE G a σ env) (h : PostS G W D a ((m env).bind k))
    (hq : ∀ x e b v, Step a b → RelE G b σ e → Paired (ArgRep G.C b σ) x v → PostS G W D b (k (x, e)) → R v b.H) : tArgs G W m σ a.H R :=
  ⟨a, env, rfl, rel, h.ahead.imp fun x e b s r p v q => hq x e b v s r q p⟩
theorem tT_ofS {m : EM Bool} {k : Bool × EnvD → Res (FlowD × EnvD)} {R : Bool → Hp → Prop} (rel : RelE G a σ env) (h : PostS G W D a ((m env).bind k))
    (hq : ∀ x e b, Step a b → RelE G b σ e → PostS G W D b (k (x, e)) → R x b.H) : tT G W m σ a.H R :=
  ⟨a, env, rfl, rel, h.ahead.imp fun x e b s r p => hq x e b s r p⟩
end
/- frozen data put into a slot -/
theorem RelE.setz {G : Gm} {a : Wd} {σ : L2.St} {env : EnvD} (r : RelE G a σ env) {i : Nat} {d : D} {v : V} {s : Nat} {p : List Nat} (hi : i ∉ G.io) (z : fz d = true) (h : Rep G.C a s p v d) : RelE G a (σ.set i (some v)) (env.set i (some d)) := by
  refine ⟨r.ok, by rw [List.length_set, List.length_set]; exact r.len, fun j e hj => ?_, fun j hj w hw => ?_⟩
  · by_cases ij : i = j
    · subst ij
      have hi : i < env.length := by
        by_cases q : i < env.length
        · exact q
        · rw [List.getElem?_eq_none (by rw [List.length_set]; omega)] at hj; cases hj
      rw [List.getElem?_set_self hi] at hj
      cases hj
      exact ⟨v, List.getElem?_set_self (by rw [← r.len]; exact hi), h.step r.ok (Step.refl a) z⟩
    · rw [List.getElem?_set_ne ij] at hj
      obtain ⟨v', e', q⟩ := r.slot j e hj
      exact ⟨v', by rw [List.getElem?_set_ne ij]; exact e', q⟩
  · have ne : i ≠ j := by rintro rfl; exact hi hj
    rw [List.getElem?_set_ne ne]
    exact r.prm j hj w hw
/- a temp put into a slot -/
theorem RelE.sett {G : Gm} {a : Wd} {σ : L2.St} {env : EnvD} (r : RelE G a σ env) {i : Nat} {d : D} {v : V} (hi : i ∉ G.io) (h : Rep G.C a 0 [] v d) : RelE G (mvW a 0 (i + 1)) (σ.set i (some v)) (env.set i (some d)) := by
  refine ⟨mvW_ok r.ok, by rw [List.length_set, List.length_set]; exact r.len, fun j e hj => ?_, fun j hj w hw => ?_⟩
  · by_cases ij : i = j
    · subst ij
      have hi : i < env.length := by
        by_cases q : i < env.length
        · exact q
        · rw [List.getElem?_eq_none (by rw [List.length_set]; omega)] at hj; cases hj
      rw [List.getElem?_set_self hi] at hj
      cases hj
      exact ⟨v, List.getElem?_set_self (by rw [← r.len]; exact hi), mvW_rep h⟩
    · rw [List.getElem?_set_ne ij] at hj
      obtain ⟨v', e', q⟩ := r.slot j e hj
      exact ⟨v', by rw [List.getElem?_set_ne ij]; exact e', mvW_else (Nat.succ_ne_zero j) q⟩
  · have ne : i ≠ j := by rintro rfl; exact hi hj
    rw [List.getElem?_set_ne ne]
    exact r.prm j hj w hw

/-! ### targets -/
inductive Tgt where
  | nm (i : Nat) | tp (ts : List Tgt)
mutual
def mTg : Tgt → D → EnvD → Option EnvD
  | .nm i, d, e => some (e.set i (some d))
  | .tp ts, .tup l, e => mTgs ts l e
  | .tp _, _, _ => none
def mTgs : List Tgt → List D → EnvD → Option EnvD
  | [], [], e => some e
  | t :: ts, d :: ds, e => match mTg t d e with
    | some e1 => mTgs ts ds e1
    | none => none
  | _, _, _ => none
end
mutual
def Tgt.off (io : List Nat) : Tgt → Prop
  | .nm i => i ∉ io
  | .tp ts => Tgt.offs io ts
def Tgt.offs (io : List Nat) : List Tgt → Prop
  | [] => True
  | t :: ts => Tgt.off io t ∧ Tgt.offs io ts
end
mutual
def gT (K : PySem.W.Frag) : Tgt → TG
  | .nm i => gName i
  | .tp ts => gTup K ts.length (gTs K ts)
def gTs (K : PySem.W.Frag) : List Tgt → TGs
  | [] => gNil
  | t :: ts => gCons (gT K t) (gTs K ts)
end
mutual
theorem tg_w {G : Gm} {a : Wd} : ∀ (t : Tgt) {σ : L2.St} {env env' : EnvD} {d : D} {v : V} {s : Nat} {p : List Nat} {Q : L2.St → Hp → Prop}, Tgt.off G.io t → RelE G a σ env → fz d = true → Rep G.C a s p v d → mTg t d env = some env' →
    (∀ σ', RelE G a σ' env' → Q σ' a.H) → gT G.C.K t v σ a.H Q
  | .nm i, σ, env, env', d, v, s, p, Q, hf, rel, z, h, e, q => by
    simp only [mTg] at e
    cases e
    simp only [gT]
    simp only [Tgt.off] at hf
    exact q _ (rel.setz hf z h)
  | .tp ts, σ, env, env', d, v, s, p, Q, hf, rel, z, h, e, q => by
    cases d <;> simp only [mTg] at e <;> (try (cases e; done))
    case tup l =>
      obtain ⟨x, vs, rfl, h1, h2⟩ := rep_tup rel.ok h
      simp only [gT]
      have z : fzL l = true := by simpa [fz] using z
      simp only [Tgt.off] at hf
      refine ⟨x, vs, rfl, h1, ?_, tgs_w ts hf rel z h2 e q⟩
      rw [h2.len]; exact (tgs_len ts l env env' e).symm
theorem tgs_w {G : Gm} {a : Wd} : ∀ (ts : List Tgt) {σ : L2.St} {env env' : EnvD} {l : List D} {vs : List V} {s n : Nat} {p : List Nat} {Q : L2.St → Hp → Prop}, Tgt.offs G.io ts → RelE G a σ env → fzL l = true → RepL G.C a s p n vs l → mTgs ts l env = some env' →
    (∀ σ', RelE G a σ' env' → Q σ' a.H) → gTs G.C.K ts vs σ a.H Q
  | [], σ, env, env', l, vs, s, n, p, Q, hf, rel, z, h, e, q => by
    cases l with
    | nil =>
      simp only [mTgs] at e
      cases e
      simp only [RepL] at h
      simp only [gTs]
      exact ⟨h, q σ rel⟩
    | cons d l => simp [mTgs] at e
  | t :: ts, σ, env, env', l, vs, s, n, p, Q, hf, rel, z, h, e, q => by
    cases l with
    | nil => simp [mTgs] at e
    | cons d l =>
      simp only [mTgs] at e
      simp only [fzL, Bool.and_eq_true] at z
      simp only [RepL] at h
      simp only [Tgt.offs] at hf
      obtain ⟨v, us, rfl, h1, h2⟩ := h
      cases e1 : mTg t d env with
      | none => rw [e1] at e; cases e
      | some e2 =>
        rw [e1] at e
        simp only [gTs]
        exact ⟨v, us, rfl, tg_w t hf.1 rel z.1 h1 e1 fun σ' rel' => tgs_w ts hf.2 rel' z.2 h2 e q⟩
theorem tgs_len : ∀ (ts : List Tgt) (l : List D) (e e' : EnvD), mTgs ts l e = some e' → ts.length = l.length
  | [], [], _, _, _ => rfl
  | [], _ :: _, _, _, h => by simp [mTgs] at h
  | _ :: _, [], _, _, h => by simp [mTgs] at h
  | t :: ts, d :: l, e, e', h => by
    simp only [mTgs] at h
    cases e1 : mTg t d e with
    | none => rw [e1] at h; cases h
    | some e2 => rw [e1] at h; rw [List.length_cons, List.length_cons, tgs_len ts l e2 e' h]
end

/-! ### what is walked -/
/- turn by turn the items ds -/
def ItRep (C : KM) (a : Wd) (ds : List D) (J : It) : Prop := ∀ c, Ok c → Step a c → (∀ i d, ds[i]? = some d → J.go i c.H ∧ ∀ x H', J.yld i c.H x H' → ∃ c', c'.H = H' ∧ Grow c c' ∧ Ok c' ∧ Rep C c' 0 [] x d) ∧ J.stop ds.length c.H
section
variable (G : Gm) (W : WX)
def tI (m : EM (List D)) : TI := fun σ H R => ∃ a env, a.H = H ∧ RelE G a σ env ∧ PostR G W σ a (m env) fun ds _ b => fzL ds = true ∧ ∀ J, ItRep G.C b ds J → R J b.H
end
theorem PI.weak {X : Cx} {tg e : Expr} {t u : TI} (h : PI X tg e t) (w : ∀ σ H R, u σ H R → t σ H R) : PI X tg e u := ⟨fun pins s σ H R I q => h.run pins s σ H R I (w σ H R q)⟩
/- range(..), of its bounds -/
def rngD (lo : Int) (n : Nat) : List D := (List.range n).map fun (i : Nat) => .int (lo + (i : Int))
def mIt (ma : EM (List Arg)) (f : List D → Option (List D)) : EM (List D) := fun env => (ma env).bind fun (xs, e) => match Arg.gets e xs with
  | some ds => match f ds with
    | some l => .ok (l, e)
    | none => .bad
  | none => .bad
def rng1 : List D → Option (List D)
  | [.int n] => if n < 2 ^ 62 ∧ -(2 ^ 62) ≤ n then some (rngD 0 n.toNat) else none
  | _ => none
def rng2 : List D → Option (List D)
  | [.int i, .int j] => if -(2 ^ 62) ≤ i ∧ i < 2 ^ 62 ∧ -(2 ^ 62) ≤ j ∧ j < 2 ^ 62 then some (rngD i (j - i).toNat) else none
  | _ => none
/- a list, a tuple, a text, frozen -/
def seqI : List D → Option (List D)
  | [.lst false l] => if fzL l then some l else none
  | [.tup l] => if fzL l then some l else none
  | [.scr l] => some (l.map .int)
  | [.str s] => some (s.cps.toList.map fun c => .str ⟨#[c]⟩)
  | _ => none
theorem fzL_map {α : Type} (f : α → D) (h : ∀ x, fz (f x) = true) (l : List α) : fzL (l.map f) = true := fzL_all fun d hd => by
  obtain ⟨x, _, rfl⟩ := List.mem_map.mp hd
  exact h x
theorem it_rng {C : KM} {a : Wd} (lo : Int) (n : Nat) : ItRep C a (rngD lo n) (Itr lo n) := fun c ok st => by
  refine ⟨fun i d e => ?_, by simp [rngD, Itr]⟩
  have hi : i < n := by have := (List.getElem?_eq_some_iff.mp e).1; simpa [rngD] using this
  refine ⟨hi, fun x H' y => ?_⟩
  obtain ⟨rfl, rfl⟩ := y
  have e2 : d = .int (lo + (i : Int)) := by
    rw [rngD, List.getElem?_map, List.getElem?_range hi] at e
    exact (Option.some.inj e).symm
  subst e2
  exact ⟨c, rfl, Grow.refl c, ok, by simp [Rep]⟩
theorem it_lst {C : KM} {a : Wd} {l : List D} {x : Addr} {vs : List V} {r n : Nat} {p : List Nat} (k : Ok a) (z : fzL l = true) (hx : a.F x = some (.lst vs)) (h : RepL C a r p n vs l) : ItRep C a l (Itl C.K x) := fun c ok st => by
  have hc : SqL C.K c.H x vs := SqL.of (ok.sub _ _ (st.f k hx))
  refine ⟨fun i d e => ?_, ⟨vs, hc, by rw [h.len]; exact Nat.le_refl _⟩⟩
  obtain ⟨v, h1, h2⟩ := h.get e
  refine ⟨⟨vs, v, hc, h1⟩, fun y H' q => ?_⟩
  obtain ⟨rfl, q⟩ := q
  have e2 := q vs hc
  rw [h1] at e2; cases e2
  exact ⟨c, rfl, Grow.refl c, ok, h2.step k st (fzL_mem z d (List.mem_of_getElem? e))⟩
theorem it_scr {C : KM} {a : Wd} {l : List Int} {x : Addr} (k : Ok a) (hx : SqL C.K a.F x (l.map V.int)) : ItRep C a (l.map .int) (Itl C.K x) := fun c ok st => by
  have hc : SqL C.K c.H x (l.map V.int) := sql_mono (fun y o h => ok.sub _ _ (st.f k h)) hx
  refine ⟨fun i d e => ?_, ⟨_, hc, by simp⟩⟩
  rw [List.getElem?_map] at e
  cases h1 : l[i]? with
  | none => rw [h1] at e; cases e
  | some z =>
    rw [h1] at e; cases e
    have h2 : (l.map V.int)[i]? = some (.int z) := by rw [List.getElem?_map, h1]; rfl
    refine ⟨⟨_, _, hc, h2⟩, fun y H' q => ?_⟩
    obtain ⟨rfl, q⟩ := q
    have e2 := q _ hc
    rw [h2] at e2; cases e2
    exact ⟨c, rfl, Grow.refl c, ok, by simp [Rep]⟩
theorem it_tup {C : KM} {a : Wd} {l : List D} {x : Addr} {vs : List V} {r n : Nat} {p : List Nat} (k : Ok a) (z : fzL l = true) (hx : SqT C.K a.F x vs) (h : RepL C a r p n vs l) : ItRep C a l (Itt C.K x) := fun c ok st => by
  have hc : SqT C.K c.H x vs := sqt_mono (fun y o h => ok.sub _ _ (st.f k h)) hx
  refine ⟨fun i d e => ?_, ⟨vs, hc, by rw [h.len]; exact Nat.le_refl _⟩⟩
  obtain ⟨v, h1, h2⟩ := h.get e
  refine ⟨⟨vs, v, hc, h1⟩, fun y H' q => ?_⟩
  obtain ⟨rfl, q⟩ := q
  have e2 := q vs hc
  rw [h1] at e2; cases e2
  exact ⟨c, rfl, Grow.refl c, ok, h2.step k st (fzL_mem z d (List.mem_of_getElem? e))⟩
theorem it_str {C : KM} {a : Wd} (s : Str) : ItRep C a (s.cps.toList.map fun c => .str ⟨#[c]⟩) (Its s) := fun c ok st => by
  refine ⟨fun i d e => ?_, by simp [Its]⟩
  rw [List.getElem?_map] at e
  cases h1 : s.cps.toList[i]? with
  | none => rw [h1] at e; cases e
  | some z =>
    rw [h1] at e; cases e
    have h2 : s.cps[i]? = some z := by simpa using h1
    refine ⟨(Array.getElem?_eq_some_iff.mp h2).1, fun y H' q => ?_⟩
    obtain ⟨rfl, c', q, rfl⟩ := q
    rw [h2] at q; cases q
    exact ⟨c, rfl, Grow.refl c, ok, by simp [Rep]⟩
section
variable {G : Gm} {W : WX} {σ : L2.St} {H : Hp} {R : It → Hp → Prop} {ma : EM (List Arg)}
theorem it_of {f : List D → Option (List D)} {S : List V → Hp → Prop} (h : tI G W (mIt ma f) σ H R)
    (hq : ∀ b ds vs l, Ok b → Paired (fun d v => ∃ r, Rep G.C b r [] v d) ds vs → f ds = some l → (∀ J, ItRep G.C b l J → R J b.H) → S vs b.H) : tArgs G W ma σ H S := by
  obtain ⟨a, env, rfl, rel, post⟩ := h
  refine ⟨a, env, rfl, rel, post.bind.imp fun xs e b s r p vs q => ?_⟩
  dsimp only at p
  cases hx : Arg.gets e xs with
  | none => rw [hx] at p; exact (show False from p).elim
  | some ds =>
    rw [hx] at p
    dsimp only at p
    cases hf : f ds with
    | none => rw [hf] at p; exact (show False from p).elim
    | some l =>
      rw [hf] at p
      exact hq b ds vs l r.ok (gets_rep r q hx) hf (p b (Step.refl b) r).2
theorem rng1_w (h : tI G W (mIt ma rng1) σ H R) : iRng1 (tArgs G W ma) σ H R := it_of h fun b ds vs l ok ps hf q => by
  match ds, hf with
  | [.int n], hf =>
    obtain ⟨v, rfl, r1, p1⟩ := one_rep ps
    cases rep_int p1
    simp only [rng1] at hf
    split at hf
    · rename_i hz; cases hf
      exact ⟨n, rfl, hz.2, hz.1, q _ (it_rng 0 n.toNat)⟩
    · cases hf
theorem rng2_w (h : tI G W (mIt ma rng2) σ H R) : iRng2 (tArgs G W ma) σ H R := it_of h fun b ds vs l ok ps hf q => by
  match ds, hf with
  | [.int n, .int m], hf =>
    obtain ⟨v, w, rfl, ⟨r1, p1⟩, ⟨r2, p2⟩⟩ := two_rep ps
    cases rep_int p1; cases rep_int p2
    simp only [rng2] at hf
    split at hf
    · rename_i hz; cases hf
      exact ⟨n, m, rfl, hz, q _ (it_rng n (m - n).toNat)⟩
    · cases hf
end
/- one value walked: list, tuple, text -/
def mIt1 (ma : EM Arg) : EM (List D) := fun env => (ma env).bind fun (x, e) => match x.get e with
  | some d => match seqI [d] with
    | some l => .ok (l, e)
    | none => .bad
  | none => .bad
theorem pi_or {X : Cx} {tg e : Expr} {t u : TI} (h : PI X tg e t) (g : PI X tg e u) : PI X tg e (fun σ H R => t σ H R ∨ u σ H R) := ⟨fun pins s σ H R I q => by
  rcases q with q | q
  · exact h.run pins s σ H R I q
  · exact g.run pins s σ H R I q⟩
theorem pe_or2 {X : Cx} {e : Expr} {t u : TE} (h : PE X e t) (g : PE X e u) : PE X e (fun σ H R => t σ H R ∨ u σ H R) := ⟨fun pins s σ H R I q => by
  rcases q with q | q
  · exact h.run pins s σ H R I q
  · exact g.run pins s σ H R I q⟩
theorem it1_w {G : Gm} {W : WX} {σ : L2.St} {H : Hp} {R : It → Hp → Prop} {ma : EM Arg} (h : tI G W (mIt1 ma) σ H R) :
    iList G.C.K (tArg G W ma) σ H R ∨ (iTup G.C.K (tArg G W ma) σ H R ∨ iStr (tArg G W ma) σ H R) := by
  obtain ⟨a, env, rfl, rel, post⟩ := h
  cases hm : ma env with
  | bad => unfold mIt1 at post; rw [hm] at post; exact (show False from post).elim
  | exc x e =>
    refine .inl ⟨a, env, rfl, rel, ?_⟩
    rw [hm]
    have post' := post
    unfold mIt1 at post'
    rw [hm] at post'
    exact post'
  | ok xe =>
    obtain ⟨x, e⟩ := xe
    have post' := post
    unfold mIt1 at post'
    rw [hm] at post'
    dsimp only [Res.bind] at post'
    cases hx : x.get e with
    | none => rw [hx] at post'; exact (show False from post').elim
    | some d =>
      rw [hx] at post'
      dsimp only at post'
      have mk : ∀ {S : VK}, (∀ b v, Step a b → RelE G b σ e → ArgRep G.C b σ x v → S v b.H) → tArg G W ma σ a.H S := fun {S} q => ⟨a, env, rfl, rel, by rw [hm]; exact fun b s r v ar => q b v s r ar⟩
      cases d <;> simp only [seqI] at post' <;> (try exact (show False from post').elim)
      case str z =>
        refine .inr (.inr (mk fun b v s r ar => ?_))
        obtain ⟨r1, p1⟩ := ar.rep r hx
        cases rep_str p1
        exact ⟨z, rfl, (post' b s r).2 _ (it_str z)⟩
      case scr l =>
        refine .inl (mk fun b v s r ar => ?_)
        obtain ⟨r1, p1⟩ := ar.rep r hx
        have p1' := p1
        simp only [Rep] at p1'
        obtain ⟨y, rfl, hy⟩ := p1'
        exact ⟨y, rfl, ⟨_, sql_mono r.ok.sub hy⟩, (post' b s r).2 _ (it_scr r.ok hy)⟩
      case tup l =>
        split at post'
        · rename_i z hz
          split at hz
          · rename_i fl; cases hz
            refine .inr (.inl (mk fun b v s r ar => ?_))
            obtain ⟨r1, p1⟩ := ar.rep r hx
            have p1' := p1
            simp only [Rep] at p1'
            obtain ⟨y, vs, rfl, hy, hl⟩ := p1'
            exact ⟨y, rfl, ⟨_, sqt_mono r.ok.sub hy.sq⟩, (post' b s r).2 _ (it_tup r.ok fl hy.sq hl)⟩
          · cases hz
        · exact (show False from post').elim
      case lst o l =>
        cases o with
        | true => simp only [seqI] at post'; exact (show False from post').elim
        | false =>
          simp only [seqI] at post'
          split at post'
          · rename_i z hz
            split at hz
            · rename_i fl; cases hz
              refine .inl (mk fun b v s r ar => ?_)
              obtain ⟨r1, p1⟩ := ar.rep r hx
              have p1' := p1
              simp only [Rep] at p1'
              obtain ⟨y, vs, rfl, hy, hl⟩ := p1'
              rw [if_neg Bool.false_ne_true] at hy
              exact ⟨y, rfl, ⟨_, SqL.of (r.ok.sub _ _ hy.1)⟩, (post' b s r).2 _ (it_lst r.ok fl hy.1 hl)⟩
            · cases hz
          · exact (show False from post').elim
end Mi
namespace Mi
open PySem PySem.Spec PyProof.Rows L2

/-! ### displays -/
theorem paired_repL {C : KM} {a : Wd} : ∀ {ds : List D} {vs : List V} {n : Nat}, fzL ds = true → Paired (fun d v => ∃ r, Rep C a r [] v d) ds vs → RepL C a 0 [] n vs ds
  | _, _, n, _, .nil => by simp [RepL]
  | d :: ds, v :: vs, n, z, .cons h t => by
    simp only [fzL, Bool.and_eq_true] at z
    obtain ⟨r, h⟩ := h
    exact ⟨v, vs, rfl, Rep.fz (fun _ _ e => e) d _ _ v z.1 h, paired_repL z.2 t⟩
def mTup (ma : EM (List Arg)) : EM D := fun env => (ma env).bind fun (xs, e) => match Arg.gets e xs with
  | some ds => if fzL ds = true ∧ ds.length ≤ 1000 then .ok (.tup ds, e) else .bad
  | none => .bad
def mLst (ma : EM (List Arg)) : EM D := fun env => (ma env).bind fun (xs, e) => match Arg.gets e xs with
  | some ds => if fzL ds = true ∧ ds.length ≤ 1000 then .ok (.lst true ds, e) else .bad
  | none => .bad
theorem sz1000 {n : Nat} (h : n ≤ 1000) : n ≤ sizeLine := Nat.le_of_lt (small1000 h)
theorem plen {α β : Type} {P : α → β → Prop} : ∀ {l : List α} {m : List β}, Paired P l m → l.length = m.length
  | _, _, .nil => rfl
  | _, _, .cons _ t => by rw [List.length_cons, List.length_cons, plen t]
section
variable {G : Gm} {W : WX} {σ : L2.St} {H : Hp} {Q : VK} {ma : EM (List Arg)}
theorem tup_w (h : tE G W (mTup ma) σ H Q) : tTupX (tArgs G W ma) σ H Q := by
  obtain ⟨a, env, rfl, rel, post⟩ := h
  refine tArgs_of rel post fun xs e b vs s r ps p => ?_
  dsimp only at p
  cases hx : Arg.gets e xs with
  | none => rw [hx] at p; exact (show False from p).elim
  | some ds =>
    rw [hx] at p
    dsimp only at p
    split at p
    · rename_i z
      have g := gets_rep r ps hx
      refine ⟨by rw [← plen g]; exact sz1000 z.2, new_tup r.ok z.1 (paired_repL (n := 0) z.1 g) fun y c gr ok rp => p c gr.step (r.grow gr ok) y rp⟩
    · exact (show False from p).elim
theorem lst_w (h : tE G W (mLst ma) σ H Q) : tLst (tArgs G W ma) σ H Q := by
  obtain ⟨a, env, rfl, rel, post⟩ := h
  refine tArgs_of rel post fun xs e b vs s r ps p => ?_
  dsimp only at p
  cases hx : Arg.gets e xs with
  | none => rw [hx] at p; exact (show False from p).elim
  | some ds =>
    rw [hx] at p
    dsimp only at p
    split at p
    · rename_i z
      have g := gets_rep r ps hx
      refine ⟨by rw [← plen g]; exact sz1000 z.2, new_lst r.ok z.1 (paired_repL (n := 0) z.1 g) fun y c gr ok rp => p c gr.step (r.grow gr ok) y rp⟩
    · exact (show False from p).elim
/- {} -/
def mDic0 : EM D := fun env => .ok (.dic true [] [], env)
theorem dic0_w (h : tE G W mDic0 σ H Q) : tDNewK σ H Q := by
  obtain ⟨a, env, rfl, rel, post⟩ := h
  exact new_dic (kvs := []) rel.ok rfl rfl (r := 0) (p := []) (by simp [RepL]) (by simp [RepL]) fun y c gr ok rp => post c gr.step (rel.grow gr ok) y rp
end

/-! ### calls of defs -/
def OutRep (C : KM) (b : Wd) (vs : List V) (outs : EnvD) : Prop := ∀ i d, outs[i]? = some (some d) → ∃ v, vs[i]? = some v ∧ Rep C b (i + 1) [] v d
def spD (C : KM) (g : List D → Res (D × EnvD)) : Sp := fun vs H Q E => ∃ (a : Wd) (ds : List D), a.H = H ∧ Ok a ∧ ds.length = vs.length ∧ (∀ i d, ds[i]? = some d → ∃ v, vs[i]? = some v ∧ Rep C a (i + 1) [] v d) ∧
  match g ds with
  | .ok (d, outs) => ∀ b v, Step a b → Ok b → OutRep C b vs outs → Rep C b 0 [] v d → Q v b.H
  | .exc x outs => ∀ b cls dd, Step a b → Ok b → OutRep C b vs outs → ExcRep C b x cls dd → E cls dd b.H
  | .bad => False
def findP : List Arg → List D → Nat → Nat → Option Nat
  | .var i :: xs, d :: ds, s, k => if i + 1 = s ∧ fz d = false then some (k + 1) else findP xs ds s (k + 1)
  | .val _ :: xs, _ :: ds, s, k => findP xs ds s (k + 1)
  | _, _, _, _ => none
def ownVars : List Arg → List D → List Nat
  | .var i :: xs, d :: ds => if fz d = false then i :: ownVars xs ds else ownVars xs ds
  | .val _ :: xs, _ :: ds => ownVars xs ds
  | _, _ => []
def backP (xs : List Arg) (ds : List D) (k : Nat) : Option Nat := match xs[k]?, ds[k]? with
  | some (.var i), some d => if fz d = false then some (i + 1) else none
  | _, _ => none
def putBack : List Arg → List D → EnvD → EnvD → EnvD
  | .var i :: xs, d :: ds, outs, env => if fz d = true then putBack xs ds outs.tail env else putBack xs ds outs.tail (env.set i (outs.headD none))
  | .val _ :: xs, _ :: ds, outs, env => putBack xs ds outs.tail env
  | _, _, _, env => env
def mCallR (g : List D → Res (D × EnvD)) (xs : List Arg) (e : EnvD) : Res (D × EnvD) := match Arg.gets e xs with
  | none => .bad
  | some ds => if (ownVars xs ds).Nodup then
      match g ds with
      | .ok (d, outs) => .ok (d, putBack xs ds outs e)
      | .exc x outs => .exc x (putBack xs ds outs e)
      | .bad => .bad
    else .bad
def mCall (g : List D → Res (D × EnvD)) (ma : EM (List Arg)) : EM D := fun env => (ma env).bind fun (xs, e) => mCallR g xs e
theorem findP_some : ∀ {xs : List Arg} {ds : List D} {s k m : Nat}, findP xs ds s k = some m → ∃ j i d, m = k + j + 1 ∧ xs[j]? = some (.var i) ∧ ds[j]? = some d ∧ fz d = false ∧ s = i + 1
  | .var i :: xs, d :: ds, s, k, m, h => by
    simp only [findP] at h
    split at h
    · rename_i z; cases h
      exact ⟨0, i, d, rfl, rfl, rfl, z.2, z.1.symm⟩
    · obtain ⟨j, i', d', h1, h2, h3, h4, h5⟩ := findP_some h
      exact ⟨j + 1, i', d', by omega, by simpa using h2, by simpa using h3, h4, h5⟩
  | .val _ :: xs, _ :: ds, s, k, m, h => by
    simp only [findP] at h
    obtain ⟨j, i', d', h1, h2, h3, h4, h5⟩ := findP_some h
    exact ⟨j + 1, i', d', by omega, by simpa using h2, by simpa using h3, h4, h5⟩
  | [], _, s, k, m, h => by simp [findP] at h
  | .var _ :: _, [], s, k, m, h => by simp [findP] at h
  | .val _ :: _, [], s, k, m, h => by simp [findP] at h
theorem ownVars_mem : ∀ {xs : List Arg} {ds : List D} {j i : Nat} {d : D}, xs[j]? = some (.var i) → ds[j]? = some d → fz d = false → i ∈ ownVars xs ds
  | x :: xs, e :: ds, 0, i, d, h1, h2, h3 => by
    simp at h1 h2; subst h1 h2
    simp [ownVars, h3]
  | .var i' :: xs, e :: ds, j + 1, i, d, h1, h2, h3 => by
    simp only [ownVars]
    have ih := ownVars_mem (xs := xs) (ds := ds) (j := j) (by simpa using h1) (by simpa using h2) h3
    split
    · exact List.mem_cons_of_mem _ ih
    · exact ih
  | .val _ :: xs, e :: ds, j + 1, i, d, h1, h2, h3 => by
    simp only [ownVars]
    exact ownVars_mem (xs := xs) (ds := ds) (j := j) (by simpa using h1) (by simpa using h2) h3
  | [], _, j, i, d, h1, h2, h3 => by simp at h1
  | _ :: _, [], j, i, d, h1, h2, h3 => by simp at h2
theorem findP_at : ∀ {xs : List Arg} {ds : List D} {j i k : Nat} {d : D}, (ownVars xs ds).Nodup → xs[j]? = some (.var i) → ds[j]? = some d → fz d = false → findP xs ds (i + 1) k = some (k + j + 1)
  | .var i' :: xs, e :: ds, 0, i, k, d, nd, h1, h2, h3 => by
    simp at h1 h2; subst h1 h2
    simp [findP, h3]
  | .val _ :: xs, e :: ds, 0, i, k, d, nd, h1, h2, h3 => by simp at h1
  | .var i' :: xs, e :: ds, j + 1, i, k, d, nd, h1, h2, h3 => by
    simp only [findP]
    have h1 : xs[j]? = some (.var i) := by simpa using h1
    have h2 : ds[j]? = some d := by simpa using h2
    have hm := ownVars_mem h1 h2 h3
    rw [if_neg (fun z => by
      have e1 : i' = i := Nat.succ.inj z.1
      subst e1
      simp only [ownVars, if_pos z.2] at nd
      exact (List.nodup_cons.mp nd).1 hm)]
    have nd' : (ownVars xs ds).Nodup := by
      simp only [ownVars] at nd
      split at nd
      · exact (List.nodup_cons.mp nd).2
      · exact nd
    rw [findP_at (k := k + 1) nd' h1 h2 h3]
    congr 1; omega
  | .val _ :: xs, e :: ds, j + 1, i, k, d, nd, h1, h2, h3 => by
    simp only [findP]
    simp only [ownVars] at nd
    rw [findP_at (k := k + 1) nd (by simpa using h1) (by simpa using h2) h3]
    congr 1; omega
  | [], _, j, i, k, d, nd, h1, h2, h3 => by simp at h1
  | _ :: _, [], j, i, k, d, nd, h1, h2, h3 => by simp at h2
theorem putBack_len : ∀ (xs : List Arg) (ds : List D) (outs env : EnvD), (putBack xs ds outs env).length = env.length
  | .var i :: xs, d :: ds, outs, env => by
    simp only [putBack]
    split
    · exact putBack_len xs ds _ env
    · rw [putBack_len xs ds _ _, List.length_set]
  | .val _ :: xs, _ :: ds, outs, env => by simp only [putBack]; exact putBack_len xs ds _ env
  | [], _, outs, env => by simp [putBack]
  | .var _ :: _, [], outs, env => by simp [putBack]
  | .val _ :: _, [], outs, env => by simp [putBack]
theorem putBack_at : ∀ {xs : List Arg} {ds : List D} {outs env : EnvD} {j : Nat} {d' : D}, (putBack xs ds outs env)[j]? = some (some d') →
    (∃ (k : Nat) (d : D), xs[k]? = some (.var j) ∧ ds[k]? = some d ∧ fz d = false ∧ outs[k]? = some (some d')) ∨ (env[j]? = some (some d') ∧ ∀ (k : Nat) (d : D), xs[k]? = some (.var j) → ds[k]? = some d → fz d = true)
  | .var i :: xs, d :: ds, outs, env, j, d', h => by
    simp only [putBack] at h
    split at h
    · rename_i z
      rcases putBack_at h with ⟨k, e, h1, h2, h3, h4⟩ | ⟨h1, h2⟩
      · refine .inl ⟨k + 1, e, by simpa using h1, by simpa using h2, h3, ?_⟩
        cases outs with
        | nil => simp at h4
        | cons o outs => simpa using h4
      · refine .inr ⟨h1, fun k e g1 g2 => ?_⟩
        cases k with
        | zero => simp at g2; subst g2; exact z
        | succ k => exact h2 k e (by simpa using g1) (by simpa using g2)
    · rename_i z
      rcases putBack_at h with ⟨k, e, h1, h2, h3, h4⟩ | ⟨h1, h2⟩
      · refine .inl ⟨k + 1, e, by simpa using h1, by simpa using h2, h3, ?_⟩
        cases outs with
        | nil => simp at h4
        | cons o outs => simpa using h4
      · by_cases ij : i = j
        · subst ij
          by_cases hl : i < env.length
          · rw [List.getElem?_set_self hl] at h1
            refine .inl ⟨0, d, rfl, rfl, by simpa using z, ?_⟩
            cases outs with
            | nil => simp at h1
            | cons o outs => simpa using h1
          · rw [List.getElem?_eq_none (by rw [List.length_set]; omega)] at h1; cases h1
        · rw [List.getElem?_set_ne ij] at h1
          refine .inr ⟨h1, fun k e g1 g2 => ?_⟩
          cases k with
          | zero => simp at g1; exact absurd g1 ij
          | succ k => exact h2 k e (by simpa using g1) (by simpa using g2)
  | .val _ :: xs, d :: ds, outs, env, j, d', h => by
    simp only [putBack] at h
    rcases putBack_at h with ⟨k, e, h1, h2, h3, h4⟩ | ⟨h1, h2⟩
    · refine .inl ⟨k + 1, e, by simpa using h1, by simpa using h2, h3, ?_⟩
      cases outs with
      | nil => simp at h4
      | cons o outs => simpa using h4
    · refine .inr ⟨h1, fun k e g1 g2 => ?_⟩
      cases k with
      | zero => simp at g1
      | succ k => exact h2 k e (by simpa using g1) (by simpa using g2)
  | [], _, outs, env, j, d', h => .inr ⟨by simpa [putBack] using h, fun k e g1 g2 => by simp at g1⟩
  | .var _ :: _, [], outs, env, j, d', h => .inr ⟨by simpa [putBack] using h, fun k e g1 g2 => by simp at g2⟩
  | .val _ :: _, [], outs, env, j, d', h => .inr ⟨by simpa [putBack] using h, fun k e g1 g2 => by simp at g2⟩
theorem gets_at {env : EnvD} : ∀ {xs : List Arg} {ds : List D} {j : Nat} {d : D}, Arg.gets env xs = some ds → ds[j]? = some d → ∃ x, xs[j]? = some x ∧ x.get env = some d
  | [], ds, j, d, h, e => by cases h; simp at e
  | x :: xs, ds, j, d, h, e => by
    simp only [Arg.gets] at h
    cases hx : x.get env with
    | none => simp [hx] at h
    | some d1 =>
      cases hr : Arg.gets env xs with
      | none => simp [hx, hr] at h
      | some dr =>
        simp [hx, hr] at h
        subst h
        cases j with
        | zero => simp at e; subst e; exact ⟨x, rfl, hx⟩
        | succ j =>
          obtain ⟨y, h1, h2⟩ := gets_at hr (by simpa using e)
          exact ⟨y, by simpa using h1, h2⟩
theorem gets_len {env : EnvD} : ∀ {xs : List Arg} {ds : List D}, Arg.gets env xs = some ds → ds.length = xs.length
  | [], ds, h => by cases h; rfl
  | x :: xs, ds, h => by
    simp only [Arg.gets] at h
    cases hx : x.get env with
    | none => simp [hx] at h
    | some d1 =>
      cases hr : Arg.gets env xs with
      | none => simp [hx, hr] at h
      | some dr =>
        simp [hx, hr] at h
        subst h
        rw [List.length_cons, List.length_cons, gets_len hr]
theorem pat {α β : Type} {P : α → β → Prop} : ∀ {l : List α} {m : List β} {j : Nat} {x : α}, Paired P l m → l[j]? = some x → ∃ y, m[j]? = some y ∧ P x y
  | _, _, j, x, .nil, e => by simp at e
  | _, _, 0, x, .cons h t, e => by simp at e; subst e; exact ⟨_, rfl, h⟩
  | _, _, j + 1, x, .cons h t, e => by
    obtain ⟨y, h1, h2⟩ := pat (j := j) t (by simpa using e)
    exact ⟨y, by simpa using h1, h2⟩
/- the callee's world; the caller's behind it -/
def inT (xs : List Arg) (ds : List D) : Option Tag → Option Tag
  | some (s, q) => (findP xs ds s 0).map fun m => (m, q)
  | none => none
def restT (xs : List Arg) (ds : List D) : Option Tag → Option Tag
  | some (s, q) => match findP xs ds s 0 with
    | some _ => none
    | none => some (s, q)
  | none => none
def outT (xs : List Arg) (ds : List D) (old : Option Tag) : Option Tag → Option Tag
  | some (0, q) => some (0, q)
  | some (k + 1, q) => (backP xs ds k).map fun s => (s, q)
  | none => restT xs ds old
def inW (a : Wd) (xs : List Arg) (ds : List D) : Wd := ⟨a.F, a.H, fun x => inT xs ds (a.t x)⟩
def outW (a b : Wd) (xs : List Arg) (ds : List D) : Wd := ⟨b.F, b.H, fun x => outT xs ds (a.t x) (b.t x)⟩
theorem inW_t {a : Wd} {xs : List Arg} {ds : List D} {x : Addr} : (inW a xs ds).t x = inT xs ds (a.t x) := rfl
theorem outW_t {a b : Wd} {xs : List Arg} {ds : List D} {x : Addr} : (outW a b xs ds).t x = outT xs ds (a.t x) (b.t x) := rfl
section
variable {G : Gm} {a b : Wd} {σ : L2.St} {env : EnvD} {xs : List Arg} {ds : List D} {vs : List V}
theorem inW_ok (k : Ok a) : Ok (inW a xs ds) := by
  refine ⟨k.sub, fun x t h => ?_⟩
  rw [inW_t] at h
  cases e : a.t x with
  | none => rw [e] at h; cases h
  | some tt => exact k.own x _ e
theorem inW_rep (rel : RelE G a σ env) (nd : (ownVars xs ds).Nodup) (ps : Paired (ArgRep G.C a σ) xs vs) (hg : Arg.gets env xs = some ds) : ∀ i d, ds[i]? = some d → ∃ v, vs[i]? = some v ∧ Rep G.C (inW a xs ds) (i + 1) [] v d := fun i d hd => by
  obtain ⟨x, hx, hget⟩ := gets_at hg hd
  obtain ⟨v, hv, ar⟩ := pat ps hx
  refine ⟨v, hv, ?_⟩
  cases z : fz d with
  | true =>
    obtain ⟨r, rp⟩ := ar.rep rel hget
    exact Rep.fz (a := a) (b := inW a xs ds) (fun _ _ e => e) d [] [] v z rp
  | false =>
    cases x with
    | val d' => cases hget; rw [ar.1] at z; cases z
    | var j =>
      have hget : (match env[j]? with | some (some d) => some d | _ => none) = some d := hget
      split at hget
      · rename_i d' q
        cases hget
        obtain ⟨v', h1, rp⟩ := rel.slot j d q
        have ar : σ[j]? = some (some v) := ar
        rw [ar] at h1; cases h1
        have e := findP_at (k := 0) nd hx hd z
        have := Rep.to (C := G.C) (a := a) (b := inW a xs ds) (r := j + 1) (s := i + 1) (p := []) (q := []) (fun _ _ h => h) (fun y z' o h1 h2 => ⟨by
          rw [inW_t, h1]
          show (findP xs ds (j + 1) 0).map _ = _
          rw [e]; simp, h2⟩) d [] v
        exact this rp
      · cases hget
theorem outW_step (st : Step (inW a xs ds) b) (k : Ok b) : Step a (outW a b xs ds) := fun x o h t => by
  have ti : (inW a xs ds).t x = none := by rw [inW_t, t]; rfl
  obtain ⟨h1, h2, h3⟩ := st x o h ti
  refine ⟨h1, ?_, h3⟩
  rw [outW_t, h2, t]; rfl
theorem outW_ok (ka : Ok a) (st : Step (inW a xs ds) b) (k : Ok b) : Ok (outW a b xs ds) := by
  refine ⟨k.sub, fun x t h => ?_⟩
  rw [outW_t] at h
  cases e : b.t x with
  | some tt => exact k.own x tt e
  | none =>
    rw [e] at h
    cases e2 : a.t x with
    | none => rw [e2] at h; cases h
    | some sq =>
      obtain ⟨s, q⟩ := sq
      cases e3 : findP xs ds s 0 with
      | some m => rw [e2] at h; simp [outT, restT, e3] at h
      | none =>
        obtain ⟨f, o, ho⟩ := ka.own x _ e2
        have ti : (inW a xs ds).t x = none := by rw [inW_t, e2]; simp [inT, e3]
        obtain ⟨h1, h2, h3⟩ := st x o ho ti
        exact ⟨h3.trans f, o, h1⟩
theorem outW_rel (rel : RelE G a σ env) (nd : (ownVars xs ds).Nodup) (ps : Paired (ArgRep G.C a σ) xs vs) (hg : Arg.gets env xs = some ds) (st : Step (inW a xs ds) b) (k : Ok b) {outs : EnvD} (ho : OutRep G.C b vs outs) :
    RelE G (outW a b xs ds) σ (putBack xs ds outs env) := by
  refine ⟨outW_ok rel.ok st k, by rw [putBack_len]; exact rel.len, fun j d' hj => ?_, rel.prm⟩
  rcases putBack_at hj with ⟨i, d, h1, h2, h3, h4⟩ | ⟨h1, h2⟩
  · obtain ⟨v, hv, rp⟩ := ho i d' h4
    obtain ⟨v', hv', ar⟩ := pat ps h1
    rw [hv] at hv'; cases hv'
    refine ⟨v, ar, ?_⟩
    have hb : backP xs ds i = some (j + 1) := by unfold backP; rw [h1, h2]; simp [h3]
    have := Rep.to (C := G.C) (a := b) (b := outW a b xs ds) (r := i + 1) (s := j + 1) (p := []) (q := []) (fun _ _ h => h) (fun y z' o g1 g2 => ⟨by
      rw [outW_t, g1]
      show (backP xs ds i).map _ = _
      rw [hb]; rfl, g2⟩) d' [] v
    exact this rp
  · obtain ⟨v, hv, rp⟩ := rel.slot j d' h1
    refine ⟨v, hv, ?_⟩
    have hf : ∀ y o, a.F y = some o → (outW a b xs ds).F y = some o := fun y o h => by
      have ti : (inW a xs ds).t y = none := by rw [inW_t, rel.ok.tn h]; rfl
      exact ((st y o (rel.ok.sub y o h) ti).2.2).trans h
    cases z : fz d' with
    | true => exact Rep.fz hf d' [] [] v z rp
    | false =>
      have np : findP xs ds (j + 1) 0 = none := by
        cases e : findP xs ds (j + 1) 0 with
        | none => rfl
        | some m =>
          obtain ⟨j', i', d2, g1, g2, g3, g4, g5⟩ := findP_some e
          have e2 : i' = j := (Nat.succ.inj g5).symm
          subst e2
          rw [h2 j' d2 g2 g3] at g4; cases g4
      have := Rep.to (C := G.C) (a := a) (b := outW a b xs ds) (r := j + 1) (s := j + 1) (p := []) (q := []) hf (fun y z' o g1 g2 => by
        have ti : (inW a xs ds).t y = none := by rw [inW_t, g1]; simp [inT, np]
        obtain ⟨k1, k2, k3⟩ := st y o g2 ti
        refine ⟨?_, k1⟩
        rw [outW_t, k2, g1]; simp [outT, restT, np]) d' [] v
      exact this rp
theorem outW_res {C : KM} {d : D} {v : V} (rp : Rep C b 0 [] v d) : Rep C (outW a b xs ds) 0 [] v d := by
  have := Rep.to (C := C) (a := b) (b := outW a b xs ds) (r := 0) (s := 0) (p := []) (q := []) (fun _ _ h => h) (fun y z' o g1 g2 => ⟨by
    rw [outW_t, g1]; rfl, g2⟩) d [] v
  exact this rp
theorem outW_exc {C : KM} {x : Exc} {cls : Value} {dd : Option Addr} (h : ExcRep C b x cls dd) : ExcRep C (outW a b xs ds) x cls dd := by
  obtain ⟨h1, h2⟩ := h
  refine ⟨h1, ?_⟩
  rcases h2 with h2 | ⟨u, ws, e, f, l, z, rp⟩
  · exact .inl h2
  · exact .inr ⟨u, ws, e, f, l, z, RepL.fz (a := b) (b := outW a b xs ds) (fun _ _ h => h) x.ws [] [] 0 ws z rp⟩
end
/- the promise, from the caller's side -/
theorem call_sp {G : Gm} {W : WX} {σ : L2.St} {a : Wd} {env : EnvD} {xs : List Arg} {vs : List V} {g : List D → Res (D × EnvD)} {Q : VK} (rel : RelE G a σ env) (ps : Paired (ArgRep G.C a σ) xs vs)
    (post : PostR G W σ a (mCallR g xs env) fun d _ b => ∀ v, Rep G.C b 0 [] v d → Q v b.H) : spD G.C g vs a.H Q (fun cls dd H' => W cls dd σ H') := by
  unfold mCallR at post
  cases hg : Arg.gets env xs with
  | none => rw [hg] at post; exact (show False from post).elim
  | some ds =>
    rw [hg] at post
    dsimp only at post
    split at post
    · rename_i nd
      refine ⟨inW a xs ds, ds, rfl, inW_ok rel.ok, (gets_len hg).trans (plen ps), inW_rep rel nd ps hg, ?_⟩
      cases hr : g ds with
      | bad => rw [hr] at post; exact (show False from post).elim
      | ok do_ =>
        obtain ⟨d, outs⟩ := do_
        rw [hr] at post
        dsimp only
        exact fun b v st k ho rp => post (outW a b xs ds) (outW_step st k) (outW_rel rel nd ps hg st k ho) v (outW_res rp)
      | exc x outs =>
        rw [hr] at post
        dsimp only
        exact fun b cls dd st k ho er => post (outW a b xs ds) cls dd (outW_step st k) (outW_rel rel nd ps hg st k ho) (outW_exc er)
    · exact (show False from post).elim
/- a def (or class) that may be called from X -/
def CallOk (C : KM) (X : Cx) (g : List D → Res (D × EnvD)) (u : Value) : Prop := ∀ (W : WX), Takes X W → ∀ (pins : List (Addr × Obj)) (s : Shared) (σ : L2.St) (H : Hp) (us : List Value) (vs : List V) (Q : VK), L2.Inv X pins σ H s → Vals vs us →
  spD C g vs H Q (fun cls dd H' => W cls dd σ H') → wpAny (model X.prog X.w) X.A (call u us) (EP X pins σ Q) X.xe s
theorem pe_callD {X : Cx} {G : Gm} {W : WX} {g : List D → Res (D × EnvD)} {f : Addr} {x : Str} {p pos : Pos} {e : Expr} {es : List Expr} {ma : EM (List Arg)} (co : CallOk G.C X g (.ref f)) (tk : Takes X W) (hg : Gl X x) (hm : X.mg x = some (.ref f)) (hk : PySem.W.keepIn X.K (.ref f) = true)
    (ha : PA X (e :: es) (tArgs G W ma)) (hdb : (x == ("__debug__" : Str)) = false) (he : starEach (e :: es) X.env = (false, eval e X.env) :: starEach es X.env) (hpl : (backTo pos (starEach es X.env)).any (·.1) = false) :
    PE X (.Call (.Name x p) (e :: es) [] pos) (tE G W (mCall g ma)) := by
  refine ⟨fun pins s σ H Q I h => ?_⟩
  obtain ⟨a, env, rfl, rel, post⟩ := h
  refine wpAny_Call_Name_kw (ld_glob I hg hm ?_ hdb)
  have hA : tArgs G W ma σ a.H (fun vs H1 => spD G.C g vs H1 Q (fun cls dd H' => W cls dd σ H')) := tArgs_of rel post fun xs e1 b vs s1 r ps p => call_sp r ps p
  refine PySem.W.callWith_K (h₀ := X.base) I.ok.mod.kin hk (thn (ha.run pos pins s σ _ _ I hA) fun us s1 ⟨vs, H1, I1, r, q⟩ => ⟨I1.kIn, ?_⟩) he hpl
  exact co W tk pins s1 σ H1 us vs Q I1 r q
theorem pe_callD0 {X : Cx} {G : Gm} {W : WX} {g : List D → Res (D × EnvD)} {f : Addr} {x : Str} {p pos : Pos} (co : CallOk G.C X g (.ref f)) (tk : Takes X W) (hg : Gl X x) (hm : X.mg x = some (.ref f)) (hk : PySem.W.keepIn X.K (.ref f) = true)
    (hdb : (x == ("__debug__" : Str)) = false) : PE X (.Call (.Name x p) [] [] pos) (tE G W (mCall g (mArgs []))) := by
  refine ⟨fun pins s σ H Q I h => ?_⟩
  obtain ⟨a, env, rfl, rel, post⟩ := h
  refine wpAny_Call_Name_kw (ld_glob I hg hm ?_ hdb)
  exact PySem.W.callWith_K0 I.kIn hk (co W tk pins s σ _ [] [] Q I .nil (call_sp rel .nil (show PostR G W σ a (mCallR g [] env) _ from post)))
end Mi
namespace Mi
open PySem PySem.Spec PyProof.Rows L2

/-! ### statements -/
def mNext : EM FlowD := fun env => .ok (.next, env)
def mBrk : EM FlowD := fun env => .ok (.brk, env)
def mCnt : EM FlowD := fun env => .ok (.cont, env)
def mSeq (m k : EM FlowD) : EM FlowD := fun env => (m env).bind fun (f, e) => match f with
  | .next => k e
  | .brk => .ok (.brk, e)
  | .cont => .ok (.cont, e)
  | .ret d => .ok (.ret d, e)
def mIfS (c : EM Bool) (m n : EM FlowD) : EM FlowD := fun env => (c env).bind fun (b, e) => if b = true then m e else n e
def mRet (m : EM D) : EM FlowD := fun env => (m env).bind fun (d, e) => .ok (.ret d, e)
def mRetN : EM FlowD := fun env => .ok (.ret .non, env)
def mDrop (m : EM D) : EM FlowD := fun env => (m env).bind fun (_, e) => .ok (.next, e)
def mAsg (i : Nat) (m : EM D) : EM FlowD := fun env => (m env).bind fun (d, e) => .ok (.next, e.set i (some d))
/- frozen first, then taken apart -/
def mAsgT (t : Tgt) (m : EM D) : EM FlowD := fun env => (m env).bind fun (d, e) => match mTg t (frzQ d) e with
  | some e1 => .ok (.next, e1)
  | none => .bad
def mPar (i j : Nat) (ma : EM (List Arg)) : EM FlowD := fun env => (ma env).bind fun (xs, e) => match Arg.gets e xs with
  | some [d1, d2] => if fz d1 = true ∧ fz d2 = true then .ok (.next, (e.set i (some d1)).set j (some d2)) else .bad
  | _ => .bad
section
variable {G : Gm} {W : WX} {D : Ends} {σ : L2.St} {H : Hp}
theorem next_w (h : tS G W mNext D σ H) : tNext D σ H := by
  obtain ⟨a, env, rfl, rel, post⟩ := h
  exact post a σ (Step.refl a) rel
theorem brk_w (h : tS G W mBrk D σ H) : tBreak D σ H := by
  obtain ⟨a, env, rfl, rel, post⟩ := h
  exact post a σ (Step.refl a) rel
theorem cnt_w (h : tS G W mCnt D σ H) : tCont D σ H := by
  obtain ⟨a, env, rfl, rel, post⟩ := h
  exact post a σ (Step.refl a) rel
theorem seq_w {m k : EM FlowD} (h : tS G W (mSeq m k) D σ H) : tSeq (tS G W m) (tS G W k) D σ H := by
  obtain ⟨a, env, rfl, rel, post⟩ := h
  refine ⟨a, env, rfl, rel, ?_⟩
  unfold mSeq at post
  cases hm : m env with
  | bad => rw [hm] at post; exact (show False from post).elim
  | exc x e => rw [hm] at post; exact post
  | ok fe =>
    obtain ⟨f, e⟩ := fe
    rw [hm] at post
    cases f with
    | next => exact fun b σ' st r => ⟨b, e, rfl, r, PostS.step st post⟩
    | brk => exact post
    | cont => exact post
    | ret d => exact post
theorem ifS_w {c : EM Bool} {m n : EM FlowD} (h : tS G W (mIfS c m n) D σ H) : tIfS (tT G W c) (tS G W m) (tS G W n) D σ H := by
  obtain ⟨a, env, rfl, rel, post⟩ := h
  refine tT_ofS rel post fun x e b st r p => ?_
  cases x with
  | true => exact ite_tt ⟨b, e, rfl, r, p⟩
  | false => exact ite_ff ⟨b, e, rfl, r, p⟩
theorem ret_w {m : EM Mi.D} (h : tS G W (mRet m) D σ H) : tRet (tE G W m) D σ H := by
  obtain ⟨a, env, rfl, rel, post⟩ := h
  exact tE_ofS rel post fun x e b v st r rp p => p b σ v (Step.refl b) r rp
theorem retN_w (h : tS G W mRetN D σ H) : tRetN D σ H := by
  obtain ⟨a, env, rfl, rel, post⟩ := h
  exact post a σ .non (Step.refl a) rel (by simp [Rep])
theorem drop_w {m : EM Mi.D} (h : tS G W (mDrop m) D σ H) : tDrop (tE G W m) D σ H := by
  obtain ⟨a, env, rfl, rel, post⟩ := h
  exact tE_ofS rel post fun x e b v st r rp p => p b σ (Step.refl b) r
theorem asg_w {i : Nat} {m : EM Mi.D} (hi : i ∉ G.io) (h : tS G W (mAsg i m) D σ H) : tAsg (tE G W m) (gName i) D σ H := by
  obtain ⟨a, env, rfl, rel, post⟩ := h
  exact tE_ofS rel post fun x e b v st r rp p => p (mvW b 0 (i + 1)) _ mvW_step (r.sett hi rp)
theorem asgT_w {t : Tgt} {m : EM Mi.D} (hi : Tgt.off G.io t) (h : tS G W (mAsgT t m) D σ H) : tAsg (tE G W m) (gT G.C.K t) D σ H := by
  obtain ⟨a, env, rfl, rel, post⟩ := h
  refine tE_ofS rel post fun x e b v st r rp p => ?_
  dsimp only at p
  obtain ⟨z, rq⟩ := frzQ_rep (s := 0) (q := []) r.ok rp
  cases ht : mTg t (frzQ x) e with
  | none => rw [ht] at p; exact (show False from p).elim
  | some e1 =>
    rw [ht] at p
    exact tg_w (a := frzW b 0) t hi r.frz0 z rq ht fun σ' r' => p (frzW b 0) σ' frzW_step r'
theorem par_w {i j : Nat} {ma : EM (List Arg)} (hi : i ∉ G.io) (hj : j ∉ G.io) (h : tS G W (mPar i j ma) D σ H) : tPar i j (tArgs G W ma) D σ H := by
  obtain ⟨a, env, rfl, rel, post⟩ := h
  refine tArgs_ofS rel post fun xs e b vs st r ps p => ?_
  dsimp only at p
  cases hx : Arg.gets e xs with
  | none => rw [hx] at p; exact (show False from p).elim
  | some ds =>
    rw [hx] at p
    have g := gets_rep r ps hx
    match ds, p, g with
    | [], p, _ => exact (show False from p).elim
    | [_], p, _ => exact (show False from p).elim
    | _ :: _ :: _ :: _, p, _ => exact (show False from p).elim
    | [d1, d2], p, g =>
      dsimp only at p
      obtain ⟨v, u, rfl, ⟨r1, p1⟩, ⟨r2, p2⟩⟩ := two_rep g
      split at p
      · rename_i z
        exact ⟨v, u, rfl, p b _ (Step.refl b) ((r.setz hi z.1 p1).setz hj z.2 p2)⟩
      · exact (show False from p).elim
end

/-! ### loops -/
def loopF (t : Tgt) (body : EM FlowD) : List D → EnvD → Res (FlowD × EnvD)
  | [], e => .ok (.next, e)
  | d :: ds, e => match mTg t d e with
    | none => .bad
    | some e1 => (body e1).bind fun (f, e2) => match f with
      | .next => loopF t body ds e2
      | .cont => loopF t body ds e2
      | .brk => .ok (.next, e2)
      | .ret d => .ok (.ret d, e2)
def mFor (mi : EM (List D)) (t : Tgt) (body : EM FlowD) : EM FlowD := fun env => (mi env).bind fun (ds, e) => if fzL ds = true then loopF t body ds e else .bad
theorem PostS.aheadI {G : Gm} {W : WX} {D : Ends} {a : Wd} {σ : L2.St} {α : Type} {m : Res (α × EnvD)} {k : α × EnvD → Res (FlowD × EnvD)} (h : PostS G W D a (m.bind k)) : PostR G W σ a m fun x e b => PostS G W D b (k (x, e)) := h.ahead
def whileF (c : EM Bool) (body : EM FlowD) : Nat → EnvD → Res (FlowD × EnvD)
  | 0, _ => .bad
  | n + 1, e => (c e).bind fun (b, e1) => if b = true then (body e1).bind fun (f, e2) => match f with
      | .next => whileF c body n e2
      | .cont => whileF c body n e2
      | .brk => .ok (.next, e2)
      | .ret d => .ok (.ret d, e2)
    else .ok (.next, e1)
def mWhile (fuel : EnvD → Nat) (c : EM Bool) (body : EM FlowD) : EM FlowD := fun env => whileF c body (fuel env) env
section
variable {G : Gm} {W : WX} {D : Ends} {σ : L2.St} {H : Hp}
theorem for_w {mi : EM (List Mi.D)} {t : Tgt} {body : EM FlowD} (hi' : Tgt.off G.io t) (h : tS G W (mFor mi t body) D σ H) : tFor (tI G W mi) (gT G.C.K t) (tS G W body) D σ H := by
  obtain ⟨a, env, rfl, rel, post⟩ := h
  refine ⟨a, env, rfl, rel, post.ahead.imp fun ds e b st r p => ?_⟩
  dsimp only at p
  split at p
  · rename_i z
    refine ⟨z, fun J hJ => ⟨fun i m σ H => m = ds.length - i ∧ i ≤ ds.length ∧ ∃ c e, c.H = H ∧ Step b c ∧ RelE G c σ e ∧ PostS G W D c (loopF t body (ds.drop i) e), ⟨_, rfl, Nat.zero_le _, b, e, rfl, Step.refl b, r, p⟩, ?_⟩⟩
    rintro i m σ H ⟨rfl, hi, c, e, rfl, sc, rc, pc⟩
    obtain ⟨hgo, hstop⟩ := hJ c rc.ok sc
    by_cases hlt : i < ds.length
    · obtain ⟨d, hd⟩ : ∃ d, ds[i]? = some d := ⟨_, List.getElem?_eq_getElem hlt⟩
      obtain ⟨h1, h2⟩ := hgo i d hd
      have hdrop : ds.drop i = d :: ds.drop (i + 1) := by
        rw [List.drop_eq_getElem_cons hlt]
        rw [List.getElem?_eq_getElem hlt] at hd
        cases hd; rfl
      rw [hdrop] at pc
      simp only [loopF] at pc
      refine .inr ⟨h1, fun σ' H' => ∃ c e, c.H = H' ∧ Step b c ∧ RelE G c σ' e ∧ PostS G W D c (loopF t body (ds.drop (i + 1)) e), fun σ' H' q => ⟨ds.length - (i + 1), by omega, rfl, hlt, q⟩, fun x H' y => ?_⟩
      obtain ⟨c', rfl, gr, ok', rp⟩ := h2 x H' y
      cases ht : mTg t d e with
      | none => rw [ht] at pc; exact (show False from pc).elim
      | some e1 =>
        rw [ht] at pc
        dsimp only at pc
        refine tg_w t hi' (rc.grow gr ok') (fzL_mem z d (List.mem_of_getElem? hd)) rp ht fun σ' r' => ⟨c', e1, rfl, r', ?_⟩
        have pc := PostS.step gr.step pc
        have sc' : Step b c' := sc.trans gr.step
        cases hb : body e1 with
        | bad => rw [hb] at pc; exact (show False from pc).elim
        | exc x e2 => rw [hb] at pc; exact pc
        | ok fe =>
          obtain ⟨f, e2⟩ := fe
          rw [hb] at pc
          cases f with
          | next => exact fun b' σ' st' r' => ⟨b', e2, rfl, sc'.trans st', r', PostS.step st' pc⟩
          | brk => exact pc
          | cont => exact fun b' σ' st' r' => ⟨b', e2, rfl, sc'.trans st', r', PostS.step st' pc⟩
          | ret d => exact pc
    · have e1 : i = ds.length := by omega
      subst e1
      rw [List.drop_length] at pc
      exact .inl ⟨hstop, pc c σ (Step.refl c) rc⟩
  · exact (show False from p).elim
theorem while_w {fuel : EnvD → Nat} {c : EM Bool} {body : EM FlowD} (h : tS G W (mWhile fuel c body) D σ H) : tWhile (tT G W c) (tS G W body) D σ H := by
  obtain ⟨a, env, rfl, rel, post⟩ := h
  refine ⟨fun m σ H => ∃ b e, b.H = H ∧ RelE G b σ e ∧ PostS G W D b (whileF c body m e), ⟨fuel env, a, env, rfl, rel, post⟩, ?_⟩
  rintro m σ H ⟨b, e, rfl, r, p⟩
  cases m with
  | zero => exact (show False from p).elim
  | succ n =>
    refine tT_ofS r p fun x e1 b1 st r1 p1 => ?_
    dsimp only at p1
    cases x with
    | false =>
      rw [if_neg Bool.false_ne_true] at p1 ⊢
      exact p1 b1 σ (Step.refl b1) r1
    | true =>
      rw [if_pos rfl] at p1 ⊢
      refine ⟨fun σ' H' => ∃ b e, b.H = H' ∧ RelE G b σ' e ∧ PostS G W D b (whileF c body n e), fun σ' H' q => ⟨n, Nat.lt_succ_self n, q⟩, b1, e1, rfl, r1, ?_⟩
      cases hb : body e1 with
      | bad => rw [hb] at p1; exact (show False from p1).elim
      | exc x e2 => rw [hb] at p1; exact p1
      | ok fe =>
        obtain ⟨f, e2⟩ := fe
        rw [hb] at p1
        cases f with
        | next => exact fun b' σ' st' r' => ⟨b', e2, rfl, r', PostS.step st' p1⟩
        | brk => exact p1
        | cont => exact fun b' σ' st' r' => ⟨b', e2, rfl, r', PostS.step st' p1⟩
        | ret d => exact p1
end
end Mi
namespace Mi
open PySem PySem.Spec PyProof.Rows L2

/-! ### list comprehensions -/
def wipeE (e : EnvD) : List Nat → EnvD
  | [] => e
  | v :: vs => (wipeE e vs).set v none
def restV (e0 : EnvD) (v : Nat) : Option D := match e0[v]? with
  | some (some d) => if fz d = true then some d else none
  | _ => none
def restE (e0 e : EnvD) : List Nat → EnvD
  | [] => e
  | v :: vs => (restE e0 e vs).set v (restV e0 v)
def loopL (t : Tgt) (cond : EM Bool) (elt : EM D) (own : List Nat) : List D → List D → EnvD → Res (List D × EnvD)
  | [], acc, e => .ok (acc, e)
  | d :: ds, acc, e => match mTg t d (wipeE e own) with
    | none => .bad
    | some e1 => match cond e1 with
      | .ok (true, e2) => match elt e2 with
        | .ok (y, e3) => loopL t cond elt own ds (acc ++ [frzQ y]) e3
        | _ => .bad
      | .ok (false, e2) => loopL t cond elt own ds acc e2
      | _ => .bad
def mLc (mi : EM (List D)) (t : Tgt) (cond : EM Bool) (elt : EM D) (own : List Nat) : EM D := fun env => (mi env).bind fun (ds, e) =>
  if fzL ds = true ∧ ds.length ≤ 100000 then (loopL t cond elt own ds [] e).bind fun (l, e') => .ok (.lst true l, restE e e' own) else .bad
def mYes : EM Bool := fun env => .ok (true, env)
abbrev W0 : WX := fun _ _ _ _ => False
theorem wipeE_len (e : EnvD) : ∀ vs : List Nat, (wipeE e vs).length = e.length
  | [] => rfl
  | v :: vs => by unfold wipeE; rw [List.length_set, wipeE_len e vs]
theorem restE_len (e0 e : EnvD) : ∀ vs : List Nat, (restE e0 e vs).length = e.length
  | [] => rfl
  | v :: vs => by unfold restE; rw [List.length_set, restE_len e0 e vs]
theorem wipeE_some {e : EnvD} {i : Nat} {d : D} : ∀ {vs : List Nat}, (wipeE e vs)[i]? = some (some d) → e[i]? = some (some d) ∧ i ∉ vs
  | [], h => ⟨h, by simp⟩
  | v :: vs, h => by
    unfold wipeE at h
    by_cases q : v = i
    · subst q
      by_cases hl : v < (wipeE e vs).length
      · rw [List.getElem?_set_self hl] at h; cases h
      · rw [List.getElem?_eq_none (by rw [List.length_set]; omega)] at h; cases h
    · rw [List.getElem?_set_ne q] at h
      obtain ⟨h1, h2⟩ := wipeE_some h
      exact ⟨h1, by simp [h2, Ne.symm q]⟩
theorem restE_some {e0 e : EnvD} {i : Nat} {d : D} : ∀ {vs : List Nat}, (restE e0 e vs)[i]? = some (some d) → (e[i]? = some (some d) ∧ i ∉ vs) ∨ (i ∈ vs ∧ e0[i]? = some (some d) ∧ fz d = true)
  | [], h => .inl ⟨h, by simp⟩
  | v :: vs, h => by
    unfold restE at h
    by_cases q : v = i
    · subst q
      by_cases hl : v < (restE e0 e vs).length
      · rw [List.getElem?_set_self hl] at h
        have h : restV e0 v = some d := Option.some.inj h
        unfold restV at h
        split at h
        · rename_i d' e1
          split at h
          · rename_i z; cases h
            exact .inr ⟨by simp, e1, z⟩
          · cases h
        · cases h
      · rw [List.getElem?_eq_none (by rw [List.length_set]; omega)] at h; cases h
    · rw [List.getElem?_set_ne q] at h
      rcases restE_some h with ⟨h1, h2⟩ | ⟨h1, h2, h3⟩
      · exact .inl ⟨h1, by simp [h2, Ne.symm q]⟩
      · exact .inr ⟨by simp [h1], h2, h3⟩
theorem wipe_off {σ : L2.St} {i : Nat} : ∀ {vs : List Nat}, i ∉ vs → (wipe σ vs)[i]? = σ[i]?
  | [], _ => rfl
  | v :: vs, h => by
    simp only [List.mem_cons, not_or] at h
    unfold wipe
    rw [List.getElem?_set_ne (Ne.symm h.1)]
    exact wipe_off h.2
section
variable {G : Gm} {W : WX} {σ σ2 : L2.St} {H : Hp} {a b c : Wd} {own : List Nat}
theorem RelE.wiped {e : EnvD} (r : RelE G a σ e) (ho : ∀ i ∈ G.io, i ∉ own) : RelE G a (wipe σ own) (wipeE e own) := by
  refine ⟨r.ok, by rw [wipeE_len, wipe_length]; exact r.len, fun i d h => ?_, fun i hi v hv => ?_⟩
  · obtain ⟨h1, h2⟩ := wipeE_some h
    obtain ⟨v, e1, q⟩ := r.slot i d h1
    exact ⟨v, by rw [wipe_off h2]; exact e1, q⟩
  · rw [wipe_off (ho i hi)]; exact r.prm i hi v hv
theorem RelE.rewiped {e : EnvD} (r : RelE G a σ2 e) (hw : wipe σ2 own = wipe σ own) (ho : ∀ i ∈ G.io, i ∉ own) : RelE G a (wipe σ own) (wipeE e own) := by
  rw [← hw]; exact r.wiped ho
/- behind the block: e0 the frame ahead of it (at b), e the block's last -/
theorem RelE.unwiped {e0 e : EnvD} (r0 : RelE G b σ e0) (r : RelE G c (wipe σ own) (wipeE e own)) (st : Step b c) (le : e.length = e0.length) : RelE G c σ (restE e0 e own) := by
  refine ⟨r.ok, by rw [restE_len, le]; exact r0.len, fun i d h => ?_, r0.prm⟩
  rcases restE_some h with ⟨h1, h2⟩ | ⟨h1, h2, h3⟩
  · have : (wipeE e own)[i]? = some (some d) := by
      clear h r r0
      induction own with
      | nil => exact h1
      | cons v vs ih =>
        simp only [List.mem_cons, not_or] at h2
        unfold wipeE
        rw [List.getElem?_set_ne (Ne.symm h2.1)]
        exact ih h2.2
    obtain ⟨v, e1, q⟩ := r.slot i d this
    exact ⟨v, by rw [wipe_off h2] at e1; exact e1, q⟩
  · obtain ⟨v, e1, q⟩ := r0.slot i d h2
    exact ⟨v, e1, q.step r0.ok st h3⟩
end
/- the list that grows stands at A, outside of the world -/
structure GrowL (C : KM) (b c : Wd) (A : Addr) (acc : List D) : Prop where
  st : Step b c
  ok : Ok c
  f : c.F A = none
  t : c.t A = none
  h : ∃ vs, c.H A = some (.lst vs) ∧ RepL C c 0 [] 0 vs acc
  z : fzL acc = true
theorem GrowL.next {C : KM} {b c c' : Wd} {A : Addr} {acc : List D} (g : GrowL C b c A acc) (st : Step c c') (ok : Ok c') : GrowL C b c' A acc := by
  obtain ⟨vs, h1, h2⟩ := g.h
  obtain ⟨k1, k2, k3⟩ := st A _ h1 g.t
  exact ⟨g.st.trans st, ok, k3.trans g.f, k2, ⟨vs, k1, Rep.stepL g.ok st g.z h2⟩, g.z⟩
/- the list's own object changed -/
def putA (c : Wd) (A : Addr) (o : HO) : Wd := ⟨c.F, upd c.H A o, c.t⟩
theorem putA_ok {c : Wd} {A : Addr} {o : HO} (k : Ok c) (f : c.F A = none) : Ok (putA c A o) := by
  refine ⟨fun x u h => ?_, fun x t h => ?_⟩
  · have ne : x ≠ A := by rintro rfl; have h : c.F x = some u := h; rw [f] at h; cases h
    show upd c.H A o x = _
    rw [upd_ne ne]; exact k.sub x u h
  · obtain ⟨h1, u, h2⟩ := k.own x t h
    by_cases e : x = A
    · subst e; exact ⟨h1, o, upd_same⟩
    · exact ⟨h1, u, by show upd c.H A o x = _; rw [upd_ne e]; exact h2⟩
theorem putA_to {C : KM} {c : Wd} {A : Addr} {o : HO} (t : c.t A = none) {r : Nat} {p : List Nat} {v : V} {d : D} (h : Rep C c r p v d) : Rep C (putA c A o) r p v d := by
  have := Rep.to (C := C) (a := c) (b := putA c A o) (r := r) (s := r) (p := p) (q := p) (fun _ _ h => h) (fun x z u h e => ⟨h, by
    have ne : x ≠ A := by rintro rfl; rw [t] at h; cases h
    show upd c.H A o x = _
    rw [upd_ne ne]; exact e⟩) d [] v
  exact this h
theorem putA_rel {G : Gm} {c : Wd} {A : Addr} {o : HO} {σ : L2.St} {e : EnvD} (r : RelE G c σ e) (f : c.F A = none) (t : c.t A = none) : RelE G (putA c A o) σ e :=
  ⟨putA_ok r.ok f, r.len, fun i d h => let ⟨v, e, q⟩ := r.slot i d h; ⟨v, e, putA_to t q⟩, r.prm⟩
/- at the end it is the temp's -/
def tagA (c : Wd) (A : Addr) : Wd := ⟨c.F, c.H, fun x => if x = A then some (0, []) else c.t x⟩
theorem tagA_ok {c : Wd} {A : Addr} {o : HO} (k : Ok c) (f : c.F A = none) (h : c.H A = some o) : Ok (tagA c A) := by
  refine ⟨k.sub, fun x t e => ?_⟩
  have e : (if x = A then some (0, []) else c.t x) = some t := e
  by_cases q : x = A
  · subst q; exact ⟨f, o, h⟩
  · rw [if_neg q] at e; exact k.own x t e
theorem tagA_to {C : KM} {c : Wd} {A : Addr} (t : c.t A = none) {r : Nat} {p : List Nat} {v : V} {d : D} (h : Rep C c r p v d) : Rep C (tagA c A) r p v d := by
  have := Rep.to (C := C) (a := c) (b := tagA c A) (r := r) (s := r) (p := p) (q := p) (fun _ _ h => h) (fun x z u h e => ⟨by
    have ne : x ≠ A := by rintro rfl; rw [t] at h; cases h
    show (if x = A then some (0, []) else c.t x) = _
    rw [if_neg ne]; exact h, e⟩) d [] v
  exact this h
theorem repL_to {C : KM} {a b : Wd} {r s : Nat} {p q : List Nat} (h : ∀ d j v, fz d = true → Rep C a r (j :: p) v d → Rep C b s (j :: q) v d) : ∀ {l : List D} {n : Nat} {vs : List V}, fzL l = true → RepL C a r p n vs l → RepL C b s q n vs l
  | [], n, vs, _, e => e
  | d :: l, n, vs, z, ⟨v, us, e, h1, h2⟩ => by
    simp only [fzL, Bool.and_eq_true] at z
    exact ⟨v, us, e, h d n v z.1 h1, repL_to h z.2 h2⟩
theorem GrowL.push {C : KM} {b c : Wd} {A : Addr} {acc : List D} {vs : List V} {v : V} {y : D} {r : Nat} (g : GrowL C b c A acc) (hA : b.H A = none) (h : c.H A = some (.lst vs)) (zy : fz y = true) (rp : Rep C c r [] v y) : GrowL C b (putA c A (.lst (vs ++ [v]))) A (acc ++ [y]) := by
  obtain ⟨us, h1, h2⟩ := g.h
  rw [h] at h1; cases h1
  refine ⟨fun x o e t => ?_, putA_ok g.ok g.f, g.f, g.t, ⟨_, upd_same, ?_⟩, by rw [fzL_append, g.z]; simp [fzL, zy]⟩
  · obtain ⟨g1, g2, g3⟩ := g.st x o e t
    have ne : x ≠ A := by rintro rfl; rw [hA] at e; cases e
    exact ⟨by show upd c.H A _ x = _; rw [upd_ne ne]; exact g1, g2, g3⟩
  · refine RepL.appz (r := 0) (p := []) (s := 0) (q := []) (n := 0) (k := 0) g.z (by simp [fzL, zy]) (repL_to (fun d j v _ h => putA_to g.t h) g.z h2) ?_
    exact ⟨v, [], rfl, Rep.fz (a := c) (b := putA c A (.lst (vs ++ [v]))) (fun _ _ h => h) y _ _ v zy rp, by simp [RepL]⟩
mutual
def Tgt.ins (own : List Nat) : Tgt → Prop
  | .nm i => i ∈ own
  | .tp ts => Tgt.inss own ts
def Tgt.inss (own : List Nat) : List Tgt → Prop
  | [] => True
  | t :: ts => Tgt.ins own t ∧ Tgt.inss own ts
end
theorem wipe_set {σ : L2.St} {i : Nat} {v : Option V} : ∀ {own : List Nat}, i ∈ own → wipe (σ.set i v) own = wipe σ own
  | k :: vs, h => by
    unfold wipe
    by_cases e : k = i
    · subst e
      by_cases hm : k ∈ vs
      · rw [wipe_set hm]
      · have : ∀ {vs : List Nat}, k ∉ vs → wipe (σ.set k v) vs = (wipe σ vs).set k v := fun {vs} => by
          induction vs with
          | nil => intro _; rfl
          | cons u us ih =>
            intro h
            simp only [List.mem_cons, not_or] at h
            unfold wipe
            rw [ih h.2, List.set_comm _ _ h.1]
        rw [this hm, List.set_set]
    · rw [wipe_set (by
        rcases List.mem_cons.mp h with h | h
        · exact absurd h.symm e
        · exact h)]
theorem wipe_wipe (σ : L2.St) (own : List Nat) : wipe (wipe σ own) own = wipe σ own := by
  have : ∀ vs : List Nat, (∀ i ∈ vs, i ∈ own) → wipe (wipe σ vs) own = wipe σ own := fun vs => by
    induction vs with
    | nil => intro _; rfl
    | cons v vs ih =>
      intro h
      show wipe ((wipe σ vs).set v none) own = _
      rw [wipe_set (h v (by simp)), ih fun i hi => h i (by simp [hi])]
  exact this own fun _ h => h
mutual
theorem gT_mono {K : PySem.W.Frag} : ∀ (t : Tgt) {σ : L2.St} {v : V} {H : Hp} {R R' : L2.St → Hp → Prop}, gT K t v σ H R → (∀ σ H, R σ H → R' σ H) → gT K t v σ H R'
  | .nm i, σ, v, H, R, R', q, f => by
    simp only [gT] at q ⊢
    exact f _ _ q
  | .tp ts, σ, v, H, R, R', q, f => by
    simp only [gT] at q ⊢
    obtain ⟨x, vs, h1, h2, h3, h4⟩ := q
    exact ⟨x, vs, h1, h2, h3, gTs_mono ts h4 f⟩
theorem gTs_mono {K : PySem.W.Frag} : ∀ (t : List Tgt) {σ : L2.St} {v : List V} {H : Hp} {R R' : L2.St → Hp → Prop}, gTs K t v σ H R → (∀ σ H, R σ H → R' σ H) → gTs K t v σ H R'
  | [], σ, v, H, R, R', q, f => by
    simp only [gTs] at q ⊢
    exact ⟨q.1, f _ _ q.2⟩
  | t :: ts, σ, v, H, R, R', q, f => by
    simp only [gTs] at q ⊢
    obtain ⟨v, us, h1, h2⟩ := q
    exact ⟨v, us, h1, gT_mono t h2 fun σ H q => gTs_mono ts q f⟩
end
mutual
theorem ins_w {K : PySem.W.Frag} {own : List Nat} : ∀ (t : Tgt), Tgt.ins own t → ∀ (σ : L2.St) (v : V) (H : Hp) (R : L2.St → Hp → Prop), gT K t v σ H R → gT K t v σ H fun σ2 H2 => wipe σ2 own = wipe σ own ∧ R σ2 H2
  | .nm i, h, σ, v, H, R, q => by
    simp only [Tgt.ins] at h
    simp only [gT] at q ⊢
    exact ⟨wipe_set h, q⟩
  | .tp ts, h, σ, v, H, R, q => by
    simp only [Tgt.ins] at h
    simp only [gT] at q ⊢
    obtain ⟨x, vs, h1, h2, h3, h4⟩ := q
    exact ⟨x, vs, h1, h2, h3, inss_w ts h σ vs H R h4⟩
theorem inss_w {K : PySem.W.Frag} {own : List Nat} : ∀ (ts : List Tgt), Tgt.inss own ts → ∀ (σ : L2.St) (vs : List V) (H : Hp) (R : L2.St → Hp → Prop), gTs K ts vs σ H R → gTs K ts vs σ H fun σ2 H2 => wipe σ2 own = wipe σ own ∧ R σ2 H2
  | [], h, σ, vs, H, R, q => by
    simp only [gTs] at q ⊢
    exact ⟨q.1, rfl, q.2⟩
  | t :: ts, h, σ, vs, H, R, q => by
    simp only [Tgt.inss] at h
    simp only [gTs] at q ⊢
    obtain ⟨v, us, h1, h2⟩ := q
    refine ⟨v, us, h1, ?_⟩
    have := ins_w t h.1 σ v H _ h2
    have mono : ∀ (t : Tgt) {σ : L2.St} {v : V} {H : Hp} {R R' : L2.St → Hp → Prop}, gT K t v σ H R → (∀ σ H, R σ H → R' σ H) → gT K t v σ H R' := fun t σ v H R R' => gT_mono t
    refine mono t this fun σ1 H1 ⟨w, q⟩ => ?_
    have := inss_w ts h.2 σ1 us H1 R q
    rw [w] at this
    exact this
end
section
variable {G : Gm} {W : WX} {σ : L2.St} {H : Hp} {Q : VK}
theorem lc_w {mi : EM (List D)} {t : Tgt} {cond : EM Bool} {elt : EM D} {own : List Nat} (hf : Tgt.off G.io t) (ho : ∀ i ∈ G.io, i ∉ own) (hown : Tgt.ins own t)
    (h : tE G W (mLc mi t cond elt own) σ H Q) : tLc (tI G W mi) (gT G.C.K t) (tT G W0 cond) (tE G W0 elt) own σ H Q := by
  obtain ⟨a, env, rfl, rel, post⟩ := h
  refine ⟨a, env, rfl, rel, post.bind.imp fun ds e b st r p => ?_⟩
  dsimp only at p
  split at p
  · rename_i z
    refine ⟨z.1, fun J hJ A hA => ?_⟩
    have fA : b.F A = none := by
      cases q : b.F A with
      | none => rfl
      | some u => have := r.ok.sub A u q; rw [hA] at this; cases this
    have tA : b.t A = none := by
      cases q : b.t A with
      | none => rfl
      | some u => obtain ⟨_, u, h⟩ := r.ok.own A u q; rw [hA] at h; cases h
    -- the rest's post, told of a state of the loop
    let K : List D × EnvD → Res (D × EnvD) := fun (l, e') => .ok (.lst true l, restE e e' own)
    refine ⟨fun i m H => m = ds.length - i ∧ i ≤ ds.length ∧ ∃ c acc e1, c.H = H ∧ GrowL G.C b c A acc ∧ acc.length ≤ i ∧ e1.length = e.length ∧ RelE G c (wipe σ own) (wipeE e1 own) ∧
      PostR G W σ b ((loopL t cond elt own (ds.drop i) acc e1).bind K) fun d _ b => ∀ v, Rep G.C b 0 [] v d → Q v b.H, ⟨_, rfl, Nat.zero_le _, putA b A (.lst []), [], e, rfl, ?_, Nat.zero_le _, rfl, ?_, p⟩, ?_⟩
    · refine ⟨fun x o h t => ?_, putA_ok r.ok fA, fA, tA, ⟨[], upd_same, by simp [RepL]⟩, rfl⟩
      have ne : x ≠ A := by rintro rfl; rw [hA] at h; cases h
      exact ⟨by show upd b.H A _ x = _; rw [upd_ne ne]; exact h, t, rfl⟩
    · exact putA_rel (r.wiped ho) fA tA
    · rintro i m H ⟨rfl, hi, c, acc, e1, rfl, gl, hacc, hel, rc, pc⟩
      obtain ⟨hgo, hstop⟩ := hJ c gl.ok gl.st
      by_cases hlt : i < ds.length
      · obtain ⟨d, hd⟩ : ∃ d, ds[i]? = some d := ⟨_, List.getElem?_eq_getElem hlt⟩
        obtain ⟨h1, h2⟩ := hgo i d hd
        have hdrop : ds.drop i = d :: ds.drop (i + 1) := by
          rw [List.drop_eq_getElem_cons hlt]
          rw [List.getElem?_eq_getElem hlt] at hd
          cases hd; rfl
        rw [hdrop] at pc
        simp only [loopL] at pc
        refine .inr ⟨h1, fun H' => ∃ c acc e1, c.H = H' ∧ GrowL G.C b c A acc ∧ acc.length ≤ i + 1 ∧ e1.length = e.length ∧ RelE G c (wipe σ own) (wipeE e1 own) ∧
          PostR G W σ b ((loopL t cond elt own (ds.drop (i + 1)) acc e1).bind K) fun d _ b => ∀ v, Rep G.C b 0 [] v d → Q v b.H, fun H' q => ⟨ds.length - (i + 1), by omega, rfl, hlt, q⟩, fun x H' y => ?_⟩
        obtain ⟨c1, rfl, gr, ok1, rp⟩ := h2 x H' y
        cases ht : mTg t d (wipeE e1 own) with
        | none => rw [ht] at pc; exact (show False from pc).elim
        | some e2 =>
          rw [ht] at pc
          dsimp only at pc
          have gl1 := gl.next gr.step ok1
          refine gT_mono t (ins_w t hown _ x c1.H (fun σ2 H2 => H2 = c1.H ∧ RelE G c1 σ2 e2) (tg_w t hf (rc.grow gr ok1) (fzL_mem z.1 d (List.mem_of_getElem? hd)) rp ht fun σ2 r2 => ⟨rfl, r2⟩)) fun σ2 H2 ⟨hw, hH, r2⟩ => ?_
          subst hH
          rw [wipe_wipe] at hw
          refine ⟨hw, c1, e2, rfl, r2, ?_⟩
          have hlen : ∀ {c : Wd} {e' : EnvD}, RelE G c σ2 e' → e'.length = e.length := fun {c e'} r' => by
            have := congrArg List.length hw
            rw [wipe_length, wipe_length] at this
            rw [r'.len, this, r.len]
          cases hc : cond e2 with
          | bad => rw [hc] at pc; exact (show False from pc).elim
          | exc x e3 => rw [hc] at pc; exact (show False from pc).elim
          | ok be =>
            obtain ⟨bb, e3⟩ := be
            rw [hc] at pc
            intro c2 st2 r3
            cases bb with
            | false =>
              rw [if_neg Bool.false_ne_true]
              exact ⟨c2, acc, e3, rfl, gl1.next st2 r3.ok, Nat.le_succ_of_le hacc, hlen r3, r3.rewiped hw ho, pc⟩
            | true =>
              rw [if_pos rfl]
              refine ⟨c2, e3, rfl, r3, ?_⟩
              dsimp only at pc
              cases he : elt e3 with
              | bad => rw [he] at pc; exact (show False from pc).elim
              | exc x e4 => rw [he] at pc; exact (show False from pc).elim
              | ok ye =>
                obtain ⟨y, e4⟩ := ye
                rw [he] at pc
                intro c3 st3 r4 v rv
                have gl3 := (gl1.next st2 r3.ok).next st3 r4.ok
                obtain ⟨vs, k1, k2⟩ := gl3.h
                obtain ⟨zy, rq⟩ := frzQ_rep (s := 0) (q := []) r4.ok rv
                have gl4 := (gl3.next (frzW_step (r := 0)) (frzW_ok r4.ok)).push (vs := vs) hA k1 zy rq
                refine ⟨vs, k1, ?_, putA (frzW c3 0) A (.lst (vs ++ [v])), acc ++ [frzQ y], e4, rfl, gl4, ?_, hlen r4, ?_, pc⟩
                · rw [k2.len]; rw [show sizeLine = 16777216 from sizeLine_eq]; omega
                · rw [List.length_append]; simp only [List.length_cons, List.length_nil]; omega
                · exact putA_rel ((r4.rewiped hw ho).frz0) (gl3.next (frzW_step (r := 0)) (frzW_ok r4.ok)).f (gl3.next (frzW_step (r := 0)) (frzW_ok r4.ok)).t
      · have e2 : i = ds.length := by omega
        subst e2
        rw [List.drop_length] at pc
        refine .inl ⟨hstop, ?_⟩
        obtain ⟨vs, k1, k2⟩ := gl.h
        have pc : ∀ b', Step b b' → RelE G b' σ (restE e e1 own) → ∀ v, Rep G.C b' 0 [] v (.lst true acc) → Q v b'.H := pc
        have rel' := r.unwiped rc gl.st hel
        refine pc (tagA c A) (fun x o h t => ?_) ?_ (.ref A) ?_
        · obtain ⟨g1, g2, g3⟩ := gl.st x o h t
          have ne : x ≠ A := by rintro rfl; rw [hA] at h; cases h
          exact ⟨g1, by show (if x = A then some (0, []) else c.t x) = none; rw [if_neg ne]; exact g2, g3⟩
        · exact ⟨tagA_ok gl.ok gl.f k1, rel'.len, fun i d h => let ⟨v, e, q⟩ := rel'.slot i d h; ⟨v, e, tagA_to gl.t q⟩, rel'.prm⟩
        · simp only [Rep]
          refine ⟨A, vs, rfl, ?_, ?_⟩
          · rw [if_pos trivial]
            exact ⟨by show (if A = A then some (0, []) else c.t A) = _; rw [if_pos rfl], k1⟩
          · exact repL_to (fun d j v _ h => tagA_to gl.t h) gl.z k2
  · exact (show False from p).elim
end
end Mi
namespace Mi
open PySem PySem.Spec PyProof.Rows L2

/-! ### the context -/
structure St0 (X : Cx) (G : Gm) : Prop where
  p : X.prog = G.C.P
  w : X.w = G.C.w
  k : X.K = G.C.K
  m : X.mg = G.C.mg
  n : X.N.Nodup
  u : X.A.units + 64 < cLine
structure Go (X : Cx) (G : Gm) (W : WX) (lv : Nat) : Prop extends St0 X G where
  tk : Takes X W
  pw : PassesOwn (model X.prog X.w) X.A X.env X.xe
  rm : Room lv X.A
  cm : X.calm = true
theorem Go.blk {X : Cx} {G : Gm} {W : WX} {lv : Nat} (g : Go X G W lv) (s : Shared) (H : Hp) (scope : Scope) (e : Env) (fp : List Addr) : Go (X.blk s H scope e fp) G W0 lv :=
  { p := g.p, w := g.w, k := g.k, m := g.m, n := g.n, u := g.u, tk := takes0, pw := PassesOwn.never, rm := g.rm, cm := g.cm }
theorem Go.tr {X : Cx} {G : Gm} {W W' : WX} {lv : Nat} {pn : List (Addr × Obj)} {xe : Value → Shared → Prop} (g : Go X G W lv) (tk : Takes (X.tr pn xe) W') (pw : PassesOwn (model X.prog X.w) X.A X.env xe) : Go (X.tr pn xe) G W' lv :=
  { p := g.p, w := g.w, k := g.k, m := g.m, n := g.n, u := g.u, tk := tk, pw := pw, rm := g.rm, cm := g.cm }
theorem Go.suite {X : Cx} {G : Gm} {W : WX} {lv : Nat} (g : Go X G W lv) (a : Addr) (pn : List (Addr × Obj)) : St0 (X.suite a pn) G :=
  { p := g.p, w := g.w, k := g.k, m := g.m, n := g.n, u := g.u }

/-! ### isinstance of a built-in -/
inductive TyK where
  | tInt | tBool | tStr | tTup | tLst | tDic
def TyK.nm : TyK → String
  | .tInt => "int" | .tBool => "bool" | .tStr => "str" | .tTup => "tuple" | .tLst => "list" | .tDic => "dict"
def tyD : D → Option String
  | .non => some "NoneType" | .bl _ => some "bool" | .int _ => some "int" | .str _ => some "str" | .tup _ => some "tuple"
  | .lst _ _ => some "list" | .scr _ => some "list" | .dic _ _ _ => some "dict" | _ => none
def isK : TyK → D → Option Bool
  | _, .ty _ => none
  | _, .fn _ => none
  | _, .ins _ _ _ _ => none
  | .tInt, .int _ => some true
  | .tInt, .bl _ => some true
  | .tBool, .bl _ => some true
  | .tStr, .str _ => some true
  | .tTup, .tup _ => some true
  | .tLst, .lst _ _ => some true
  | .tLst, .scr _ => some true
  | .tDic, .dic _ _ _ => some true
  | _, _ => some false
theorem isK_kit {k : TyK} {d : D} {b : Bool} (h : isK k d = some b) : ∃ t, tyD d = some t ∧ kitB t k.nm = some b := by
  cases k <;> cases d <;> simp only [isK] at h <;> first | (cases h; done) | (cases h; exact ⟨_, rfl, by decide +kernel⟩)
theorem rep_ty {C : KM} {a : Wd} {r : Nat} {p : List Nat} {v : V} {d : D} {t : String} (k : Ok a) (h : tyD d = some t) (q : Rep C a r p v d) : TyX C.K a.H v (.type t) := by
  cases d <;> simp only [tyD] at h <;> (try (cases h; done)) <;> cases h
  case non => cases rep_non q; exact .base .non
  case bl b => cases rep_bl q; exact .base (.bl b)
  case int b => cases rep_int q; exact .base (.int b)
  case str b => cases rep_str q; exact .base (.str b)
  case tup l =>
    obtain ⟨x, vs, rfl, h1, h2⟩ := rep_tup k q
    rcases h1 with h1 | h1
    · rcases h1 with h1 | ⟨o, h1⟩
      · exact .base (.tup h1)
      · exact .fTuple h1
    · obtain ⟨o, _, _, h1, h2, _⟩ := h1
      exact .kTuple h1 h2
  case lst o l =>
    obtain ⟨x, vs, rfl, h1, h2⟩ := rep_lst k q
    exact .base (.lst h1)
  case scr l =>
    obtain ⟨x, rfl, h1⟩ := rep_scr k q
    rcases h1 with h1 | h1
    · rcases h1 with h1 | ⟨o, h1⟩
      · exact .base (.lst h1)
      · exact .base (.frz h1)
    · obtain ⟨o, _, _, h1, h2, _⟩ := h1
      exact .kList h1 h2
  case dic o ks ws =>
    obtain ⟨x, h, kv, vs, rfl, h1, h2, h3⟩ := rep_dic k q
    cases h2
    exact .base (.dK h1)
def mIsi (k : TyK) (ma : EM Arg) : EM D := fun env => (ma env).bind fun (x, e) => match x.get e with
  | some d => mLift ((isK k d).map .bl) e
  | none => .bad
/-! ### further readings -/
def mChain (g g' : D → D → Option D) (ma mb mc : EM Arg) : EM D := fun env => (ma env).bind fun (x, e1) => (mb e1).bind fun (y, e2) =>
  match x.get e2, y.get e2 with
  | some d1, some d2 => match (g d1 d2).bind D.bool with
    | some true => (mc e2).bind fun (z, e3) => match y.get e3, z.get e3 with
      | some d2', some d3 => mLift (g' d2' d3) e3
      | _, _ => .bad
    | some false => .ok (.bl false, e2)
    | none => .bad
  | _, _ => .bad
def mNoP : EM (Option Int) := fun env => .ok (none, env)
def mPart (m : EM D) : EM (Option Int) := fun env => (m env).bind fun (d, e) => match d with
  | .int i => .ok (some i, e)
  | _ => .bad
def mSl (ma : EM Arg) (ml mh : EM (Option Int)) : EM D := fun env => (ma env).bind fun (x, e1) => (ml e1).bind fun (lo, e2) => (mh e2).bind fun (hi, e3) =>
  match x.get e3 with
  | some d => mLift (slD d lo hi) e3
  | none => .bad
def tO (G : Gm) (W : WX) (m : EM (Option Int)) : TO := fun σ H Q => ∃ a env, a.H = H ∧ RelE G a σ env ∧ PostR G W σ a (m env) fun x _ b => Q x b.H
/- xs[k] = v, xs in slot j -/
def setQ (d i y : D) : Option D := match d, i with
  | .lst true l, .int k => (ixN l.length k).map fun n => .lst true (l.set n y)
  | _, _ => none
def mSet (j : Nat) (mi mv : EM D) : EM FlowD := fun env => (mv env).bind fun (y, e1) =>
  match e1[j]? with
  | some (some _) => (mFrz mi e1).bind fun (x, e2) => match e2[j]?, x.get e2 with
    | some (some d), some i => match setQ d i (frzQ y) with
      | some d' => .ok (.next, e2.set j (some d'))
      | none => .bad
    | _, _ => .bad
  | _ => .bad
theorem repL_map {C : KM} {a b : Wd} {r s : Nat} {p q : List Nat} (h : ∀ d j v, Rep C a r (j :: p) v d → Rep C b s (j :: q) v d) : ∀ {l : List D} {n : Nat} {vs : List V}, RepL C a r p n vs l → RepL C b s q n vs l
  | [], n, vs, e => e
  | d :: l, n, vs, ⟨v, us, e, h1, h2⟩ => ⟨v, us, e, h d n v h1, repL_map h h2⟩
theorem repL_set {C : KM} {a : Wd} {r : Nat} {p : List Nat} {y : D} {v : V} (hy : ∀ k, Rep C a r (k :: p) v y) : ∀ {l : List D} {m n : Nat} {vs : List V}, RepL C a r p m vs l → RepL C a r p m (vs.set n v) (l.set n y)
  | [], m, n, vs, e => by simp only [RepL] at e; subst e; simp [RepL]
  | d :: l, m, 0, vs, ⟨u, us, e, h1, h2⟩ => by subst e; exact ⟨v, us, rfl, hy m, h2⟩
  | d :: l, m, n + 1, vs, ⟨u, us, e, h1, h2⟩ => by subst e; exact ⟨u, us.set n v, rfl, h1, repL_set hy h2⟩
section
variable {G : Gm} {W : WX} {σ : L2.St} {H : Hp} {Q : VK} {ma mb mc : EM Arg}
theorem isi_w {k : TyK} (h : tE G W (mIsi k ma) σ H Q) : tCB (rIsi G.C.K) (tCons (tArg G W ma) (tCons (tC (.ty k.nm)) tNil)) σ H Q := by
  obtain ⟨a, env, rfl, rel, post⟩ := h
  refine tArg_of rel post fun x e b v st r ar p => ?_
  dsimp only at p
  cases hx : x.get e with
  | none => rw [hx] at p; exact (show False from p).elim
  | some d =>
    rw [hx] at p
    dsimp only at p
    obtain ⟨d', hd, k'⟩ := p.lift r
    obtain ⟨r1, p1⟩ := ar.rep r hx
    cases hk : isK k d with
    | none => rw [hk] at hd; cases hd
    | some bb =>
      rw [hk] at hd; cases hd
      obtain ⟨t, h1, h2⟩ := isK_kit hk
      exact ⟨v, .ty k.nm, .type t, .type k.nm, bb, rfl, .ty _, rep_ty r.ok h1 p1, kit_ty h2, k' b (Grow.refl b) r.ok _ rep_ofbl⟩
theorem chain_w {g g' : D → D → Option D} (h : tE G W (mChain g g' ma mb mc) σ H Q) : tChain (rD G.C g) (rD G.C g') (tArg G W ma) (tArg G W mb) (tArg G W mc) σ H Q := by
  obtain ⟨a, env, rfl, rel, post⟩ := h
  refine tArg_of rel post fun x e1 b v s1 rel1 ar1 post1 => ?_
  refine tArg_of rel1 post1 fun y e2 c u s2 rel2 ar2 post2 => ?_
  have ar1 := ar1.step rel1.ok s2
  dsimp only at post2
  cases hx : x.get e2 with
  | none => simp only [hx] at post2; exact (show False from post2).elim
  | some d1 =>
    cases hy : y.get e2 with
    | none => simp only [hx, hy] at post2; exact (show False from post2).elim
    | some d2 =>
      simp only [hx, hy] at post2
      cases hg : g d1 d2 with
      | none => simp only [hg] at post2; exact (show False from post2).elim
      | some dd =>
        cases hb : dd.bool with
        | none => simp only [hg, Option.bind_some, hb] at post2; exact (show False from post2).elim
        | some bb =>
          simp only [hg, Option.bind_some, hb] at post2
          cases D.bool_eq hb
          obtain ⟨r1, p1⟩ := ar1.rep rel2 hx
          obtain ⟨r2, p2⟩ := ar2.rep rel2 hy
          refine ⟨c, d1, d2, r1, r2, _, rfl, rel2.ok, p1, p2, hg, fun z b' gr ok rp => ?_⟩
          cases rep_bl rp
          have rel3 := rel2.grow gr ok
          refine ⟨bb, rfl, ?_⟩
          cases bb with
          | false =>
            rw [if_neg Bool.false_ne_true]
            exact post2 b' gr.step rel3 _ rep_ofbl
          | true =>
            rw [if_pos rfl]
            refine tArg_of rel3 (PostR.step gr.step post2) fun z e3 c3 u3 s3 rel4 ar3 post3 => ?_
            dsimp only at post3
            have ar2 := (ar2.step rel2.ok gr.step).step ok s3
            cases hy : y.get e3 with
            | none => simp only [hy] at post3; exact (show False from post3).elim
            | some d2' =>
              cases hz : z.get e3 with
              | none => simp only [hy, hz] at post3; exact (show False from post3).elim
              | some d3 =>
                simp only [hy, hz] at post3
                obtain ⟨d, hd, k⟩ := post3.lift rel4
                obtain ⟨r3, p3⟩ := ar2.rep rel4 hy
                obtain ⟨r4, p4⟩ := ar3.rep rel4 hz
                exact ⟨c3, d2', d3, r3, r4, d, rfl, rel4.ok, p3, p4, hd, fun z b' gr ok rp => k b' gr ok z rp⟩
theorem noP_w {R : Option Int → Hp → Prop} (h : tO G W mNoP σ H R) : tNoPart σ H R := by
  obtain ⟨a, env, rfl, rel, post⟩ := h
  exact post a (Step.refl a) rel
theorem part_w {m : EM D} {R : Option Int → Hp → Prop} (h : tO G W (mPart m) σ H R) : tPart (tE G W m) σ H R := by
  obtain ⟨a, env, rfl, rel, post⟩ := h
  refine tE_of rel post fun x e b v st r rp p => ?_
  dsimp only at p
  cases x <;> dsimp only at p <;> first | exact (show False from p).elim | skip
  cases rep_int rp
  exact ⟨_, rfl, p b (Step.refl b) r⟩
theorem sl_w {ml mh : EM (Option Int)} (h : tE G W (mSl ma ml mh) σ H Q) : tSl (rSD G.C) (tArg G W ma) (tO G W ml) (tO G W mh) σ H Q := by
  obtain ⟨a, env, rfl, rel, post⟩ := h
  refine tArg_of rel post fun x e1 b v s1 rel1 ar1 post1 => ?_
  refine ⟨b, e1, rfl, rel1, post1.bind.imp fun lo e2 c s2 rel2 post2 => ?_⟩
  refine ⟨c, e2, rfl, rel2, post2.bind.imp fun hi e3 c3 s3 rel3 post3 => ?_⟩
  dsimp only at post3
  have ar1 := (ar1.step rel1.ok s2).step rel2.ok s3
  cases hx : x.get e3 with
  | none => rw [hx] at post3; exact (show False from post3).elim
  | some d1 =>
    rw [hx] at post3
    dsimp only at post3
    obtain ⟨d, hd, k⟩ := post3.lift rel3
    obtain ⟨r1, p1⟩ := ar1.rep rel3 hx
    exact ⟨c3, d1, r1, d, rfl, rel3.ok, p1, hd, fun z b' gr ok rp => k b' gr ok z rp⟩
/- the slot's own list changed at a place -/
theorem RelE.put {a : Wd} {env : EnvD} {j : Nat} {l : List D} {y : D} {v : V} {n s : Nat} {q : List Nat} (r : RelE G a σ env) (h : env[j]? = some (some (.lst true l))) (z : fz y = true) (hy : Rep G.C a s q v y) :
    ∃ x vs, σ[j]? = some (some (.ref x)) ∧ a.H x = some (.lst vs) ∧ vs.length = l.length ∧ Step a ⟨a.F, upd a.H x (.lst (vs.set n v)), a.t⟩ ∧ RelE G ⟨a.F, upd a.H x (.lst (vs.set n v)), a.t⟩ σ (env.set j (some (.lst true (l.set n y)))) := by
  obtain ⟨w, h1, h2⟩ := r.slot j _ h
  simp only [Rep] at h2
  obtain ⟨x, vs, rfl, hx, hl⟩ := h2
  rw [if_pos trivial] at hx
  obtain ⟨tx, hx⟩ := hx
  have ne : ∀ {y : Addr} {t : Option Tag}, a.t y = t → t ≠ some (j + 1, []) → y ≠ x := fun e ht => by rintro rfl; rw [tx] at e; exact ht e.symm
  have fx : a.F x = none := (r.ok.own x _ tx).1
  have up : ∀ {y : Addr}, y ≠ x → upd a.H x (.lst (vs.set n v)) y = a.H y := fun e => upd_ne e
  have ok' : Ok ⟨a.F, upd a.H x (.lst (vs.set n v)), a.t⟩ := by
    refine ⟨fun y o e => ?_, fun y t e => ?_⟩
    · have : y ≠ x := by rintro rfl; have e : a.F y = some o := e; rw [fx] at e; cases e
      show upd a.H x _ y = _
      rw [up this]; exact r.ok.sub y o e
    · obtain ⟨g1, o, g2⟩ := r.ok.own y t e
      by_cases q : y = x
      · subst q; exact ⟨g1, _, upd_same⟩
      · exact ⟨g1, o, by show upd a.H x _ y = _; rw [up q]; exact g2⟩
  have mv : ∀ {d : D} {r p} {v1 : V}, (∀ z, (r, z ++ p) ≠ (j + 1, ([] : List Nat))) → Rep G.C a r p v1 d → Rep G.C ⟨a.F, upd a.H x (.lst (vs.set n v)), a.t⟩ r p v1 d := fun {d r p v1} hne h => by
    have := Rep.to (C := G.C) (a := a) (b := ⟨a.F, upd a.H x (.lst (vs.set n v)), a.t⟩) (r := r) (s := r) (p := p) (q := p) (fun _ _ h => h) (fun y z o h e => ⟨h, by
      show upd a.H x _ y = _
      rw [up (ne h (by intro q; exact hne z (Option.some.inj q)))]; exact e⟩) d [] v1
    exact this h
  refine ⟨x, vs, h1, hx, hl.len, fun y o e t => ⟨by show upd a.H x _ y = _; rw [up (ne t (by simp))]; exact e, t, rfl⟩, ⟨ok', by rw [List.length_set]; exact r.len, fun i d e => ?_, r.prm⟩⟩
  by_cases ij : j = i
  · subst ij
    have hj : j < env.length := (List.getElem?_eq_some_iff.mp h).1
    rw [List.getElem?_set_self hj] at e
    cases e
    refine ⟨.ref x, h1, ?_⟩
    simp only [Rep]
    refine ⟨x, vs.set n v, rfl, ?_, ?_⟩
    · rw [if_pos trivial]; exact ⟨tx, upd_same⟩
    · exact repL_set (fun k => Rep.fz (a := a) (b := ⟨a.F, upd a.H x (.lst (vs.set n v)), a.t⟩) (fun _ _ h => h) y _ _ v z hy) (repL_map (fun d k v1 h => mv (by simp) h) hl)
  · rw [List.getElem?_set_ne ij] at e
    obtain ⟨w, e1, e2⟩ := r.slot i d e
    exact ⟨w, e1, mv (by intro z q; exact ij (Nat.succ.inj (congrArg Prod.fst q)).symm) e2⟩
theorem set_w {j : Nat} {mi mv : EM D} {D : Ends} (h : tS G W (mSet j mi mv) D σ H) : tAsg (tE G W mv) (gSub (tVar j) (tE G W mi) rSetL) D σ H := by
  obtain ⟨a, env, rfl, rel, post⟩ := h
  refine tE_ofS rel post fun y e1 b v st r1 rv p1 => ?_
  dsimp only at p1
  split at p1
  · rename_i dj hj0
    obtain ⟨zy, ry⟩ := frzQ_rep (s := 0) (q := []) r1.ok rv
    have r1' := r1.frz0
    obtain ⟨w, hw, _⟩ := r1.slot j _ hj0
    refine ⟨w, hw, ?_⟩
    show tE G W mi σ (frzW b 0).H _
    refine (frz_w (m := mi) (Q := fun i H2 => rSetL w i v H2 fun H3 => D.nx σ H3) ?_)
    refine tArg_ofS r1' (PostS.step frzW_step p1) fun x e2 c u s2 r2 ar p2 => ?_
    dsimp only at p2
    split at p2
    · rename_i d i hj hi
      cases hs : setQ d i (frzQ y) with
      | none => rw [hs] at p2; exact (show False from p2).elim
      | some d' =>
        rw [hs] at p2
        dsimp only at p2
        obtain ⟨ri, pi⟩ := ar.rep r2 hi
        unfold setQ at hs
        split at hs
        · rename_i l k
          cases rep_int pi
          cases hk : ixN l.length k with
          | none => rw [hk] at hs; cases hs
          | some n =>
            rw [hk] at hs; cases hs
            obtain ⟨xx, vs, g1, g2, g3, g4, g5⟩ := r2.put (n := n) (s := 0) (q := []) hj zy (ry.step r1'.ok s2 zy)
            rw [hw] at g1; cases g1
            refine ⟨xx, vs, k, n, rfl, rfl, g2, by rw [g3]; exact hk, p2 _ σ g4 g5⟩
        · cases hs
    · exact (show False from p2).elim
  · exact (show False from p1).elim
end
end Mi
namespace L2
open PySem PySem.Spec PyProof.Rows
theorem PE.weak {X : Cx} {e : Expr} {t u : TE} (h : PE X e t) (w : ∀ σ H Q, u σ H Q → t σ H Q) : PE X e u := Mi.PE.weak h w
theorem PT.weak {X : Cx} {e : Expr} {t u : TT} (h : PT X e t) (w : ∀ σ H Q, u σ H Q → t σ H Q) : PT X e u := Mi.PT.weak h w
theorem PW.weak {X : Cx} {e : Expr} {t u : TT} (h : PW X e t) (w : ∀ σ H Q, u σ H Q → t σ H Q) : PW X e u := Mi.PW.weak h w
theorem PA.weak {X : Cx} {e : List Expr} {t u : TA} (h : PA X e t) (w : ∀ σ H Q, u σ H Q → t σ H Q) : PA X e u := Mi.PA.weak h w
theorem PS.weak {X : Cx} {e : Stmt} {t u : TS} (h : PS X e t) (w : ∀ D σ H, u D σ H → t D σ H) : PS X e u := Mi.PS.weak h w
theorem PSs.weak {X : Cx} {e : List Stmt} {t u : TS} (h : PSs X e t) (w : ∀ D σ H, u D σ H → t D σ H) : PSs X e u := Mi.PSs.weak h w
theorem PI.weak {X : Cx} {tg e : Expr} {t u : TI} (h : PI X tg e t) (w : ∀ σ H R, u σ H R → t σ H R) : PI X tg e u := Mi.PI.weak h w
end L2
namespace Mi
open PySem PySem.Spec PyProof.Rows L2

/-! ### rules: expressions -/
section
variable {X : Cx} {G : Gm} {W : WX} {lv : Nat} {a b c e : Expr} {es : List Expr} {ma mb mc : EM Arg} {m n : EM D} {ms : List (EM Arg)} {mas : EM (List Arg)} {pos p : Pos} {x : Str}
theorem r_int {i : Int} {j} : PE X (.Constant (.int i) j pos) (tE G W (mC (.int i))) := pe_int.weak fun _ _ _ q => c_w (fun _ _ => by simp [Rep]) q
theorem r_str {i : Str} {j} : PE X (.Constant (.str i) j pos) (tE G W (mC (.str i))) := pe_str.weak fun _ _ _ q => c_w (fun _ _ => by simp [Rep]) q
theorem r_bl {i : Bool} {j} : PE X (.Constant (.bool i) j pos) (tE G W (mC (.bl i))) := pe_bl.weak fun _ _ _ q => c_w (fun _ _ => by simp [Rep]) q
theorem r_non {j} : PE X (.Constant .none j pos) (tE G W (mC .non)) := pe_non.weak fun _ _ _ q => c_w (fun _ _ => by simp [Rep]) q
theorem r_frz (h : PE X e (tE G W m)) : PE X e (tArg G W (mFrz m)) := h.weak fun _ _ _ q => frz_w q
theorem r_varA (i : Nat) (hN : X.N[i]? = some x) (hv : Vis X.env.scope x) (hd : (x == ("__debug__" : Str)) = false := by decide) (hcd : (x == ("__classdict__" : Str)) = false := by decide) : PE X (.Name x pos) (tArg G W (mVarA i)) :=
  (pe_var hN hv hd hcd).weak fun _ _ _ q => varA_w q
theorem r_varE (i : Nat) (hN : X.N[i]? = some x) (hv : Vis X.env.scope x) (hd : (x == ("__debug__" : Str)) = false := by decide) (hcd : (x == ("__classdict__" : Str)) = false := by decide) : PE X (.Name x pos) (tE G W (mVarE i)) :=
  (pe_var hN hv hd hcd).weak fun _ _ _ q => varE_w q
theorem r_varM (np i : Nat) (hN : X.N[i]? = some x) (hv : Vis X.env.scope x) (hd : (x == ("__debug__" : Str)) = false := by decide) (hcd : (x == ("__classdict__" : Str)) = false := by decide) : PE X (.Name x pos) (tE G W (mVarM np i)) :=
  (pe_var hN hv hd hcd).weak fun _ _ _ q => varM_w q
/- a module's constant -/
theorem r_gInt (s : St0 X G) {i : Int} (hm : ∃ t, G.C.mg x = some (.int i t)) (hg : Gl X x) (hd : (x == ("__debug__" : Str)) = false := by decide) : PE X (.Name x pos) (tE G W (mC (.int i))) := by
  obtain ⟨t, hm⟩ := hm
  exact (pe_glob (v := .int i) hg (by rw [s.m]; exact hm) ⟨_, rfl⟩ hd).weak fun _ _ _ q => c_w (fun _ _ => by simp [Rep]) q
theorem r_gStr (s : St0 X G) {i : Str} (hm : ∃ t, G.C.mg x = some (.str i t)) (hg : Gl X x) (hd : (x == ("__debug__" : Str)) = false := by decide) : PE X (.Name x pos) (tE G W (mC (.str i))) := by
  obtain ⟨t, hm⟩ := hm
  exact (pe_glob (v := .str i) hg (by rw [s.m]; exact hm) ⟨_, rfl⟩ hd).weak fun _ _ _ q => c_w (fun _ _ => by simp [Rep]) q
theorem r_tup {k} (h : PA X es (tArgs G W mas)) : PE X (.Tuple es k pos) (tE G W (mTup mas)) := (pe_tupX h).weak fun _ _ _ q => tup_w q
theorem r_lst (h : PA X es (tArgs G W mas)) : PE X (.List es pos) (tE G W (mLst mas)) := (pe_lst h).weak fun _ _ _ q => lst_w q
theorem r_dic0 : PE X (.Dict [] [] pos) (tE G W mDic0) := pe_dnewK.weak fun _ _ _ q => dic0_w q
theorem r_nil : PA X [] (tArgs G W (mArgs [])) := pa_nil.weak fun _ _ _ q => args_nil_w q
theorem r_cons (ha : PE X e (tArg G W ma)) (hr : PA X es (tArgs G W (mArgs ms))) (hs : starEach (e :: es) X.env = (false, eval e X.env) :: starEach es X.env := by rfl) : PA X (e :: es) (tArgs G W (mArgs (ma :: ms))) :=
  (pa_cons ha hr hs).weak fun _ _ _ q => args_cons_w q
theorem r_bin (s : St0 X G) {op : Operator} {g : D → D → Option D} (h : binD op = some g) (ha : PE X a (tArg G W ma)) (hb : PE X b (tArg G W mb)) : PE X (.BinOp a op b pos) (tE G W (mBin g ma mb)) :=
  (pe_op (op_binD s.k.symm h) ha hb).weak fun _ _ _ q => bin_w q
theorem r_neg (ha : PE X a (tArg G W ma)) : PE X (.UnaryOp .USub a pos) (tE G W (mUn negD ma)) := (pe_un un_negD ha).weak fun _ _ _ q => un_w q
def cmpD : CmpOp → Option (D → D → Option D)
  | .Eq => some eqD | .NotEq => some neD | .Lt => some ltD | .LtE => some leD | .Gt => some gtD | .GtE => some geD
  | .In => some inD | .NotIn => some ninD | .Is => some isD | .IsNot => some nisD
theorem op_cmpD (s : St0 X G) {op : CmpOp} {g : D → D → Option D} (h : cmpD op = some g) : OpR X (compareOp op) (rD G.C g) := by
  have u1 : X.A.units + 1 < cLine := by have := s.u; omega
  cases op <;> cases h
  · exact op_eqDD s.k.symm s.u
  · exact op_neDD s.k.symm s.u
  · exact op_ltD
  · exact op_leD
  · exact op_gtD
  · exact op_geD
  · exact op_isD s.k.symm
  · exact op_nisD s.k.symm
  · exact op_inD s.k.symm u1
  · exact op_ninD s.k.symm u1
theorem r_cmp (s : St0 X G) {op : CmpOp} {g : D → D → Option D} (h : cmpD op = some g) (ha : PE X a (tArg G W ma)) (hb : PE X b (tArg G W mb)) (hm : behindInMarks op b = false := by first | rfl | exact nobehind _ (by decide) (by decide)) : PE X (.Compare a [op] [b] pos) (tE G W (mBin g ma mb)) :=
  (pe_cmpR (op_cmpD s h) ha hb hm).weak fun _ _ _ q => bin_w q
theorem rt_cmp (s : St0 X G) {op : CmpOp} {g : D → D → Option D} (h : cmpD op = some g) (ha : PE X a (tArg G W ma)) (hb : PE X b (tArg G W mb)) (hm : behindInMarks op b = false := by first | rfl | exact nobehind _ (by decide) (by decide)) : PT X (.Compare a [op] [b] pos) (tT G W (mTB (mBin g ma mb))) :=
  (pt_cmpR (op_cmpD s h) ha hb hm).weak fun _ _ _ q => bin_w (tb_w q)
theorem r_chain (s : St0 X G) {op op' : CmpOp} {g g' : D → D → Option D} (h : cmpD op = some g) (h' : cmpD op' = some g') (ha : PE X a (tArg G W ma)) (hb : PE X b (tArg G W mb)) (hc : PE X c (tArg G W mc)) (hm : lastMarks [op, op'] [b, c] = false := by with_unfolding_all rfl) :
    PE X (.Compare a [op, op'] [b, c] pos) (tE G W (mChain g g' ma mb mc)) := (pe_chain (op_cmpD s h) (op_cmpD s h') ha hb hc hm).weak fun _ _ _ q => chain_w q
theorem rt_chain (s : St0 X G) {op op' : CmpOp} {g g' : D → D → Option D} (h : cmpD op = some g) (h' : cmpD op' = some g') (ha : PE X a (tArg G W ma)) (hb : PE X b (tArg G W mb)) (hc : PE X c (tArg G W mc)) (hm : lastMarks [op, op'] [b, c] = false := by with_unfolding_all rfl) :
    PT X (.Compare a [op, op'] [b, c] pos) (tT G W (mTB (mChain g g' ma mb mc))) := (pt_chain (op_cmpD s h) (op_cmpD s h') ha hb hc hm).weak fun _ _ _ q => chain_w (tb_w q)
/-! values of and, or, not, if -/
theorem r_one {op} (h : PE X a (tE G W m)) : PE X (.BoolOp op [a] pos) (tE G W m) := pe_one h
theorem r_and (ha : PE X a (tE G W m)) (hb : PE X (.BoolOp .And (b :: es) pos) (tE G W n)) : PE X (.BoolOp .And (a :: b :: es) pos) (tE G W (mAndV m n)) := (pe_and ha hb).weak fun _ _ _ q => andV_w q
theorem r_or (ha : PE X a (tE G W m)) (hb : PE X (.BoolOp .Or (b :: es) pos) (tE G W n)) : PE X (.BoolOp .Or (a :: b :: es) pos) (tE G W (mOrV m n)) := (pe_or ha hb).weak fun _ _ _ q => orV_w q
theorem r_not (ha : PE X a (tE G W m)) : PE X (.UnaryOp .Not a pos) (tE G W (mNotV m)) := (pe_not ha).weak fun _ _ _ q => notV_w q
variable {mt nt : EM Bool}
theorem r_ifE (hc : PT X c (tT G W mt)) (ha : PE X a (tE G W m)) (hb : PE X b (tE G W n)) : PE X (.IfExp c a b pos) (tE G W (mIfE mt m n)) := (pe_ifExp hc ha hb).weak fun _ _ _ q => ifE_w q
/-! tests -/
theorem rt_and1 (h : PT X a (tT G W mt)) : PW X (.BoolOp .And [a] pos) (tT G W mt) := pw_and1 h
theorem rt_or1 (h : PT X a (tT G W mt)) : PW X (.BoolOp .Or [a] pos) (tT G W mt) := pw_or1 h
theorem rt_and (h : PT X a (tT G W mt)) (hb : PW X (.BoolOp .And (b :: es) pos) (tT G W nt)) : PW X (.BoolOp .And (a :: b :: es) pos) (tT G W (mAndT mt nt)) := (pw_and h hb).weak fun _ _ _ q => and_w q
theorem rt_or (h : PT X a (tT G W mt)) (hb : PW X (.BoolOp .Or (b :: es) pos) (tT G W nt)) : PW X (.BoolOp .Or (a :: b :: es) pos) (tT G W (mOrT mt nt)) := (pw_or h hb).weak fun _ _ _ q => or_w q
theorem rt_not (h : PT X a (tT G W mt)) : PT X (.UnaryOp .Not a pos) (tT G W (mNotT mt)) := (pt_not h).weak fun _ _ _ q => not_w q
theorem rt_bl (h : PE X e (tE G W m)) (he : ∀ whole, isTrue e X.env whole = (do let v ← whole; standAt e.pos; holding [v] (truthy v)) := by intro _; rfl) : PT X e (tT G W (mTB m)) := (pt_val h he).weak fun _ _ _ q => tb_w q
theorem rt_tru (s : St0 X G) (h : PE X e (tArg G W ma)) (he : ∀ whole, isTrue e X.env whole = (do let v ← whole; standAt e.pos; holding [v] (truthy v)) := by intro _; rfl) : PT X e (tT G W (mTru ma)) := (pt_truth h he).weak fun _ _ _ q => by
  have := tru_w q
  rw [s.k]; exact this
/-! subscripts -/
theorem r_ix (s : St0 X G) (ha : PE X a (tArg G W ma)) (hb : PE X b (tArg G W mb)) (hs : PlainIx b := by intro _ _; rfl) : PE X (.Subscript a b pos) (tE G W (mBin ixD ma mb)) := (pe_ix (ix_D s.k.symm (by have := s.u; omega)) ha hb hs).weak fun _ _ _ q => bin_w q
variable {lo hi : Option Expr} {ml mh : EM (Option Int)} {p2 : Pos}
theorem PO.weak {o : Option Expr} {t u : TO} (h : PO X o t) (w : ∀ σ H Q, u σ H Q → t σ H Q) : PO X o u := ⟨fun pins s σ H Q I q => h.run pins s σ H Q I (w σ H Q q)⟩
theorem r_noP : PO X none (tO G W mNoP) := PO.weak po_none fun _ _ _ q => noP_w q
theorem r_part (h : PE X e (tE G W m)) : PO X (some e) (tO G W (mPart m)) := PO.weak (po_some h) fun _ _ _ q => part_w q
theorem r_sl (s : St0 X G) (ha : PE X a (tArg G W ma)) (hl : PO X lo (tO G W ml)) (hh : PO X hi (tO G W mh)) : PE X (.Subscript a (.Slice lo hi none p2) pos) (tE G W (mSl ma ml mh)) := (pe_slice (sl_D s.k.symm) ha hl hh).weak fun _ _ _ q => sl_w q
/-! builtins -/
theorem r_isi (s : St0 X G) (k : TyK) {tn : Str} {p3 : Pos} (ha : PE X a (tArg G W ma)) (h1 : G.C.mg "isinstance" = none) (h2 : G.C.mg tn = none) (hg : Gl X "isinstance") (hgt : Gl X tn) (hv : bootBuiltins tn = some (.type k.nm)) (hv1 : bootBuiltins "isinstance" = some (.builtin "isinstance"))
    (hn : tn ≠ "__name__" := by decide) (hd : (tn == ("__debug__" : Str)) = false := by decide)
    (hs : starEach [a, .Name tn p3] X.env = (false, eval a X.env) :: starEach [.Name tn p3] X.env := by rfl) (hpl : (backTo pos (starEach [Expr.Name tn p3] X.env)).any (·.1) = false := by rfl) :
    PE X (.Call (.Name "isinstance" p) [a, .Name tn p3] [] pos) (tE G W (mIsi k ma)) :=
  (pe_callB call_isi hg (by rw [s.m]; exact h1) hv1 (pa_cons ha (pa_cons (pe_bltn hgt (by rw [s.m]; exact h2) hv (show RelV (.ty k.nm) _ from rfl) hn hd) pa_nil) hs) (by decide) (by decide) hs hpl).weak fun _ _ _ q => by
    have := isi_w q
    rw [s.k]; exact this
theorem r_cb (s : St0 X G) {id : String} {g : List D → Option D} (hc : CallR X (.builtin id) (cD G.C g)) (hm : G.C.mg x = none) (hv : bootBuiltins x = some (.builtin id)) (hg : Gl X x) (ha : PA X (e :: es) (tArgs G W mas)) (hn : x ≠ "__name__" := by decide) (hdb : (x == ("__debug__" : Str)) = false := by decide)
    (he : starEach (e :: es) X.env = (false, eval e X.env) :: starEach es X.env := by rfl) (hpl : (backTo pos (starEach es X.env)).any (·.1) = false := by rfl) : PE X (.Call (.Name x p) (e :: es) [] pos) (tE G W (mCB g mas)) :=
  (pe_callB hc hg (by rw [s.m]; exact hm) hv ha hn hdb he hpl).weak fun _ _ _ q => cb_w q
theorem r_cty (s : St0 X G) {id : String} {g : List D → Option D} (hc : CallR X (.type id) (cD G.C g)) (hm : G.C.mg x = none) (hv : bootBuiltins x = some (.type id)) (hg : Gl X x) (ha : PA X (e :: es) (tArgs G W mas)) (hn : x ≠ "__name__" := by decide) (hdb : (x == ("__debug__" : Str)) = false := by decide)
    (he : starEach (e :: es) X.env = (false, eval e X.env) :: starEach es X.env := by rfl) (hpl : (backTo pos (starEach es X.env)).any (·.1) = false := by rfl) : PE X (.Call (.Name x p) (e :: es) [] pos) (tE G W (mCB g mas)) :=
  (pe_callTy hc hg (by rw [s.m]; exact hm) hv ha hn hdb he hpl).weak fun _ _ _ q => cb_w q
end

/-! ### rules: own defs -/
structure Fn (C : KM) (k : Nat) (x : Str) (g : List D → Res (D × EnvD)) : Prop where
  ex : ∃ (a : Addr) (fd : FuncData) (ps : List Str), C.mg x = some (.ref a) ∧ PySem.W.keepIn C.K (.ref a) = true ∧ Binds C.K fd ps [] ∧ ∀ base : Heap, C.K.In base → base.Ns mainGlobals C.mg → FnOk C.P C.w C.K C.mg base (L2.CX C.P C.w) k a fd ps (spD C g)
section
variable {X : Cx} {G : Gm} {W : WX} {lv j : Nat} {e : Expr} {es : List Expr} {mas : EM (List Arg)} {pos p : Pos} {x : Str} {g : List D → Res (D × EnvD)}
theorem Fn.call (F : Fn G.C j x g) (s : Go X G W lv) (h : j ≤ lv) : ∃ a, G.C.mg x = some (.ref a) ∧ PySem.W.keepIn G.C.K (.ref a) = true ∧ CallOk G.C X g (.ref a) := by
  obtain ⟨a, fd, ps, h1, h2, h3, h4⟩ := F.ex
  refine ⟨a, h1, h2, fun W' tk pins s0 σ H us vs Q I r hsp => ?_⟩
  have hk : G.C.K.In X.base := by rw [← s.k]; exact I.ok.mod.kin
  have hb : X.base.Ns mainGlobals G.C.mg := by rw [← s.m]; exact I.ok.mod.glob
  have F' := h4 X.base hk hb
  have e1 := s.p; have e2 := s.w; have e3 := s.k; have e4 := s.m
  rw [← e1, ← e2, ← e3, ← e4] at F'
  rw [← e3] at h3
  exact run_fnS (E := WE W') F' (s.rm.mono h) h3 (passAt tk σ) I r hsp
theorem r_call (s : Go X G W lv) (F : Fn G.C j x g) (hj : j ≤ lv) (hg : Gl X x) (ha : PA X (e :: es) (tArgs G W mas)) (hdb : (x == ("__debug__" : Str)) = false := by decide) (he : starEach (e :: es) X.env = (false, eval e X.env) :: starEach es X.env := by rfl)
    (hpl : (backTo pos (starEach es X.env)).any (·.1) = false := by rfl) : PE X (.Call (.Name x p) (e :: es) [] pos) (tE G W (mCall g mas)) := by
  obtain ⟨a, h1, h2, h3⟩ := F.call s hj
  exact pe_callD h3 s.tk hg (by rw [s.m]; exact h1) (by rw [s.k]; exact h2) ha hdb he hpl
theorem r_call0 (s : Go X G W lv) (F : Fn G.C j x g) (hj : j ≤ lv) (hg : Gl X x) (hdb : (x == ("__debug__" : Str)) = false := by decide) : PE X (.Call (.Name x p) [] [] pos) (tE G W (mCall g (mArgs []))) := by
  obtain ⟨a, h1, h2, h3⟩ := F.call s hj
  exact pe_callD0 h3 s.tk hg (by rw [s.m]; exact h1) (by rw [s.k]; exact h2) hdb
end

/-! ### rules: walks, targets -/
section
variable {X : Cx} {G : Gm} {W : WX} {lv : Nat} {a b e tg : Expr} {es : List Expr} {ma : EM Arg} {mas : EM (List Arg)} {pos p : Pos} {x : Str}
theorem ri_rng1 (s : St0 X G) (h1 : G.C.mg "range" = none) (hg : Gl X "range") (ha : PA X [a] (tArgs G W mas)) (hs : starEach [a] X.env = [(false, eval a X.env)] := by rfl) : PI X tg (.Call (.Name "range" p) [a] [] pos) (tI G W (mIt mas rng1)) :=
  (pi_range1 hg (by rw [s.m]; exact h1) ha hs).weak fun _ _ _ q => rng1_w q
theorem ri_rng2 (s : St0 X G) (h1 : G.C.mg "range" = none) (hg : Gl X "range") (ha : PA X [a, b] (tArgs G W mas)) (hs : starEach [a, b] X.env = [(false, eval a X.env), (false, eval b X.env)] := by rfl) (hs2 : starEach [b] X.env = [(false, eval b X.env)] := by rfl) : PI X tg (.Call (.Name "range" p) [a, b] [] pos) (tI G W (mIt mas rng2)) :=
  (pi_range2 hg (by rw [s.m]; exact h1) ha hs hs2).weak fun _ _ _ q => rng2_w q
theorem ri_val (s : St0 X G) (ha : PE X e (tArg G W ma)) : PI X tg e (tI G W (mIt1 ma)) :=
  (pi_or (pi_list ha) (pi_or (pi_tup ha) (pi_str ha))).weak fun _ _ _ q => by
    have := it1_w q
    rw [s.k]; exact this
theorem rg_nm (s : St0 X G) (i : Nat) (hi : X.N[i]? = some x) (hx : Loc X.env.scope x) (hf : X.fn x = true ∨ X.env.scope.names.lookup x = some .local := by first | exact .inl rfl | exact .inr rfl) : PG X (.Name x pos) (gT G.C.K (.nm i)) := by
  have := pg_name (pos := pos) s.n hi hx hf
  simpa only [gT] using this
theorem rg_nil : PGs X [] (gTs G.C.K []) := by simpa only [gTs] using pgs_nil
theorem rg_cons {t : Tgt} {ts : List Tgt} (h1 : PG X e (gT G.C.K t)) (h2 : PGs X es (gTs G.C.K ts)) (hs : (assignEach (e :: es) X.env).map (·.2) = assign e X.env :: (assignEach es X.env).map (·.2) := by rfl) : PGs X (e :: es) (gTs G.C.K (t :: ts)) := by
  simpa only [gTs] using pgs_cons h1 h2 hs
theorem rg_tup (s : St0 X G) (cm : X.calm = true) {k : Nat} {ts : List Tgt} (h : PGs X es (gTs G.C.K ts)) (hn : (assignEach es X.env).length = ts.length := by rfl) (hst : (assignEach es X.env).findIdx? (·.1) = none := by rfl) : PG X (.Tuple es k pos) (gT G.C.K (.tp ts)) := by
  have := pg_tup (pos := pos) (k := k) (n := ts.length) cm h hn hst
  rw [s.k] at this
  simpa only [gT] using this
end
end Mi
namespace Mi
open PySem PySem.Spec PyProof.Rows L2

/-! ### rules: statements -/
section
variable {X : Cx} {G : Gm} {W : WX} {lv : Nat} {a b c e tg : Expr} {es : List Expr} {st : Stmt} {sts sus : List Stmt} {m n : EM D} {ma : EM Arg} {mas : EM (List Arg)} {mt : EM Bool} {ms ns : EM FlowD} {mi : EM (List D)} {pos p : Pos} {x : Str}
theorem rs_nil : PSs X [] (tS G W mNext) := pss_nil.weak fun _ _ _ q => next_w q
theorem rs_cons (h1 : PS X st (tS G W ms)) (h2 : PSs X sts (tS G W ns)) : PSs X (st :: sts) (tS G W (mSeq ms ns)) := (pss_cons h1 h2).weak fun _ _ _ q => seq_w q
theorem rs_one (h1 : PS X st (tS G W ms)) : PSs X [st] (tS G W ms) := pss_one h1
theorem rs_pass : PS X (.Pass pos) (tS G W mNext) := ps_pass.weak fun _ _ _ q => next_w q
theorem rs_brk : PS X (.Break pos) (tS G W mBrk) := ps_break.weak fun _ _ _ q => brk_w q
theorem rs_cnt : PS X (.Continue pos) (tS G W mCnt) := ps_continue.weak fun _ _ _ q => cnt_w q
theorem rs_if (hc : PT X c (tT G W mt)) (ha : PSs X sts (tS G W ms)) (hb : PSs X sus (tS G W ns)) : PS X (.If c sts sus pos) (tS G W (mIfS mt ms ns)) := (ps_if hc ha hb).weak fun _ _ _ q => ifS_w q
theorem rs_ret (h : PE X e (tE G W m)) : PS X (.Return (some e) pos) (tS G W (mRet m)) := (ps_ret h).weak fun _ _ _ q => ret_w q
theorem rs_retN : PS X (.Return none pos) (tS G W mRetN) := ps_retN.weak fun _ _ _ q => retN_w q
theorem rs_expr (h : PE X e (tE G W m)) (hs : swapsWith e none pos.line X.env = pure false := by rfl) : PS X (.Expr e pos) (tS G W (mDrop m)) := (ps_expr h hs).weak fun _ _ _ q => drop_w q
theorem rs_set (s : St0 X G) (i : Nat) {pos' : Pos} (hio : i ∉ G.io) (hi : X.N[i]? = some x) (hx : Loc X.env.scope x) (he : PE X e (tE G W m)) (hs : swapsWith e (some (.Name x pos')) pos.line X.env = pure false := by rfl)
    (hf : X.fn x = true ∨ X.env.scope.names.lookup x = some .local := by first | exact .inl rfl | exact .inr rfl) : PS X (.Assign [.Name x pos'] e pos) (tS G W (mAsg i m)) := (ps_set s.n hi hx he hs hf).weak fun _ _ _ q => asg_w hio q
theorem rs_setT (t : Tgt) (hio : Tgt.off G.io t) (he : PE X e (tE G W m)) (hg : PG X tg (gT G.C.K t)) (hs : swapsWithSole [tg] e pos.line X.env = pure false := by rfl) (hw : swappedStores [tg] e X.env = pure none := by rfl)
    (h1 : (assignEach [tg] X.env).map (·.2) = [assign tg X.env] := by rfl) : PS X (.Assign [tg] e pos) (tS G W (mAsgT t m)) := (ps_asg he hg hs hw h1).weak fun _ _ _ q => asgT_w hio q
theorem rs_par (s : St0 X G) (cm : X.calm = true) (i j : Nat) {y : Str} {px py pt : Pos} {kt k2 pt2} (ioi : i ∉ G.io) (ioj : j ∉ G.io) (hi : X.N[i]? = some x) (hj : X.N[j]? = some y) (hij : i ≠ j)
    (hx : X.env.scope.names.lookup x = some .local) (hy : X.env.scope.names.lookup y = some .local) (ha : PA X [a, b] (tArgs G W mas)) (hw : swappedStores [.Tuple [.Name x px, .Name y py] kt pt] (.Tuple [a, b] k2 pt2) X.env = pure (some [x, y]))
    (hs : swapsWithSole [.Tuple [.Name x px, .Name y py] kt pt] (.Tuple [a, b] k2 pt2) pos.line X.env = pure false := by rfl) : PS X (.Assign [.Tuple [.Name x px, .Name y py] kt pt] (.Tuple [a, b] k2 pt2) pos) (tS G W (mPar i j mas)) :=
  (ps_par cm s.n hi hj hij hx hy ha hw hs).weak fun _ _ _ q => par_w ioi ioj q
theorem rs_put (j : Nat) {pos' : Pos} (hN : X.N[j]? = some x) (hv : Vis X.env.scope x) (hi : PE X a (tE G W n)) (he : PE X e (tE G W m)) (hs : swapsWithSole [.Subscript (.Name x p) a pos'] e pos.line X.env = pure false := by rfl) (hw : swappedStores [.Subscript (.Name x p) a pos'] e X.env = pure none := by rfl)
    (h1 : (assignEach [.Subscript (.Name x p) a pos'] X.env).map (·.2) = [assign (.Subscript (.Name x p) a pos') X.env] := by rfl)
    (ha : ∀ v, assign (.Subscript (.Name x p) a pos') X.env v = (do
      let ov ← holding [v] (eval (.Name x p) X.env)
      let iv ← holding [v, ov] (eval a X.env)
      standAt pos'
      holding [v, ov, iv] (setItem ov iv v)
      release [v, ov, iv] []) := by intro _; rfl) (hd : (x == ("__debug__" : Str)) = false := by decide) (hcd : (x == ("__classdict__" : Str)) = false := by decide) : PS X (.Assign [.Subscript (.Name x p) a pos'] e pos) (tS G W (mSet j n m)) :=
  (ps_asg he (pg_sub (pe_var hN hv hd hcd) hi set_list ha) hs hw h1).weak fun _ _ _ q => set_w q
theorem rs_for (s : Go X G W lv) (t : Tgt) (hio : Tgt.off G.io t) (hi : PI X tg e (tI G W mi)) (hg : PG X tg (gT G.C.K t)) (hb : PSs X sts (tS G W ms)) (hs : ∀ x, foldedSetIterable e X.env x = pure x := by intro _; rfl) : PS X (.For tg e sts [] pos) (tS G W (mFor mi t ms)) :=
  (ps_for s.pw s.cm hi hg hb hs).weak fun _ _ _ q => for_w hio q
theorem rs_while (s : Go X G W lv) (fuel : EnvD → Nat) (hc : PT X c (tT G W mt)) (hb : PSs X sts (tS G W ms)) : PS X (.While c sts [] pos) (tS G W (mWhile fuel mt ms)) :=
  (ps_while s.pw hc hb).weak fun _ _ _ q => while_w q
/-! comprehensions -/
theorem rts_nil : PTs X [] (tT G W mYes) := ⟨fun pins s σ H Q I h => pts_nil.run pins s σ H Q I (by
  obtain ⟨a, env, rfl, rel, post⟩ := h
  exact post a (Step.refl a) rel)⟩
theorem rts_one (h : PT X c (tT G W mt)) : PTs X [c] (tT G W mt) := pts_one h
theorem r_lc {elt : Expr} {ifs : List Expr} {scope : Scope} (s : Go X G W lv) (own : List (Str × Nat)) (t : Tgt) (hio : Tgt.off G.io t) (hio2 : ∀ i ∈ G.io, i ∉ own.map (·.2)) (hown : Tgt.ins (own.map (·.2)) t) (hi : PI X tg e (tI G W mi)) (ok : BlkOk X.N X.env.scope scope own)
    (hg : ∀ (s : Shared) (H : Hp) (C : Addr) (cl : List (Str × Addr)) (fp : List Addr), PG (X.blk s H scope (compEnvC scope cl C X.env) fp) tg (gT G.C.K t))
    (ht : ∀ (s : Shared) (H : Hp) (C : Addr) (cl : List (Str × Addr)) (fp : List Addr), Go (X.blk s H scope (compEnvC scope cl C X.env) fp) G W0 lv → PTs (X.blk s H scope (compEnvC scope cl C X.env) fp) ifs (tT G W0 mt))
    (he : ∀ (s : Shared) (H : Hp) (C : Addr) (cl : List (Str × Addr)) (fp : List Addr), Go (X.blk s H scope (compEnvC scope cl C X.env) fp) G W0 lv → PE (X.blk s H scope (compEnvC scope cl C X.env) fp) elt (tE G W0 m)) (hs : ∀ x, foldedSetIterable e X.env x = pure x := by intro _; rfl) :
    PE X (.ListComp elt [⟨tg, e, ifs, 0⟩] scope pos) (tE G W (mLc mi t mt m (own.map (·.2)))) :=
  (pe_lc s.cm s.n hi ok hg (fun s0 H C cl fp => ht s0 H C cl fp (s.blk ..)) (fun s0 H C cl fp => he s0 H C cl fp (s.blk ..)) hs).weak fun _ _ _ q => lc_w hio hio2 hown q
theorem rs_lc {elt : Expr} {ifs : List Expr} {scope : Scope} {py : Pos} (s : Go X G W lv) (i : Nat) (own : List (Str × Nat)) (t : Tgt) (hioi : i ∉ G.io) (hio : Tgt.off G.io t) (hio2 : ∀ i ∈ G.io, i ∉ own.map (·.2)) (hown : Tgt.ins (own.map (·.2)) t)
    (hy : X.N[i]? = some x) (hyl : X.env.scope.names.lookup x = some .local) (hsw : swapsWith (.ListComp elt [⟨tg, e, ifs, 0⟩] scope p) (some (.Name x py)) pos.line X.env = pure true) (hi : PI X tg e (tI G W mi)) (ok : BlkOk X.N X.env.scope scope own)
    (hg : ∀ (s : Shared) (H : Hp) (C : Addr) (cl : List (Str × Addr)) (fp : List Addr), PG (X.blk s H scope (compEnvC scope cl C X.env) fp) tg (gT G.C.K t))
    (ht : ∀ (s : Shared) (H : Hp) (C : Addr) (cl : List (Str × Addr)) (fp : List Addr), Go (X.blk s H scope (compEnvC scope cl C X.env) fp) G W0 lv → PTs (X.blk s H scope (compEnvC scope cl C X.env) fp) ifs (tT G W0 mt))
    (he : ∀ (s : Shared) (H : Hp) (C : Addr) (cl : List (Str × Addr)) (fp : List Addr), Go (X.blk s H scope (compEnvC scope cl C X.env) fp) G W0 lv → PE (X.blk s H scope (compEnvC scope cl C X.env) fp) elt (tE G W0 m)) (hs : ∀ x, foldedSetIterable e X.env x = pure x := by intro _; rfl) :
    PS X (.Assign [.Name x py] (.ListComp elt [⟨tg, e, ifs, 0⟩] scope p) pos) (tS G W (mAsg i (mLc mi t mt m (own.map (·.2))))) :=
  (ps_setLc s.cm s.n hy hyl hsw hi ok hg (fun s0 H C cl fp => ht s0 H C cl fp (s.blk ..)) (fun s0 H C cl fp => he s0 H C cl fp (s.blk ..)) hs).weak fun D σ H q => by
    obtain ⟨a, env, h1, rel, post⟩ := asg_w hioi q
    exact lc_w hio hio2 hown ⟨a, env, h1, rel, post⟩
end

/-! ### exceptions -/
def mExc (x : Str) : EM FlowD := fun env => .exc ⟨x, [], []⟩ env
/- an own class over ValueError, no __init__ -/
structure ExcC (C : KM) (x : Str) : Prop where
  ex : ∃ a, C.mg x = some (.ref a) ∧ PySem.W.excIn C.K a [.type "ValueError", .type "Exception", .type "BaseException", .type "object"] "ValueError.__new__" = true ∧ PySem.W.keepIn C.K (.ref a) = true ∧ PySem.W.subIn C.K (.ref a) (.type "BaseException") = some true ∧ PySem.W.typeIn C.K (.ref a) = some (.type "type")
def calmR (r : Res (FlowD × EnvD)) : Res (FlowD × EnvD) := match r with
  | .ok x => .ok x
  | _ => .bad
def mTry (yes no : List Str) (body suite : EM FlowD) : EM FlowD := fun env => match body env with
  | .exc x e => if x.cls ∈ yes then calmR (suite e) else if x.cls ∈ no then .exc x e else .bad
  | r => r
section
variable {X : Cx} {G : Gm} {W : WX} {lv : Nat} {pos p pos' : Pos} {x : Str}
theorem pmk_own0 {C : Addr} {bmB : List Value} {B newId initId : String} (F : ExcBaseFacts B newId initId bmB) (q : PySem.W.excIn X.K C bmB newId = true) (gC : X.mg x = some (.ref C)) (kC : PySem.W.keepIn X.K (.ref C) = true) (r : Raises X (.ref C)) (hg : Gl X x)
    (hdb : (x == ("__debug__" : Str)) = false := by decide) : PMk X (.Call (.Name x p) [] [] pos) (fun _ H Q => Q (.ref C) none H) := by
  intro pins s σ H Q I h
  refine wpAny_Call_Name_kw (ld_glob I hg gC ?_ hdb)
  obtain ⟨hp1, g1, d1, tk1, os1⟩ := s
  refine PySem.W.callWith_K0 I.kIn kC ?_
  show wpAny _ _ (call (.ref C) []) _ _ _
  obtain ⟨bm, N, nm, qn, bs, hdct, sn, sub, ab, col, dd, k0, k1, k2, k3, k5, mN, hC, hN, hni, T⟩ := exc_obj I.kIn q
  refine wpAny_call_exc_subT F T hC hN hni (fun h' e hm => ?_) (Nat.zero_le _)
  exact mk_of I hm r h (I.hok.gone hm.new)
theorem rs_raise0 (s : Go X G W lv) (E : ExcC G.C x) (hg : Gl X x) (hdb : (x == ("__debug__" : Str)) = false := by decide) : PS X (.Raise (some (.Call (.Name x p) [] [] pos)) none pos') (tS G W (mExc x)) := by
  obtain ⟨a, h1, h2, h3, h4, h5⟩ := E.ex
  rw [← s.k] at h2 h3 h4 h5
  rw [← s.m] at h1
  refine (ps_raise s.cm s.tk (pmk_own0 PySem.F.excBase_ValueError h2 h1 h3 (raises_own h4 h5) hg hdb)).weak fun D σ H q => ?_
  obtain ⟨a', env, rfl, rel, post⟩ := q
  exact post a' σ (.ref a) none (Step.refl a') rel ⟨by rw [← s.m]; exact h1, .inl ⟨rfl, rfl, rfl⟩⟩
theorem rs_try {c : Value} {body : List Stmt} {b0 : Stmt} {suite : List Stmt} {np : Pos} {ms ns : EM FlowD} (s : Go X G W lv) (hst : X.stack = X.env :: X.outer) (hf : X.env.frame = some X.env.locals) (hc : Names X x c) (yes no : List Str)
    (hy : ∀ n ∈ yes, ∀ u, G.C.mg n = some u → PySem.W.exmOne G.C.K u c = some true) (hn : ∀ n ∈ no, ∀ u, G.C.mg n = some u → PySem.W.exmOne G.C.K u c = some false)
    (hb : ∀ (W' : WX) (pn : List (Addr × Obj)) (xe : Value → Shared → Prop), Go (X.tr pn xe) G W' lv → PSs (X.tr pn xe) body (tS G W' ms))
    (hsu : ∀ (a : Addr) (pn : List (Addr × Obj)), St0 (X.suite a pn) G → PSs (X.suite a pn) (b0 :: suite) (tS G W0 ns)) :
    PS X (.Try body [.ExceptHandler (some (.Name x np)) none (b0 :: suite) pos'] [] [] pos) (tS G W (mTry yes no ms ns)) := by
  refine (ps_try_only hst hf hc s.tk (fun W' pn xe tk pw => hb W' pn xe (s.tr tk pw)) (fun a oe cls d pn _ _ => hsu a ((a, oe) :: pn) (s.suite a _))).weak fun D σ H q => ?_
  obtain ⟨a, env, rfl, rel, post⟩ := q
  refine ⟨a, env, rfl, rel, ?_⟩
  unfold mTry at post
  cases hm : ms env with
  | bad => rw [hm] at post; exact post
  | ok fe =>
    obtain ⟨f, e⟩ := fe
    rw [hm] at post
    cases f <;> exact post
  | exc y e =>
    rw [hm] at post
    dsimp only at post
    split at post
    · rename_i hin
      intro b σ' cls dd st r er
      refine ⟨true, by rw [s.k]; exact hy _ hin _ er.1, fun _ u _ => ?_, fun z => Bool.noConfusion z⟩
      refine ⟨b, e, rfl, r, PostS.step st ?_⟩
      cases hs : ns e with
      | bad => rw [hs] at post; exact post
      | exc z e2 => rw [hs] at post; exact (show False from post).elim
      | ok fe =>
        obtain ⟨f, e2⟩ := fe
        rw [hs] at post
        cases f <;> exact post
    · split at post
      · rename_i hin
        intro b σ' cls dd st r er
        exact ⟨false, by rw [s.k]; exact hn _ hin _ er.1, fun z => Bool.noConfusion z, fun _ => post b σ' cls dd st r er⟩
      · exact (show False from post).elim
end

/-! ### a def -/
def ownOk (io : List Nat) : List D → Nat → Bool
  | [], _ => true
  | d :: ds, i => (fz d || io.contains i) && ownOk io ds (i + 1)
def outsD (np : Nat) (io : List Nat) (e : EnvD) : EnvD := (List.range np).map fun i => if io.contains i then (e[i]?).join else none
def runD (np n : Nat) (io : List Nat) (m : EM FlowD) : List D → Res (D × EnvD) := fun ds =>
  if ds.length = np ∧ ownOk io ds 0 = true then
    match m (ds.map some ++ List.replicate (n - np) none) with
    | .ok (.ret d, e) => .ok (d, outsD np io e)
    | .ok (.next, e) => .ok (.non, outsD np io e)
    | .exc x e => .exc x (outsD np io e)
    | _ => .bad
  else .bad
theorem outs_rep {G : Gm} {b : Wd} {σ : L2.St} {e : EnvD} (r : RelE G b σ e) {np : Nat} (hv : np ≤ G.vs0.length) : OutRep G.C b G.vs0 (outsD np G.io e) := fun i d h => by
  unfold outsD at h
  rw [List.getElem?_map] at h
  by_cases hi : i < np
  · rw [List.getElem?_range hi] at h
    have h : (if G.io.contains i then (e[i]?).join else none) = some d := Option.some.inj h
    split at h
    · rename_i hio
      have hio : i ∈ G.io := by simpa using hio
      cases he : e[i]? with
      | none => rw [he] at h; cases h
      | some o =>
        rw [he] at h
        have h : o = some d := h
        subst h
        obtain ⟨v, h1, h2⟩ := r.slot i d he
        have hl : i < G.vs0.length := Nat.lt_of_lt_of_le hi hv
        have h3 := r.prm i hio _ (List.getElem?_eq_getElem hl)
        rw [h1] at h3; cases h3
        exact ⟨_, List.getElem?_eq_getElem hl, h2⟩
    · cases h
  · rw [List.getElem?_eq_none (by simpa using hi)] at h; cases h
abbrev CxD (C : KM) (base : Heap) (N : List Str) (qual : Str) (sc : Scope) (f : Addr) (cd : Value) (A : Around) (outer : List Env) (s : Shared) (H : Hp) (E : XK) : Cx := cxOf (L2.CX C.P C.w) C.P C.w C.K C.mg base N qual sc f cd A outer s H E
theorem fn_def {C : KM} {N ps : List Str} {st : Stmt} {x : Str} {f : Addr} {fd : FuncData} {lv : Nat} (io : List Nat) (m : EM FlowD) (F : Fun C.K x x st f fd) (S : FnScope N ps (defScope st)) (hb : Binds C.K fd ps []) (hm : C.mg x = some (.ref f))
    (body : ∀ (base : Heap) (cdv : Value) (A : Around) (outer : List Env) (s : Shared) (H : Hp) (E : XK) (vs : List V) (W : WX), Go (CxD C base N x (defScope st) f cdv A outer s H E) ⟨C, vs, io⟩ W lv → PSs (CxD C base N x (defScope st) f cdv A outer s H E) (defBody st) (tS ⟨C, vs, io⟩ W m)) :
    Fn C (lv + 1) x (runD ps.length N.length io m) := by
  refine ⟨f, fd, ps, hm, F.kp, hb, fun base _ _ => ?_⟩
  have hpl : ps.length ≤ N.length := by have := congrArg List.length S.pre; rw [List.length_take] at this; omega
  refine F.okX S (fun vs H Q E h => ?_) fun cdv A outer s H vs Q E hr h => ?_
  · obtain ⟨a, ds, _, _, hl, _, h⟩ := h
    unfold runD at h
    by_cases z : ds.length = ps.length ∧ ownOk io ds 0 = true
    · rw [← hl, z.1]
    · rw [if_neg z] at h; exact h.elim
  · obtain ⟨a, ds, rfl, ok, hl, hrep, h⟩ := h
    have go : Go (CxD C base N x (defScope st) f cdv A outer s a.H E) ⟨C, vs, io⟩ (fun cls d _ H => E cls d H) lv :=
      { p := rfl, w := rfl, k := rfl, m := rfl, n := S.nd, u := by have := hr.un; show (A.deeper _).units + 64 < cLine; omega, tk := takes_of rfl rfl rfl rfl, pw := passes_of rfl, rm := hr, cm := rfl }
    refine ⟨_, body base cdv A outer s a.H E vs _ go, ?_⟩
    unfold runD at h
    by_cases z : ds.length = ps.length ∧ ownOk io ds 0 = true
    · rw [if_pos z] at h
      have hlen : vs.length = ps.length := by rw [← hl, z.1]
      refine ⟨a, ds.map some ++ List.replicate (N.length - ps.length) none, rfl, ⟨ok, ?_, fun i d e => ?_, fun i hi v hv => ?_⟩, ?_⟩
      · unfold L2.start
        rw [List.length_append, List.length_append, List.length_map, List.length_map, List.length_replicate, List.length_replicate, z.1, hlen]
      · have hi : i < ds.length := by
          by_cases hi : i < ds.length
          · exact hi
          · rw [List.getElem?_append_right (by simpa using hi), List.getElem?_replicate] at e
            split at e <;> cases e
        have e2 : ds[i]? = some d := by
          rw [List.getElem?_append_left (by simpa using hi), List.getElem?_map] at e
          cases q : ds[i]? with
          | none => rw [q] at e; cases e
          | some d' => rw [q] at e; cases e; rfl
        obtain ⟨v, h1, h2⟩ := hrep i d e2
        refine ⟨v, ?_, h2⟩
        unfold L2.start
        rw [List.getElem?_append_left (by rw [List.length_map]; exact (List.getElem?_eq_some_iff.mp h1).1), List.getElem?_map, h1]; rfl
      · have hv : vs[i]? = some v := hv
        unfold L2.start
        rw [List.getElem?_append_left (by rw [List.length_map]; exact (List.getElem?_eq_some_iff.mp hv).1), List.getElem?_map, hv]; rfl
      · cases hm : m (ds.map some ++ List.replicate (N.length - ps.length) none) with
        | bad => rw [hm] at h; exact h.elim
        | exc y e => rw [hm] at h; exact fun b σ cls dd st r er => h b cls dd st r.ok (outs_rep r (Nat.le_of_eq hlen.symm)) er
        | ok fe =>
          obtain ⟨fl, e⟩ := fe
          rw [hm] at h
          cases fl with
          | next => exact fun b σ st r => h b .non st r.ok (outs_rep r (Nat.le_of_eq hlen.symm)) (by simp [Rep])
          | ret d => exact fun b σ v st r rp => h b v st r.ok (outs_rep r (Nat.le_of_eq hlen.symm)) rp
          | brk => exact h.elim
          | cont => exact h.elim
    · rw [if_neg z] at h; exact h.elim
end Mi
namespace Mi
open PySem PySem.Spec PyProof.Rows L2
/-! ### {k: v} -/
def mDic1 (mk mv : EM Arg) : EM D := fun env => (mk env).bind fun (x, e1) => (mv e1).bind fun (y, e2) => match x.get e2, y.get e2 with
  | some d1, some d2 => match keyD d1 with
    | some _ => if fz d2 = true then .ok (.dic true [d1] [d2], e2) else .bad
    | none => .bad
  | _, _ => .bad
theorem keyD_fz {d : D} {k : Key} (h : keyD d = some k) : fz d = true := by
  cases d <;> simp [keyD] at h <;> rfl
theorem dic1_w {G : Gm} {W : WX} {σ : L2.St} {H : Hp} {Q : VK} {mk mv : EM Arg} (h : tE G W (mDic1 mk mv) σ H Q) : tDisp [(tArg G W mk, tArg G W mv)] σ H Q := by
  obtain ⟨a, env, rfl, rel, post⟩ := h
  intro A hA
  have fA : a.F A = none := by
    cases q : a.F A with
    | none => rfl
    | some u => have := rel.ok.sub A u q; rw [hA] at this; cases this
  have tA : a.t A = none := by
    cases q : a.t A with
    | none => rfl
    | some u => obtain ⟨_, u, h⟩ := rel.ok.own A u q; rw [hA] at h; cases h
  have st0 : Step a (putA a A (.dK [])) := fun x o h t => by
    have ne : x ≠ A := by rintro rfl; rw [hA] at h; cases h
    exact ⟨by show upd a.H A _ x = _; rw [upd_ne ne]; exact h, t, rfl⟩
  have rel0 := putA_rel (o := .dK []) rel fA tA
  refine ⟨putA a A (.dK []), env, rfl, rel0, ?_⟩
  unfold mDic1 at post
  cases hm : mk env with
  | bad => rw [hm] at post; exact (show False from post).elim
  | exc x e => rw [hm] at post; exact PostR.step (K := fun x e b => ∀ v, ArgRep G.C b σ x v → _) (r := .exc x e) st0 post
  | ok xe =>
    obtain ⟨x, e1⟩ := xe
    rw [hm] at post
    intro b s1 rel1 v ar1
    refine ⟨b, e1, rfl, rel1, ?_⟩
    dsimp only [Res.bind] at post
    cases hn : mv e1 with
    | bad => rw [hn] at post; exact (show False from post).elim
    | exc y e => rw [hn] at post; exact PostR.step (K := fun x e b => ∀ v, ArgRep G.C b σ x v → _) (r := .exc y e) (st0.trans s1) post
    | ok ye =>
      obtain ⟨y, e2⟩ := ye
      rw [hn] at post
      intro c s2 rel2 u ar2
      have ar1 := ar1.step rel1.ok s2
      dsimp only [Res.bind] at post
      obtain ⟨g1, g2, g3⟩ := s1 A _ (show upd a.H A (.dK []) A = some (.dK []) from upd_same) tA
      obtain ⟨k1, k2, k3⟩ := s2 A _ g1 g2
      have k3 : c.F A = none := k3.trans (g3.trans fA)
      refine ⟨k1, ?_⟩
      cases hx : x.get e2 with
      | none => simp only [hx] at post; exact (show False from post).elim
      | some d1 =>
        cases hy : y.get e2 with
        | none => simp only [hx, hy] at post; exact (show False from post).elim
        | some d2 =>
          simp only [hx, hy] at post
          cases hk : keyD d1 with
          | none => simp only [hk] at post; exact (show False from post).elim
          | some k =>
            simp only [hk] at post
            split at post
            · rename_i zd
              obtain ⟨r1, p1⟩ := ar1.rep rel2 hx
              obtain ⟨r2, p2⟩ := ar2.rep rel2 hy
              have ev := keyD_rep hk p1
              refine ⟨[(k, u)], by rw [ev]; rfl, by simp, ?_⟩
              show Q (.ref A) (upd c.H A (.dK [(k, u)]))
              have post : ∀ b', Step a b' → RelE G b' σ e2 → ∀ v, Rep G.C b' 0 [] v (.dic true [d1] [d2]) → Q v b'.H := post
              have rel3 : RelE G (putA c A (.dK [(k, u)])) σ e2 := putA_rel rel2 k3 k2
              refine post (tagA (putA c A (.dK [(k, u)])) A) (fun z o h t => ?_) ?_ (.ref A) ?_
              · have ne : z ≠ A := by rintro rfl; rw [hA] at h; cases h
                obtain ⟨q1, q2, q3⟩ := (st0.trans (s1.trans s2)) z o h t
                exact ⟨by show upd c.H A _ z = _; rw [upd_ne ne]; exact q1, by show (if z = A then some (0, []) else c.t z) = none; rw [if_neg ne]; exact q2, q3⟩
              · exact ⟨tagA_ok (o := .dK [(k, u)]) rel3.ok k3 upd_same, rel3.len, fun i d h => let ⟨v, e, q⟩ := rel3.slot i d h; ⟨v, e, tagA_to (A := A) (c := putA c A (.dK [(k, u)])) k2 q⟩, rel3.prm⟩
              · have fr : ∀ z o, c.F z = some o → (tagA (putA c A (.dK [(k, u)])) A).F z = some o := fun z o h => h
                simp only [Rep]
                refine ⟨A, .dK [(k, u)], [kV k], [u], rfl, ?_, .dk [(k, u)], by simp [fzL, keyD_fz hk], ?_, ?_⟩
                · rw [if_pos trivial]
                  exact ⟨by show (if A = A then some (0, []) else c.t A) = _; rw [if_pos rfl], upd_same⟩
                · refine ⟨kV k, [], rfl, ?_, by simp [RepL]⟩
                  rw [ev] at p1
                  exact Rep.fz (a := c) (b := tagA (putA c A (.dK [(k, u)])) A) fr d1 _ _ _ (keyD_fz hk) p1
                · exact ⟨u, [], rfl, Rep.fz (a := c) (b := tagA (putA c A (.dK [(k, u)])) A) fr d2 _ _ _ zd p2, by simp [RepL]⟩
            · exact (show False from post).elim
theorem r_dic1 {X : Cx} {G : Gm} {W : WX} {ke ve : Expr} {mk mv : EM Arg} {pos : Pos} (s : St0 X G) (hk : PE X ke (tArg G W mk)) (hv : PE X ve (tArg G W mv)) : PE X (.Dict [some ke] [ve] pos) (tE G W (mDic1 mk mv)) :=
  (pe_disp (pps_cons hk hv pps_nil) rfl rfl (by simp) (by simp)).weak fun _ _ _ q => dic1_w q
theorem fn_ok {C : KM} {N ps : List Str} {st : Stmt} {x : Str} {f : Addr} {fd : FuncData} {lv : Nat} (io : List Nat) (m : EM FlowD) (F : Fun C.K x x st f fd) (S : FnScope N ps (defScope st)) (base : Heap)
    (body : ∀ (base : Heap) (cdv : Value) (A : Around) (outer : List Env) (s : Shared) (H : Hp) (E : XK) (vs : List V) (W : WX), Go (CxD C base N x (defScope st) f cdv A outer s H E) ⟨C, vs, io⟩ W lv → PSs (CxD C base N x (defScope st) f cdv A outer s H E) (defBody st) (tS ⟨C, vs, io⟩ W m)) :
    FnOk C.P C.w C.K C.mg base (L2.CX C.P C.w) (lv + 1) f fd ps (spD C (runD ps.length N.length io m)) := by
  have hpl : ps.length ≤ N.length := by have := congrArg List.length S.pre; rw [List.length_take] at this; omega
  refine F.okX S (fun vs H Q E h => ?_) fun cdv A outer s H vs Q E hr h => ?_
  · obtain ⟨a, ds, _, _, hl, _, h⟩ := h
    unfold runD at h
    by_cases z : ds.length = ps.length ∧ ownOk io ds 0 = true
    · rw [← hl, z.1]
    · rw [if_neg z] at h; exact h.elim
  · obtain ⟨a, ds, rfl, ok, hl, hrep, h⟩ := h
    have go : Go (CxD C base N x (defScope st) f cdv A outer s a.H E) ⟨C, vs, io⟩ (fun cls d _ H => E cls d H) lv :=
      { p := rfl, w := rfl, k := rfl, m := rfl, n := S.nd, u := by have := hr.un; show (A.deeper _).units + 64 < cLine; omega, tk := takes_of rfl rfl rfl rfl, pw := passes_of rfl, rm := hr, cm := rfl }
    refine ⟨_, body base cdv A outer s a.H E vs _ go, ?_⟩
    unfold runD at h
    by_cases z : ds.length = ps.length ∧ ownOk io ds 0 = true
    · rw [if_pos z] at h
      have hlen : vs.length = ps.length := by rw [← hl, z.1]
      refine ⟨a, ds.map some ++ List.replicate (N.length - ps.length) none, rfl, ⟨ok, ?_, fun i d e => ?_, fun i hi v hv => ?_⟩, ?_⟩
      · unfold L2.start
        rw [List.length_append, List.length_append, List.length_map, List.length_map, List.length_replicate, List.length_replicate, z.1, hlen]
      · have hi : i < ds.length := by
          by_cases hi : i < ds.length
          · exact hi
          · rw [List.getElem?_append_right (by simpa using hi), List.getElem?_replicate] at e
            split at e <;> cases e
        have e2 : ds[i]? = some d := by
          rw [List.getElem?_append_left (by simpa using hi), List.getElem?_map] at e
          cases q : ds[i]? with
          | none => rw [q] at e; cases e
          | some d' => rw [q] at e; cases e; rfl
        obtain ⟨v, h1, h2⟩ := hrep i d e2
        refine ⟨v, ?_, h2⟩
        unfold L2.start
        rw [List.getElem?_append_left (by rw [List.length_map]; exact (List.getElem?_eq_some_iff.mp h1).1), List.getElem?_map, h1]; rfl
      · have hv : vs[i]? = some v := hv
        unfold L2.start
        rw [List.getElem?_append_left (by rw [List.length_map]; exact (List.getElem?_eq_some_iff.mp hv).1), List.getElem?_map, hv]; rfl
      · cases hm : m (ds.map some ++ List.replicate (N.length - ps.length) none) with
        | bad => rw [hm] at h; exact h.elim
        | exc y e => rw [hm] at h; exact fun b σ cls dd st r er => h b cls dd st r.ok (outs_rep r (Nat.le_of_eq hlen.symm)) er
        | ok fe =>
          obtain ⟨fl, e⟩ := fe
          rw [hm] at h
          cases fl with
          | next => exact fun b σ st r => h b .non st r.ok (outs_rep r (Nat.le_of_eq hlen.symm)) (by simp [Rep])
          | ret d => exact fun b σ v st r rp => h b v st r.ok (outs_rep r (Nat.le_of_eq hlen.symm)) rp
          | brk => exact h.elim
          | cont => exact h.elim
    · rw [if_neg z] at h; exact h.elim
theorem exm_sub {K : PySem.W.Frag} {S T : Addr} {b : Bool} (h1 : PySem.W.subIn K (.ref T) (.type "BaseException") = some true) (h2 : PySem.W.isClsIn K T = true) (h3 : PySem.W.typeIn K (.ref T) = some (.type "type")) (h4 : PySem.W.subIn K (.ref S) (.ref T) = some b) : PySem.W.exmOne K (.ref S) (.ref T) = some b := by
  have e1 : (PySem.W.subIn K (.ref T) (.type "BaseException") == some true) = true := by rw [h1]; rfl
  have e2 : ((PySem.W.clsIn K T).isSome && PySem.W.typeIn K (.ref T) == some (.type "type")) = true := by
    have h2' : (PySem.W.clsIn K T).isSome = true := h2
    rw [h2', h3] <;> rfl
  show (if (PySem.W.subIn K (.ref T) (.type "BaseException") == some true) = true then (if ((PySem.W.clsIn K T).isSome && PySem.W.typeIn K (.ref T) == some (.type "type")) = true then PySem.W.subIn K (.ref S) (.ref T) else none) else none) = some b
  rw [if_pos e1, if_pos e2]
  exact h4
def scriptW (H : Hp) : Wd := ⟨H, H, fun _ => none⟩
theorem law_walk {l : PySem.W.OpenLaw} {k : Nat} {g : List D → Res (D × EnvD)} {q : Program} {loose : List Str} {XP : (Str → Option Value) → Heap → Prop} {YP : World → Heap → Prop} {d : DefRec} {K : Params → PySem.W.Frag} (hn : l.most = some 63) (hdf : d.params.defaults = []) (hr : Room k callerA)
    (hY : ∀ (w : World) (h : Heap), YP w h → (K w.params).In h)
    (F : ∀ (w : World) (mg : Str → Option Value) (fa : Addr) (h : Heap), (K w.params).In h → h.Ns mainGlobals mg → mg d.name = some (.ref fa) →
      ∃ fd : FuncData, (∀ (s : Shared) (u : Value), BindsTo s fd ⟨[u], []⟩ [("_law_script", u)]) ∧ ∀ base : Heap, (K w.params).In base → base.Ns mainGlobals mg → FnOk l.prog w (K w.params) mg base (L2.CX l.prog w) k fa fd ["_law_script"] (spD ⟨l.prog, w, K w.params, mg⟩ g))
    (hg : ∀ ns : List Int, ns.length ≤ 63 → (∀ z ∈ ns, Builtin.Int.intBits z ≤ 1048576) → ∃ outs, g [.scr ns] = .ok (.bl true, outs)) :
    PySem.W.WalkO q loose XP YP l.row.toRowW d [] (fun f vs => PySem.call f vs) := by
  refine L2.walk_ofB (n := 63) (k := k) (x := "_law_script") (CX := fun w => L2.CX l.prog w) (sp := fun w vs H Q _ => ∃ (a : Addr) (ns : List Int), vs = [.ref a] ∧ SqL (K w.params) H a (ns.map V.int) ∧ ns.length ≤ 63 ∧ (∀ z ∈ ns, Builtin.Int.intBits z ≤ 1048576) ∧ ∀ H', Q (.bl true) H') hn (by decide) hdf hr hY (fun w mg fa h h1 h2 h3 => ?_)
    (fun w H a ns hl hb _ hS => ⟨a, ns, rfl, hS, hl, hb, fun _ => rfl⟩) fun w H s e s' h => ?_
  · obtain ⟨fd, h4, h5⟩ := F w mg fa h h1 h2 h3
    refine ⟨fd, h4, fun base h6 h7 => (h5 base h6 h7).imp fun vs H Q E ⟨a, ns, e, hS, hl, hb, q⟩ => ?_⟩
    subst e
    obtain ⟨outs, hr⟩ := hg ns hl hb
    refine ⟨scriptW H, [.scr ns], rfl, ⟨fun _ _ h => h, fun _ _ h => by cases h⟩, rfl, fun i d e => ?_, ?_⟩
    · cases i with
      | zero => simp at e; subst e; exact ⟨_, rfl, by simp only [Rep]; exact ⟨a, rfl, hS⟩⟩
      | succ i => simp at e
    · rw [hr]
      intro b v _ _ _ rp
      cases rep_bl rp
      exact q b.H
  · obtain ⟨_, _, _, _, _, _, _, _, _, _, _, _, z⟩ := h
    exact z.elim
end Mi
namespace Mi
open PySem PySem.Spec PyProof.Rows L2

/-! ### what a mirror answers: rows for simp; a continuation is a name with its arguments, so that simp goes on only where the first part is told -/
section
variable {α β : Type} {e env : EnvD} {m n : EM D} {ma mb mc : EM Arg} {mas : EM (List Arg)} {mt nt : EM Bool} {ms ns : EM FlowD} {d d1 d2 : D} {x y : Arg} {b : Bool} {i j : Nat}
theorem bind_ext {r : Res α} {k k' : α → Res β} (h : ∀ x, k x = k' x) : r.bind k = r.bind k' := by rw [funext h]
@[simp] theorem bind_ok (x : α) (k : α → Res β) : Res.bind (.ok x) k = k x := rfl
@[simp] theorem bind_exc (x : Exc) (e : EnvD) (k : α → Res β) : Res.bind (.exc x e) k = .exc x e := rfl
@[simp] theorem bind_bad (k : α → Res β) : Res.bind .bad k = .bad := rfl
def kSeq (k : EM FlowD) : FlowD × EnvD → Res (FlowD × EnvD) := fun (f, e) => match f with
  | .next => k e
  | .brk => .ok (.brk, e)
  | .cont => .ok (.cont, e)
  | .ret d => .ok (.ret d, e)
@[simp] theorem e_seq : mSeq ms ns env = (ms env).bind (kSeq ns) := rfl
@[simp] theorem kSeq_next : kSeq ns (.next, e) = ns e := rfl
@[simp] theorem kSeq_ret : kSeq ns (.ret d, e) = .ok (.ret d, e) := rfl
@[simp] theorem kSeq_brk : kSeq ns (.brk, e) = .ok (.brk, e) := rfl
@[simp] theorem kSeq_cont : kSeq ns (.cont, e) = .ok (.cont, e) := rfl
@[simp] theorem e_next : mNext env = .ok (.next, env) := rfl
@[simp] theorem e_brk : mBrk env = .ok (.brk, env) := rfl
@[simp] theorem e_cnt : mCnt env = .ok (.cont, env) := rfl
def kIf {α : Type} (m n : EM α) : Bool × EnvD → Res (α × EnvD) := fun (b, e) => if b = true then m e else n e
@[simp] theorem e_ifS : mIfS mt ms ns env = (mt env).bind (kIf ms ns) := rfl
@[simp] theorem e_ifE : mIfE mt m n env = (mt env).bind (kIf m n) := rfl
@[simp] theorem kIf_t {m n : EM α} : kIf m n (true, e) = m e := rfl
@[simp] theorem kIf_f {m n : EM α} : kIf m n (false, e) = n e := rfl
def kRet : D × EnvD → Res (FlowD × EnvD) := fun (d, e) => .ok (.ret d, e)
@[simp] theorem e_ret : mRet m env = (m env).bind kRet := rfl
@[simp] theorem kRet_ok : kRet (d, e) = .ok (.ret d, e) := rfl
@[simp] theorem e_retN : mRetN env = .ok (.ret .non, env) := rfl
def kDrop : D × EnvD → Res (FlowD × EnvD) := fun (_, e) => .ok (.next, e)
@[simp] theorem e_drop : mDrop m env = (m env).bind kDrop := rfl
@[simp] theorem kDrop_ok : kDrop (d, e) = .ok (.next, e) := rfl
def kAsg (i : Nat) : D × EnvD → Res (FlowD × EnvD) := fun (d, e) => .ok (.next, e.set i (some d))
@[simp] theorem e_asg : mAsg i m env = (m env).bind (kAsg i) := rfl
@[simp] theorem kAsg_ok : kAsg i (d, e) = .ok (.next, e.set i (some d)) := rfl
def oFlow : Option EnvD → Res (FlowD × EnvD)
  | some e => .ok (.next, e)
  | none => .bad
def kAsgT (t : Tgt) : D × EnvD → Res (FlowD × EnvD) := fun (d, e) => oFlow (mTg t (frzQ d) e)
@[simp] theorem e_asgT {t : Tgt} : mAsgT t m env = (m env).bind (kAsgT t) := by
  unfold mAsgT
  refine bind_ext fun x => ?_
  obtain ⟨d, e⟩ := x
  show _ = oFlow (mTg t (frzQ d) e)
  dsimp only
  cases mTg t (frzQ d) e <;> rfl
@[simp] theorem kAsgT_ok {t : Tgt} : kAsgT t (d, e) = oFlow (mTg t (frzQ d) e) := rfl
@[simp] theorem oFlow_some : oFlow (some e) = .ok (.next, e) := rfl
def kPar (i j : Nat) : List Arg × EnvD → Res (FlowD × EnvD) := fun (xs, e) => match Arg.gets e xs with
  | some [d1, d2] => if fz d1 = true ∧ fz d2 = true then .ok (.next, (e.set i (some d1)).set j (some d2)) else .bad
  | _ => .bad
@[simp] theorem e_par : mPar i j mas env = (mas env).bind (kPar i j) := rfl
def pV (i j : Nat) (e : EnvD) : Option (List D) → Res (FlowD × EnvD)
  | some [d1, d2] => if fz d1 = true ∧ fz d2 = true then .ok (.next, (e.set i (some d1)).set j (some d2)) else .bad
  | _ => .bad
@[simp] theorem kPar_g {xs : List Arg} : kPar i j (xs, e) = pV i j e (Arg.gets e xs) := by
  unfold kPar pV; rfl
@[simp] theorem pV_ok : pV i j e (some [d1, d2]) = if fz d1 = true ∧ fz d2 = true then .ok (.next, (e.set i (some d1)).set j (some d2)) else .bad := rfl
theorem kPar_ok {xs : List Arg} (h : Arg.gets e xs = some [d1, d2]) (h1 : fz d1 = true) (h2 : fz d2 = true) : kPar i j (xs, e) = .ok (.next, (e.set i (some d1)).set j (some d2)) := by
  unfold kPar; simp only [h]; rw [if_pos ⟨h1, h2⟩]
def kFrz : D × EnvD → Res (Arg × EnvD) := fun (d, e) => .ok (.val (frzQ d), e)
@[simp] theorem e_frz : mFrz m env = (m env).bind kFrz := rfl
@[simp] theorem kFrz_ok : kFrz (d, e) = .ok (.val (frzQ d), e) := rfl
@[simp] theorem e_c : mC d env = .ok (d, env) := rfl
def vA (i : Nat) (env : EnvD) : Option (Option D) → Res (Arg × EnvD)
  | some (some _) => .ok (.var i, env)
  | _ => .bad
@[simp] theorem e_varA : mVarA i env = vA i env (env[i]?) := by
  unfold mVarA vA; rfl
@[simp] theorem vA_ok : vA i env (some (some d)) = .ok (.var i, env) := rfl
def vE (i : Nat) (env : EnvD) : Option (Option D) → Res (D × EnvD)
  | some (some d) => if fz d = true then .ok (d, env) else .ok (frz d, env.set i (some (frz d)))
  | _ => .bad
@[simp] theorem e_varE : mVarE i env = vE i env (env[i]?) := by
  unfold mVarE vE; rfl
@[simp] theorem vE_ok (h : fz d = true) : vE i env (some (some d)) = .ok (d, env) := by unfold vE; simp [h]
def vM (np i : Nat) (env : EnvD) : Option (Option D) → Res (D × EnvD)
  | some (some d) => if fz d = true then .ok (d, env) else if i < np then .ok (frz d, env.set i (some (frz d))) else .ok (d, env.set i none)
  | _ => .bad
@[simp] theorem e_varM : mVarM j i env = vM j i env (env[i]?) := by
  unfold mVarM vM; rfl
@[simp] theorem vM_ok (h : fz d = true) : vM j i env (some (some d)) = .ok (d, env) := by unfold vM; simp [h]
theorem vM_mv (h : fz d = false) (h2 : ¬ i < j) : vM j i env (some (some d)) = .ok (d, env.set i none) := by unfold vM; simp [h, h2]
@[simp] theorem get_val : Arg.get e (.val d) = some d := rfl
def gV : Option (Option D) → Option D
  | some (some d) => some d
  | _ => none
@[simp] theorem get_var : Arg.get e (.var i) = gV (e[i]?) := by
  show (match e[i]? with | some (some d) => some d | _ => none) = _
  unfold gV; rfl
@[simp] theorem gV_ok : gV (some (some d)) = some d := rfl
@[simp] theorem mLift_ok : mLift (some d) e = .ok (d, e) := rfl
@[simp] theorem mLift_no : mLift none e = .bad := rfl
def bV (g : D → D → Option D) (e : EnvD) : Option D → Option D → Res (D × EnvD)
  | some d1, some d2 => mLift (g d1 d2) e
  | _, _ => .bad
def kBin2 (g : D → D → Option D) (x : Arg) : Arg × EnvD → Res (D × EnvD) := fun (y, e) => bV g e (x.get e) (y.get e)
def kBin1 (g : D → D → Option D) (mb : EM Arg) : Arg × EnvD → Res (D × EnvD) := fun (x, e) => (mb e).bind (kBin2 g x)
@[simp] theorem e_bin {g : D → D → Option D} : mBin g ma mb env = (ma env).bind (kBin1 g mb) := by
  unfold mBin
  refine bind_ext fun x => ?_
  obtain ⟨x, e1⟩ := x
  show _ = (mb e1).bind (kBin2 g x)
  refine bind_ext fun y => ?_
  obtain ⟨y, e2⟩ := y
  show _ = bV g e2 (x.get e2) (y.get e2)
  dsimp only
  cases x.get e2 <;> cases y.get e2 <;> rfl
@[simp] theorem kBin1_ok {g : D → D → Option D} : kBin1 g mb (x, e) = (mb e).bind (kBin2 g x) := rfl
@[simp] theorem kBin2_ok {g : D → D → Option D} : kBin2 g x (y, e) = bV g e (x.get e) (y.get e) := rfl
@[simp] theorem bV_ok {g : D → D → Option D} : bV g e (some d1) (some d2) = mLift (g d1 d2) e := rfl
def uV (g : D → Option D) (e : EnvD) : Option D → Res (D × EnvD)
  | some d1 => mLift (g d1) e
  | _ => .bad
def kUn (g : D → Option D) : Arg × EnvD → Res (D × EnvD) := fun (x, e) => uV g e (x.get e)
@[simp] theorem e_un {g : D → Option D} : mUn g ma env = (ma env).bind (kUn g) := by
  unfold mUn
  refine bind_ext fun x => ?_
  obtain ⟨x, e1⟩ := x
  show _ = uV g e1 (x.get e1)
  dsimp only
  cases x.get e1 <;> rfl
@[simp] theorem kUn_ok {g : D → Option D} : kUn g (x, e) = uV g e (x.get e) := rfl
@[simp] theorem uV_ok {g : D → Option D} : uV g e (some d) = mLift (g d) e := rfl
def lV (g : List D → Option D) (e : EnvD) : Option (List D) → Res (D × EnvD)
  | some ds => mLift (g ds) e
  | _ => .bad
def kCB (g : List D → Option D) : List Arg × EnvD → Res (D × EnvD) := fun (xs, e) => lV g e (Arg.gets e xs)
@[simp] theorem e_cb {g : List D → Option D} : mCB g mas env = (mas env).bind (kCB g) := by
  unfold mCB
  refine bind_ext fun x => ?_
  obtain ⟨x, e1⟩ := x
  show _ = lV g e1 (Arg.gets e1 x)
  dsimp only
  cases Arg.gets e1 x <;> rfl
@[simp] theorem kCB_ok {g : List D → Option D} {xs : List Arg} : kCB g (xs, e) = lV g e (Arg.gets e xs) := rfl
@[simp] theorem lV_ok {g : List D → Option D} {ds : List D} : lV g e (some ds) = mLift (g ds) e := rfl
def oCons : Option D → Option (List D) → Option (List D)
  | some d, some ds => some (d :: ds)
  | _, _ => none
@[simp] theorem gets_nil : Arg.gets e [] = some [] := rfl
@[simp] theorem gets_cons {xs : List Arg} : Arg.gets e (x :: xs) = oCons (x.get e) (Arg.gets e xs) := by
  unfold oCons
  rw [Arg.gets] <;> rfl
@[simp] theorem oCons_ok {ds : List D} : oCons (some d) (some ds) = some (d :: ds) := rfl
def kA2 (x : Arg) : List Arg × EnvD → Res (List Arg × EnvD) := fun (xs, e) => .ok (x :: xs, e)
def kA1 (ms : List (EM Arg)) : Arg × EnvD → Res (List Arg × EnvD) := fun (x, e) => (mArgs ms e).bind (kA2 x)
@[simp] theorem e_args0 : mArgs [] env = .ok ([], env) := rfl
@[simp] theorem e_args {ms : List (EM Arg)} : mArgs (ma :: ms) env = (ma env).bind (kA1 ms) := rfl
@[simp] theorem kA1_ok {ms : List (EM Arg)} : kA1 ms (x, e) = (mArgs ms e).bind (kA2 x) := rfl
@[simp] theorem kA2_ok {xs : List Arg} : kA2 x (xs, e) = .ok (x :: xs, e) := rfl
/-! tests -/
@[simp] theorem bool_bl : D.bool (.bl b) = some b := rfl
@[simp] theorem mLiftT_ok : mLiftT (some b) e = .ok (b, e) := rfl
def kTB : D × EnvD → Res (Bool × EnvD) := fun (d, e) => mLiftT d.bool e
@[simp] theorem e_tb : mTB m env = (m env).bind kTB := rfl
@[simp] theorem kTB_ok : kTB (.bl b, e) = .ok (b, e) := rfl
def kNotT : Bool × EnvD → Res (Bool × EnvD) := fun (c, e) => .ok (!c, e)
@[simp] theorem e_notT : mNotT mt env = (mt env).bind kNotT := rfl
@[simp] theorem kNotT_ok : kNotT (b, e) = .ok (!b, e) := rfl
def kAndT (n : EM Bool) : Bool × EnvD → Res (Bool × EnvD) := fun (c, e) => if c = true then n e else .ok (false, e)
def kOrT (n : EM Bool) : Bool × EnvD → Res (Bool × EnvD) := fun (c, e) => if c = true then .ok (true, e) else n e
@[simp] theorem e_andT : mAndT mt nt env = (mt env).bind (kAndT nt) := rfl
@[simp] theorem e_orT : mOrT mt nt env = (mt env).bind (kOrT nt) := rfl
@[simp] theorem kAndT_t : kAndT nt (true, e) = nt e := rfl
@[simp] theorem kAndT_f : kAndT nt (false, e) = .ok (false, e) := rfl
@[simp] theorem kOrT_t : kOrT nt (true, e) = .ok (true, e) := rfl
@[simp] theorem kOrT_f : kOrT nt (false, e) = nt e := rfl
def aV (n : EM D) (e : EnvD) : Option Bool → Res (D × EnvD)
  | some true => n e
  | some false => .ok (.bl false, e)
  | none => .bad
def oV (n : EM D) (e : EnvD) : Option Bool → Res (D × EnvD)
  | some true => .ok (.bl true, e)
  | some false => n e
  | none => .bad
def kAndV (n : EM D) : D × EnvD → Res (D × EnvD) := fun (c, e) => aV n e c.bool
def kOrV (n : EM D) : D × EnvD → Res (D × EnvD) := fun (c, e) => oV n e c.bool
@[simp] theorem e_andV : mAndV m n env = (m env).bind (kAndV n) := by
  unfold mAndV
  refine bind_ext fun x => ?_
  obtain ⟨x, e1⟩ := x
  show _ = aV n e1 x.bool
  dsimp only
  rcases x.bool with _ | _ | _ <;> rfl
@[simp] theorem e_orV : mOrV m n env = (m env).bind (kOrV n) := by
  unfold mOrV
  refine bind_ext fun x => ?_
  obtain ⟨x, e1⟩ := x
  show _ = oV n e1 x.bool
  dsimp only
  rcases x.bool with _ | _ | _ <;> rfl
@[simp] theorem kAndV_t : kAndV n (.bl true, e) = n e := rfl
@[simp] theorem kAndV_f : kAndV n (.bl false, e) = .ok (.bl false, e) := rfl
@[simp] theorem kOrV_t : kOrV n (.bl true, e) = .ok (.bl true, e) := rfl
@[simp] theorem kOrV_f : kOrV n (.bl false, e) = n e := rfl
def kNotV : D × EnvD → Res (D × EnvD) := fun (c, e) => mLift (c.bool.map fun b => .bl (!b)) e
@[simp] theorem e_notV : mNotV m env = (m env).bind kNotV := by
  unfold mNotV
  refine bind_ext fun x => ?_
  obtain ⟨x, e1⟩ := x
  show _ = mLift (x.bool.map fun b => .bl (!b)) e1
  dsimp only
  cases x.bool <;> rfl
@[simp] theorem kNotV_ok : kNotV (.bl b, e) = .ok (.bl (!b), e) := rfl
def tV (e : EnvD) : Option D → Res (Bool × EnvD)
  | some d => mLiftT (truD d) e
  | none => .bad
def kTru : Arg × EnvD → Res (Bool × EnvD) := fun (x, e) => tV e (x.get e)
@[simp] theorem e_tru : mTru ma env = (ma env).bind kTru := by
  unfold mTru
  refine bind_ext fun x => ?_
  obtain ⟨x, e1⟩ := x
  show _ = tV e1 (x.get e1)
  dsimp only
  cases x.get e1 <;> rfl
@[simp] theorem kTru_ok : kTru (x, e) = tV e (x.get e) := rfl
@[simp] theorem tV_ok : tV e (some d) = mLiftT (truD d) e := rfl
@[simp] theorem e_yes : mYes env = .ok (true, env) := rfl
/-! displays -/
def dV (f : List D → D) (e : EnvD) : Option (List D) → Res (D × EnvD)
  | some ds => if fzL ds = true ∧ ds.length ≤ 1000 then .ok (f ds, e) else .bad
  | none => .bad
def kDsp (f : List D → D) : List Arg × EnvD → Res (D × EnvD) := fun (xs, e) => dV f e (Arg.gets e xs)
@[simp] theorem e_tup : mTup mas env = (mas env).bind (kDsp .tup) := by
  unfold mTup
  refine bind_ext fun x => ?_
  obtain ⟨x, e1⟩ := x
  show _ = dV .tup e1 (Arg.gets e1 x)
  dsimp only
  cases Arg.gets e1 x <;> rfl
@[simp] theorem e_lst : mLst mas env = (mas env).bind (kDsp (.lst true)) := by
  unfold mLst
  refine bind_ext fun x => ?_
  obtain ⟨x, e1⟩ := x
  show _ = dV (.lst true) e1 (Arg.gets e1 x)
  dsimp only
  cases Arg.gets e1 x <;> rfl
@[simp] theorem kDsp_ok {f : List D → D} {xs : List Arg} : kDsp f (xs, e) = dV f e (Arg.gets e xs) := rfl
@[simp] theorem dV_ok {f : List D → D} {ds : List D} : dV f e (some ds) = if fzL ds = true ∧ ds.length ≤ 1000 then .ok (f ds, e) else .bad := rfl
@[simp] theorem e_dic0 : mDic0 env = .ok (.dic true [] [], env) := rfl
def kCall (g : List D → Res (D × EnvD)) : List Arg × EnvD → Res (D × EnvD) := fun (xs, e) => mCallR g xs e
@[simp] theorem e_call {g : List D → Res (D × EnvD)} : mCall g mas env = (mas env).bind (kCall g) := rfl
def cV (xs : List Arg) (ds : List D) (e : EnvD) : Res (D × EnvD) → Res (D × EnvD)
  | .ok (d, outs) => .ok (d, putBack xs ds outs e)
  | .exc x outs => .exc x (putBack xs ds outs e)
  | .bad => .bad
theorem kCall_ok {g : List D → Res (D × EnvD)} {xs : List Arg} {ds : List D} (h : Arg.gets e xs = some ds) (h2 : (ownVars xs ds).Nodup) : kCall g (xs, e) = cV xs ds e (g ds) := by
  show mCallR g xs e = _
  unfold mCallR cV
  rw [h]; dsimp only; rw [if_pos h2] <;> rfl
@[simp] theorem cV_ok {xs : List Arg} {ds : List D} {outs : EnvD} : cV xs ds e (.ok (d, outs)) = .ok (d, putBack xs ds outs e) := rfl
@[simp] theorem cV_exc {xs : List Arg} {ds : List D} {outs : EnvD} {z : Exc} : cV xs ds e (.exc z outs) = .exc z (putBack xs ds outs e) := rfl
def gCall (g : List D → Res (D × EnvD)) (xs : List Arg) (e : EnvD) : Option (List D) → Res (D × EnvD)
  | some ds => if (ownVars xs ds).Nodup then cV xs ds e (g ds) else .bad
  | none => .bad
@[simp] theorem kCall_g {g : List D → Res (D × EnvD)} {xs : List Arg} : kCall g (xs, e) = gCall g xs e (Arg.gets e xs) := by
  show mCallR g xs e = _
  unfold mCallR gCall
  cases Arg.gets e xs with
  | none => rfl
  | some ds =>
    dsimp only
    by_cases h : (ownVars xs ds).Nodup
    · rw [if_pos h, if_pos h]; rfl
    · rw [if_neg h, if_neg h]
@[simp] theorem gCall_ok {g : List D → Res (D × EnvD)} {xs : List Arg} {ds : List D} : gCall g xs e (some ds) = if (ownVars xs ds).Nodup then cV xs ds e (g ds) else .bad := rfl
def iV (k : TyK) (e : EnvD) : Option D → Res (D × EnvD)
  | some d => mLift ((isK k d).map .bl) e
  | none => .bad
def kIsi (k : TyK) : Arg × EnvD → Res (D × EnvD) := fun (x, e) => iV k e (x.get e)
@[simp] theorem e_isi {k : TyK} : mIsi k ma env = (ma env).bind (kIsi k) := by
  unfold mIsi
  refine bind_ext fun x => ?_
  obtain ⟨x, e1⟩ := x
  show _ = iV k e1 (x.get e1)
  dsimp only
  cases x.get e1 <;> rfl
@[simp] theorem kIsi_ok {k : TyK} : kIsi k (x, e) = iV k e (x.get e) := rfl
@[simp] theorem iV_ok {k : TyK} : iV k e (some d) = mLift ((isK k d).map .bl) e := rfl
/-! chains -/
def chV3 (g' : D → D → Option D) (y : Arg) : Arg × EnvD → Res (D × EnvD) := fun (z, e) => bV g' e (y.get e) (z.get e)
def chV2 (g' : D → D → Option D) (mc : EM Arg) (y : Arg) (e : EnvD) : Option Bool → Res (D × EnvD)
  | some true => (mc e).bind (chV3 g' y)
  | some false => .ok (.bl false, e)
  | none => .bad
def chV1 (g g' : D → D → Option D) (mc : EM Arg) (y : Arg) (e : EnvD) : Option D → Option D → Res (D × EnvD)
  | some d1, some d2 => chV2 g' mc y e ((g d1 d2).bind D.bool)
  | _, _ => .bad
def kCh2 (g g' : D → D → Option D) (mc : EM Arg) (x : Arg) : Arg × EnvD → Res (D × EnvD) := fun (y, e) => chV1 g g' mc y e (x.get e) (y.get e)
def kCh1 (g g' : D → D → Option D) (mb mc : EM Arg) : Arg × EnvD → Res (D × EnvD) := fun (x, e) => (mb e).bind (kCh2 g g' mc x)
@[simp] theorem e_chain {g g' : D → D → Option D} : mChain g g' ma mb mc env = (ma env).bind (kCh1 g g' mb mc) := by
  unfold mChain
  refine bind_ext fun x => ?_
  obtain ⟨x, e1⟩ := x
  show _ = (mb e1).bind (kCh2 g g' mc x)
  refine bind_ext fun y => ?_
  obtain ⟨y, e2⟩ := y
  show _ = chV1 g g' mc y e2 (x.get e2) (y.get e2)
  dsimp only
  cases x.get e2 with
  | none => rfl
  | some d1 =>
    cases y.get e2 with
    | none => rfl
    | some d2 =>
      show _ = chV2 g' mc y e2 ((g d1 d2).bind D.bool)
      dsimp only
      rcases (g d1 d2).bind D.bool with _ | _ | _
      · rfl
      · rfl
      · show (mc e2).bind _ = (mc e2).bind (chV3 g' y)
        refine bind_ext fun z => ?_
        obtain ⟨z, e3⟩ := z
        show _ = bV g' e3 (y.get e3) (z.get e3)
        dsimp only
        cases y.get e3 <;> cases z.get e3 <;> rfl
@[simp] theorem kCh1_ok {g g' : D → D → Option D} : kCh1 g g' mb mc (x, e) = (mb e).bind (kCh2 g g' mc x) := rfl
@[simp] theorem kCh2_ok {g g' : D → D → Option D} : kCh2 g g' mc x (y, e) = chV1 g g' mc y e (x.get e) (y.get e) := rfl
@[simp] theorem chV1_ok {g g' : D → D → Option D} : chV1 g g' mc y e (some d1) (some d2) = chV2 g' mc y e ((g d1 d2).bind D.bool) := rfl
@[simp] theorem chV2_t {g' : D → D → Option D} : chV2 g' mc y e (some true) = (mc e).bind (chV3 g' y) := rfl
@[simp] theorem chV2_f {g' : D → D → Option D} : chV2 g' mc y e (some false) = .ok (.bl false, e) := rfl
@[simp] theorem chV3_ok {g' : D → D → Option D} : chV3 g' y (x, e) = bV g' e (y.get e) (x.get e) := rfl
/-! slices -/
def kSl3 (x : Arg) (lo : Option Int) : Option Int × EnvD → Res (D × EnvD) := fun (hi, e) => uV (fun d => slD d lo hi) e (x.get e)
def kSl2 (mh : EM (Option Int)) (x : Arg) : Option Int × EnvD → Res (D × EnvD) := fun (lo, e) => (mh e).bind (kSl3 x lo)
def kSl1 (ml mh : EM (Option Int)) : Arg × EnvD → Res (D × EnvD) := fun (x, e) => (ml e).bind (kSl2 mh x)
variable {ml mh : EM (Option Int)} {lo hi : Option Int}
@[simp] theorem e_sl : mSl ma ml mh env = (ma env).bind (kSl1 ml mh) := by
  unfold mSl
  refine bind_ext fun x => ?_
  obtain ⟨x, e1⟩ := x
  show _ = (ml e1).bind (kSl2 mh x)
  refine bind_ext fun y => ?_
  obtain ⟨y, e2⟩ := y
  show _ = (mh e2).bind (kSl3 x y)
  refine bind_ext fun z => ?_
  obtain ⟨z, e3⟩ := z
  show _ = uV (fun d => slD d y z) e3 (x.get e3)
  dsimp only
  cases x.get e3 <;> rfl
@[simp] theorem kSl1_ok : kSl1 ml mh (x, e) = (ml e).bind (kSl2 mh x) := rfl
@[simp] theorem kSl2_ok : kSl2 mh x (lo, e) = (mh e).bind (kSl3 x lo) := rfl
@[simp] theorem kSl3_ok : kSl3 x lo (hi, e) = uV (fun d => slD d lo hi) e (x.get e) := rfl
@[simp] theorem e_noP : mNoP env = .ok (none, env) := rfl
def kPart : D × EnvD → Res (Option Int × EnvD) := fun (d, e) => match d with
  | .int i => .ok (some i, e)
  | _ => .bad
@[simp] theorem e_part : mPart m env = (m env).bind kPart := rfl
@[simp] theorem kPart_ok {z : Int} : kPart (.int z, e) = .ok (some z, e) := rfl
/-! stores -/
def sV (j : Nat) (y : D) (e : EnvD) : Option (Option D) → Option D → Res (FlowD × EnvD)
  | some (some d), some i => oFlow ((setQ d i (frzQ y)).map fun d' => e.set j (some d'))
  | _, _ => .bad
def kSet2 (j : Nat) (y : D) : Arg × EnvD → Res (FlowD × EnvD) := fun (x, e) => sV j y e (e[j]?) (x.get e)
def kSetV (j : Nat) (mi : EM D) (y : D) (e : EnvD) : Option (Option D) → Res (FlowD × EnvD)
  | some (some _) => (mFrz mi e).bind (kSet2 j y)
  | _ => .bad
def kSet1 (j : Nat) (mi : EM D) : D × EnvD → Res (FlowD × EnvD) := fun (y, e) => kSetV j mi y e (e[j]?)
@[simp] theorem e_set : mSet j m n env = (n env).bind (kSet1 j m) := by
  unfold mSet
  refine bind_ext fun x => ?_
  obtain ⟨y, e1⟩ := x
  show _ = kSetV j m y e1 (e1[j]?)
  dsimp only
  rcases e1[j]? with _ | _ | d
  · rfl
  · rfl
  · show (mFrz m e1).bind _ = (mFrz m e1).bind (kSet2 j y)
    refine bind_ext fun z => ?_
    obtain ⟨z, e2⟩ := z
    show _ = sV j y e2 (e2[j]?) (z.get e2)
    dsimp only
    rcases e2[j]? with _ | _ | d'
    · rfl
    · rfl
    · cases z.get e2 with
      | none => rfl
      | some i =>
        show _ = oFlow ((setQ d' i (frzQ y)).map fun d'' => e2.set j (some d''))
        dsimp only
        cases setQ d' i (frzQ y) <;> rfl
@[simp] theorem kSet1_ok : kSet1 j m (d, e) = kSetV j m d e (e[j]?) := rfl
@[simp] theorem kSetV_ok : kSetV j m d1 e (some (some d)) = (mFrz m e).bind (kSet2 j d1) := rfl
@[simp] theorem kSet2_ok : kSet2 j d (x, e) = sV j d e (e[j]?) (x.get e) := rfl
@[simp] theorem sV_ok {i : D} : sV j d1 e (some (some d)) (some i) = oFlow ((setQ d i (frzQ d1)).map fun d' => e.set j (some d')) := rfl
/-! loops -/
def kFor (t : Tgt) (body : EM FlowD) : List D × EnvD → Res (FlowD × EnvD) := fun (ds, e) => if fzL ds = true then loopF t body ds e else .bad
@[simp] theorem e_for {mi : EM (List D)} {t : Tgt} : mFor mi t ms env = (mi env).bind (kFor t ms) := rfl
theorem kFor_ok {ds : List D} {t : Tgt} (h : fzL ds = true) : kFor t ms (ds, e) = loopF t ms ds e := by
  show (if fzL ds = true then _ else _) = _
  rw [if_pos h]
@[simp] theorem e_while {fuel : EnvD → Nat} : mWhile fuel mt ms env = whileF mt ms (fuel env) env := rfl
def rV (f : List D → Option (List D)) (e : EnvD) : Option (List D) → Res (List D × EnvD)
  | some ds => match f ds with
    | some l => .ok (l, e)
    | none => .bad
  | none => .bad
def kIt (f : List D → Option (List D)) : List Arg × EnvD → Res (List D × EnvD) := fun (xs, e) => rV f e (Arg.gets e xs)
@[simp] theorem e_it {f : List D → Option (List D)} : mIt mas f env = (mas env).bind (kIt f) := by
  unfold mIt
  refine bind_ext fun x => ?_
  obtain ⟨x, e1⟩ := x
  show _ = rV f e1 (Arg.gets e1 x)
  dsimp only
  cases Arg.gets e1 x <;> rfl
@[simp] theorem kIt_ok {f : List D → Option (List D)} {xs : List Arg} : kIt f (xs, e) = rV f e (Arg.gets e xs) := rfl
theorem rV_ok {f : List D → Option (List D)} {ds l : List D} (h : f ds = some l) : rV f e (some ds) = .ok (l, e) := by
  show (match f ds with | some l => _ | none => _) = _
  rw [h]
def sqV (e : EnvD) : Option D → Res (List D × EnvD)
  | some d => match seqI [d] with
    | some l => .ok (l, e)
    | none => .bad
  | none => .bad
def kIt1 : Arg × EnvD → Res (List D × EnvD) := fun (x, e) => sqV e (x.get e)
@[simp] theorem e_it1 : mIt1 ma env = (ma env).bind kIt1 := by
  unfold mIt1
  refine bind_ext fun x => ?_
  obtain ⟨x, e1⟩ := x
  show _ = sqV e1 (x.get e1)
  dsimp only
  cases x.get e1 <;> rfl
@[simp] theorem kIt1_ok : kIt1 (x, e) = sqV e (x.get e) := rfl
theorem sqV_ok {l : List D} (h : seqI [d] = some l) : sqV e (some d) = .ok (l, e) := by
  show (match seqI [d] with | some l => _ | none => _) = _
  rw [h]
def kLc2 (e : EnvD) (own : List Nat) : List D × EnvD → Res (D × EnvD) := fun (l, e') => .ok (.lst true l, restE e e' own)
def kLc (t : Tgt) (cond : EM Bool) (elt : EM D) (own : List Nat) : List D × EnvD → Res (D × EnvD) := fun (ds, e) => if fzL ds = true ∧ ds.length ≤ 100000 then (loopL t cond elt own ds [] e).bind (kLc2 e own) else .bad
@[simp] theorem e_lc {mi : EM (List D)} {t : Tgt} {own : List Nat} : mLc mi t mt m own env = (mi env).bind (kLc t mt m own) := rfl
theorem kLc_okX {ds : List D} {t : Tgt} {own : List Nat} (h1 : fzL ds = true) (h2 : ds.length ≤ 100000) : kLc t mt m own (ds, e) = (loopL t mt m own ds [] e).bind (kLc2 e own) := by
  show (if fzL ds = true ∧ ds.length ≤ 100000 then _ else _) = _
  rw [if_pos ⟨h1, h2⟩]
theorem kLc_ok {ds : List D} {t : Tgt} {own : List Nat} (h1 : fzL ds = true) (h2 : ds.length ≤ 1000) : kLc t mt m own (ds, e) = (loopL t mt m own ds [] e).bind (kLc2 e own) := kLc_okX h1 (by omega)
@[simp] theorem kLc2_ok {e' : EnvD} {own : List Nat} {l : List D} : kLc2 e own (l, e') = .ok (.lst true l, restE e e' own) := rfl
@[simp] theorem e_exc {s : Str} : mExc s env = .exc ⟨s, [], []⟩ env := rfl
def kTry (yes no : List Str) (suite : EM FlowD) : Res (FlowD × EnvD) → Res (FlowD × EnvD)
  | .exc x e => if x.cls ∈ yes then calmR (suite e) else if x.cls ∈ no then .exc x e else .bad
  | r => r
@[simp] theorem e_try {yes no : List Str} : mTry yes no ms ns env = kTry yes no ns (ms env) := by
  unfold mTry kTry
  cases ms env <;> rfl
@[simp] theorem kTry_ok {yes no : List Str} {f : FlowD × EnvD} : kTry yes no ns (.ok f) = .ok f := rfl
@[simp] theorem kTry_exc {yes no : List Str} {z : Exc} : kTry yes no ns (.exc z e) = if z.cls ∈ yes then calmR (ns e) else if z.cls ∈ no then .exc z e else .bad := rfl
@[simp] theorem calmR_ok {f : FlowD × EnvD} : calmR (.ok f) = .ok f := rfl
def kWh2 (c : EM Bool) (body : EM FlowD) (n : Nat) : FlowD × EnvD → Res (FlowD × EnvD) := fun (f, e2) => match f with
  | .next => whileF c body n e2
  | .cont => whileF c body n e2
  | .brk => .ok (.next, e2)
  | .ret d => .ok (.ret d, e2)
def kWh (c : EM Bool) (body : EM FlowD) (n : Nat) : Bool × EnvD → Res (FlowD × EnvD) := fun (b, e1) => if b = true then (body e1).bind (kWh2 c body n) else .ok (.next, e1)
theorem e_wh {n : Nat} : whileF mt ms (n + 1) env = (mt env).bind (kWh mt ms n) := rfl
@[simp] theorem kWh_t {n : Nat} : kWh mt ms n (true, e) = (ms e).bind (kWh2 mt ms n) := rfl
@[simp] theorem kWh_f {n : Nat} : kWh mt ms n (false, e) = .ok (.next, e) := rfl
@[simp] theorem kWh2_next {n : Nat} : kWh2 mt ms n (.next, e) = whileF mt ms n e := rfl
@[simp] theorem kWh2_cont {n : Nat} : kWh2 mt ms n (.cont, e) = whileF mt ms n e := rfl
@[simp] theorem kWh2_brk {n : Nat} : kWh2 mt ms n (.brk, e) = .ok (.next, e) := rfl
@[simp] theorem kWh2_ret {n : Nat} : kWh2 mt ms n (.ret d, e) = .ok (.ret d, e) := rfl
def kLp (t : Tgt) (body : EM FlowD) (ds : List D) : FlowD × EnvD → Res (FlowD × EnvD) := fun (f, e2) => match f with
  | .next => loopF t body ds e2
  | .cont => loopF t body ds e2
  | .brk => .ok (.next, e2)
  | .ret d => .ok (.ret d, e2)
def lpV (t : Tgt) (body : EM FlowD) (ds : List D) : Option EnvD → Res (FlowD × EnvD)
  | some e1 => (body e1).bind (kLp t body ds)
  | none => .bad
theorem e_lp0 {t : Tgt} : loopF t ms [] e = .ok (.next, e) := rfl
theorem e_lp {t : Tgt} {ds : List D} : loopF t ms (d :: ds) e = lpV t ms ds (mTg t d e) := by
  rw [loopF]
  cases mTg t d e <;> rfl
@[simp] theorem lpV_ok {t : Tgt} {ds : List D} : lpV t ms ds (some e) = (ms e).bind (kLp t ms ds) := rfl
@[simp] theorem kLp_next {t : Tgt} {ds : List D} : kLp t ms ds (.next, e) = loopF t ms ds e := rfl
@[simp] theorem kLp_cont {t : Tgt} {ds : List D} : kLp t ms ds (.cont, e) = loopF t ms ds e := rfl
@[simp] theorem kLp_brk {t : Tgt} {ds : List D} : kLp t ms ds (.brk, e) = .ok (.next, e) := rfl
@[simp] theorem kLp_ret {t : Tgt} {ds : List D} : kLp t ms ds (.ret d, e) = .ok (.ret d, e) := rfl
@[simp] theorem tg_nm : mTg (.nm i) d e = some (e.set i (some d)) := by simp [mTg]
/-! data -/
@[simp] theorem fz_non : fz .non = true := by simp [fz]
@[simp] theorem fz_bl : fz (.bl b) = true := by simp [fz]
@[simp] theorem fz_int {z : Int} : fz (.int z) = true := by simp [fz]
@[simp] theorem fz_str {z : Str} : fz (.str z) = true := by simp [fz]
@[simp] theorem fz_scr {z : List Int} : fz (.scr z) = true := by simp [fz]
@[simp] theorem fz_tup {l : List D} : fz (.tup l) = fzL l := by simp [fz]
@[simp] theorem fz_lst {l : List D} : fz (.lst b l) = (!b && fzL l) := by simp [fz]
@[simp] theorem fz_dic {k l : List D} : fz (.dic b k l) = (!b && (fzL k && fzL l)) := by simp [fz]
@[simp] theorem fzL_nil : fzL [] = true := by simp [fzL]
@[simp] theorem fzL_cons {l : List D} : fzL (d :: l) = (fz d && fzL l) := by simp [fzL]
theorem frzQ_fz (h : fz d = true) : frzQ d = d := by unfold frzQ; rw [if_pos h]
@[simp] theorem frzQ_non : frzQ .non = .non := rfl
@[simp] theorem frzQ_bl : frzQ (.bl b) = .bl b := rfl
@[simp] theorem frzQ_int {z : Int} : frzQ (.int z) = .int z := rfl
@[simp] theorem frzQ_str {z : Str} : frzQ (.str z) = .str z := rfl
@[simp] theorem frzQ_scr {z : List Int} : frzQ (.scr z) = .scr z := rfl
theorem frz_lstt {l : List D} (h : fzL l = true) : frzQ (.lst true l) = .lst false l := by unfold frzQ; simp [frz, frzL_fz l h]
end
end Mi
namespace Mi
open PySem PySem.Spec PyProof.Rows L2

/-! ### several except clauses -/
abbrev Hd := List Str × List Str × EM FlowD
def hdsM : List Hd → Exc → EnvD → Res (FlowD × EnvD)
  | [], x, e => .exc x e
  | (y, n, s) :: r, x, e => if x.cls ∈ y then calmR (s e) else if x.cls ∈ n then hdsM r x e else .bad
def mTryM (hs : List Hd) (body : EM FlowD) : EM FlowD := fun env => match body env with
  | .exc x e => hdsM hs x e
  | r => r
inductive HdM (X : Cx) (G : Gm) : List ExceptHandler → List Hd → List (Value × (Addr → Value → Option Addr → TS)) → Prop
  | nil : HdM X G [] [] []
  | cons {x : Str} {c : Value} {b0 : Stmt} {suite : List Stmt} {np pos' : Pos} {hds : List ExceptHandler} {hs : List Hd} {l : List (Value × (Addr → Value → Option Addr → TS))} {yes no : List Str} {ns : EM FlowD} (hc : Names X x c)
      (hy : ∀ n ∈ yes, ∀ u, G.C.mg n = some u → PySem.W.exmOne G.C.K u c = some true) (hn : ∀ n ∈ no, ∀ u, G.C.mg n = some u → PySem.W.exmOne G.C.K u c = some false)
      (hsu : ∀ (a : Addr) (pn : List (Addr × Obj)), St0 (X.suite a pn) G → PSs (X.suite a pn) (b0 :: suite) (tS G W0 ns)) (r : HdM X G hds hs l) :
      HdM X G (.ExceptHandler (some (.Name x np)) none (b0 :: suite) pos' :: hds) ((yes, no, ns) :: hs) ((c, fun _ _ _ => tS G W0 ns) :: l)
theorem HdM.hds {X : Cx} {G : Gm} {W : WX} {lv : Nat} (s : Go X G W lv) : ∀ {hds : List ExceptHandler} {hs : List Hd} {l : List (Value × (Addr → Value → Option Addr → TS))}, HdM X G hds hs l → HdsOk X hds l := fun h => by
  induction h with
  | nil => exact .nil
  | cons hc hy hn hsu r ih => exact .cons hc (fun a oe cls d pn _ _ => hsu a ((a, oe) :: pn) (s.suite a _)) ih
theorem calm_post {G : Gm} {W W' : WX} {D : Ends} {b : Wd} {r : Res (FlowD × EnvD)} (h : PostS G W D b (calmR r)) : PostS G W' D b r := by
  cases r with
  | bad => exact (show False from h).elim
  | exc x e => exact (show False from h).elim
  | ok fe => obtain ⟨f, e⟩ := fe; cases f <;> exact h
theorem HdM.many {X : Cx} {G : Gm} {W : WX} {D : Ends} {lv : Nat} (s : Go X G W lv) {x : Exc} {e : EnvD} {b : Wd} {σ : L2.St} {cls : Value} {dd : Option Addr} (rel : RelE G b σ e) (er : ExcRep G.C b x cls dd) :
    ∀ {hds : List ExceptHandler} {hs : List Hd} {l : List (Value × (Addr → Value → Option Addr → TS))}, HdM X G hds hs l → PostS G W D b (hdsM hs x e) → wMany X.K W D l cls dd σ b.H := fun h => by
  induction h with
  | nil => exact fun p => p b σ cls dd (Step.refl b) rel er
  | @cons x' c b0 suite np pos' hds hs l yes no ns hc hy hn hsu r ih =>
    intro p
    unfold hdsM at p
    by_cases h1 : x.cls ∈ yes
    · rw [if_pos h1] at p
      exact ⟨true, by rw [s.k]; exact hy _ h1 _ er.1, fun _ u _ => ⟨b, e, rfl, rel, calm_post p⟩, fun z => Bool.noConfusion z⟩
    · rw [if_neg h1] at p
      by_cases h2 : x.cls ∈ no
      · rw [if_pos h2] at p
        exact ⟨false, by rw [s.k]; exact hn _ h2 _ er.1, fun z => Bool.noConfusion z, fun _ => ih p⟩
      · rw [if_neg h2] at p
        exact (show False from p).elim
theorem rs_tryM {X : Cx} {G : Gm} {W : WX} {lv : Nat} {pos : Pos} {body : List Stmt} {h0 : ExceptHandler} {hds : List ExceptHandler} {hs : List Hd} {l : List (Value × (Addr → Value → Option Addr → TS))} {ms : EM FlowD} (s : Go X G W lv) (hst : X.stack = X.env :: X.outer) (hf : X.env.frame = some X.env.locals)
    (hb : ∀ (W' : WX) (pn : List (Addr × Obj)) (xe : Value → Shared → Prop), Go (X.tr pn xe) G W' lv → PSs (X.tr pn xe) body (tS G W' ms)) (hh : HdM X G (h0 :: hds) hs l) :
    PS X (.Try body (h0 :: hds) [] [] pos) (tS G W (mTryM hs ms)) := by
  refine (ps_try_many hst hf s.tk (fun W' pn xe tk pw => hb W' pn xe (s.tr tk pw)) (hh.hds s)).weak fun D σ H q => ?_
  obtain ⟨a, env, rfl, rel, post⟩ := q
  refine ⟨a, env, rfl, rel, ?_⟩
  unfold mTryM at post
  cases hm : ms env with
  | bad => rw [hm] at post; exact post
  | ok fe =>
    obtain ⟨f, e⟩ := fe
    rw [hm] at post
    cases f <;> exact post
  | exc y e =>
    rw [hm] at post
    exact fun b σ' cls dd st r er => HdM.many s r er hh (PostS.step st post)
def kTryM (hs : List Hd) : Res (FlowD × EnvD) → Res (FlowD × EnvD)
  | .exc x e => hdsM hs x e
  | r => r
section
variable {env e : EnvD} {ms : EM FlowD} {hs : List Hd}
@[simp] theorem e_tryM : mTryM hs ms env = kTryM hs (ms env) := by
  unfold mTryM kTryM
  cases ms env <;> rfl
@[simp] theorem kTryM_ok {f : FlowD × EnvD} : kTryM hs (.ok f) = .ok f := rfl
@[simp] theorem kTryM_exc {z : Exc} : kTryM hs (.exc z e) = hdsM hs z e := rfl
end
end Mi
namespace Mi
open PySem PySem.Spec PyProof.Rows L2

/-! ### a slot's own list, rewritten -/
theorem RelE.rewr {G : Gm} {a : Wd} {σ : L2.St} {env : EnvD} {j : Nat} {l : List D} (r : RelE G a σ env) (h : env[j]? = some (some (.lst true l))) :
    ∃ x vs, σ[j]? = some (some (.ref x)) ∧ a.H x = some (.lst vs) ∧ RepL G.C a (j + 1) [] 0 vs l ∧ ∀ (vs' : List V) (l' : List D) (s n : Nat) (q : List Nat), fzL l' = true → RepL G.C a s q n vs' l' →
      Step a ⟨a.F, upd a.H x (.lst vs'), a.t⟩ ∧ RelE G ⟨a.F, upd a.H x (.lst vs'), a.t⟩ σ (env.set j (some (.lst true l'))) := by
  obtain ⟨w, h1, h2⟩ := r.slot j _ h
  simp only [Rep] at h2
  obtain ⟨x, vs, rfl, hx, hl⟩ := h2
  rw [if_pos trivial] at hx
  obtain ⟨tx, hx⟩ := hx
  refine ⟨x, vs, h1, hx, hl, fun vs' l' s n q z hl' => ?_⟩
  have ne : ∀ {y : Addr} {t : Option Tag}, a.t y = t → t ≠ some (j + 1, []) → y ≠ x := fun e ht => by rintro rfl; rw [tx] at e; exact ht e.symm
  have fx : a.F x = none := (r.ok.own x _ tx).1
  have up : ∀ {y : Addr}, y ≠ x → upd a.H x (.lst vs') y = a.H y := fun e => upd_ne e
  have ok' : Ok ⟨a.F, upd a.H x (.lst vs'), a.t⟩ := by
    refine ⟨fun y o e => ?_, fun y t e => ?_⟩
    · have : y ≠ x := by rintro rfl; have e : a.F y = some o := e; rw [fx] at e; cases e
      show upd a.H x _ y = _
      rw [up this]; exact r.ok.sub y o e
    · obtain ⟨g1, o, g2⟩ := r.ok.own y t e
      by_cases q : y = x
      · subst q; exact ⟨g1, _, upd_same⟩
      · exact ⟨g1, o, by show upd a.H x _ y = _; rw [up q]; exact g2⟩
  have mv : ∀ {d : D} {r p} {v1 : V}, (∀ z, (r, z ++ p) ≠ (j + 1, ([] : List Nat))) → Rep G.C a r p v1 d → Rep G.C ⟨a.F, upd a.H x (.lst vs'), a.t⟩ r p v1 d := fun {d r p v1} hne h => by
    have := Rep.to (C := G.C) (a := a) (b := ⟨a.F, upd a.H x (.lst vs'), a.t⟩) (r := r) (s := r) (p := p) (q := p) (fun _ _ h => h) (fun y z o h e => ⟨h, by
      show upd a.H x _ y = _
      rw [up (ne h (by intro q; exact hne z (Option.some.inj q)))]; exact e⟩) d [] v1
    exact this h
  refine ⟨fun y o e t => ⟨by show upd a.H x _ y = _; rw [up (ne t (by simp))]; exact e, t, rfl⟩, ⟨ok', by rw [List.length_set]; exact r.len, fun i d e => ?_, r.prm⟩⟩
  by_cases ij : j = i
  · subst ij
    have hj : j < env.length := (List.getElem?_eq_some_iff.mp h).1
    rw [List.getElem?_set_self hj] at e
    cases e
    refine ⟨.ref x, h1, ?_⟩
    simp only [Rep]
    refine ⟨x, vs', rfl, ?_, ?_⟩
    · rw [if_pos trivial]; exact ⟨tx, upd_same⟩
    · exact RepL.fz (a := a) (b := ⟨a.F, upd a.H x (.lst vs'), a.t⟩) (fun _ _ h => h) l' q [] n vs' z hl'
  · rw [List.getElem?_set_ne ij] at e
    obtain ⟨w, e1, e2⟩ := r.slot i d e
    exact ⟨w, e1, mv (by intro z q; exact ij (Nat.succ.inj (congrArg Prod.fst q)).symm) e2⟩
/- a method of a slot's own list: the arguments, the answer and the list behind it -/
def mMet (j : Nat) (ma : EM (List Arg)) (f : List D → List D → Option (D × List D)) : EM D := fun env => match env[j]? with
  | some (some (.lst true _)) => (ma env).bind fun (xs, e) => match e[j]?, Arg.gets e xs with
    | some (some (.lst true l)), some ds => match f l ds with
      | some (d, l') => .ok (d, e.set j (some (.lst true l')))
      | none => .bad
    | _, _ => .bad
  | _ => .bad
/- r does to the objects what f does to the data -/
def MetOk (C : KM) (r : V → List V → Hp → VK → Prop) (f : List D → List D → Option (D × List D)) : Prop := ∀ (a : Wd) (x : Addr) (vs us : List V) (l ds : List D) (d : D) (l' : List D) (n s : Nat) (p : List Nat) (Q : VK), Ok a → a.H x = some (.lst vs) → RepL C a s p n vs l → Paired (fun d v => ∃ r, Rep C a r [] v d) ds us → f l ds = some (d, l') →
  (∀ v vs' s' n' q, fzL l' = true → RepL C a s' q n' vs' l' → (∃ s'' q'', fz d = true ∧ Rep C a s'' q'' v d) → Q v (upd a.H x (.lst vs'))) → r (.ref x) us a.H Q
theorem met_w {G : Gm} {W : WX} {σ : L2.St} {H : Hp} {Q : VK} {j : Nat} {ma : EM (List Arg)} {f : List D → List D → Option (D × List D)} {r : V → List V → Hp → VK → Prop} (ok : MetOk G.C r f) (h : tE G W (mMet j ma f) σ H Q) : tBM G.C.K "list" r (tVar j) (tArgs G W ma) σ H Q := by
  obtain ⟨a, env, rfl, rel, post⟩ := h
  unfold mMet at post
  split at post
  · rename_i l0 hj
    obtain ⟨x, vs, h1, h2, h3, _⟩ := rel.rewr hj
    refine ⟨.ref x, h1, .inl ⟨rfl, vs, SqL.of h2⟩, tArgs_of rel post fun xs e b us st r' ps p => ?_⟩
    dsimp only at p
    split at p
    · rename_i l ds hj' hg
      cases hf : f l ds with
      | none => rw [hf] at p; exact (show False from p).elim
      | some dl =>
        obtain ⟨d, l'⟩ := dl
        rw [hf] at p
        dsimp only at p
        obtain ⟨x', vs', k1, k2, k3, k4⟩ := r'.rewr hj'
        rw [h1] at k1; cases k1
        refine ok b x vs' us l ds d l' _ _ _ Q r'.ok k2 k3 (gets_rep r' ps hg) hf fun v ws s' n' q z hr ⟨s'', q'', zd, rd⟩ => ?_
        obtain ⟨st', rel'⟩ := k4 ws l' s' n' q z hr
        exact p _ st' rel' v (rd.step r'.ok st' zd)
    · exact (show False from p).elim
  · exact (show False from post).elim
def appF (l ds : List D) : Option (D × List D) := match ds with
  | [y] => if fzL l = true ∧ fz y = true ∧ l.length < 16000000 then some (.non, l ++ [y]) else none
  | _ => none
def extF (l ds : List D) : Option (D × List D) := match ds with
  | [.lst _ m] => if fzL l = true ∧ fzL m = true ∧ l.length + m.length < 16000000 then some (.non, l ++ m) else none
  | _ => none
def popF (l ds : List D) : Option (D × List D) := match ds with
  | [.int i] => if fzL l = true ∧ -(2 ^ 63) ≤ i ∧ i < 2 ^ 63 then match seqIndex? i l.length with
      | some k => (l[k]?).map fun d => (d, l.eraseIdx k)
      | none => none
    else none
  | [] => if fzL l = true then (l[l.length - 1]?).map fun d => (d, l.dropLast) else none
  | _ => none
def insF (l ds : List D) : Option (D × List D) := match ds with
  | [.int i, y] => if fzL l = true ∧ fz y = true ∧ 0 ≤ i ∧ i < 2 ^ 63 ∧ l.length < 16000000 then some (.non, l.take i.toNat ++ [y] ++ l.drop i.toNat) else none
  | _ => none
theorem szl : sizeLine = 16777216 := sizeLine_eq
section
variable {C : KM}
theorem met_app : MetOk C rAppend appF := fun a x vs us l ds d l' n s p Q k hx hl ps hf q => by
  match ds, hf, ps with
  | [y], hf, ps =>
    simp only [appF] at hf
    split at hf
    · rename_i z; cases hf
      obtain ⟨u, rfl, ru, hu⟩ := one_rep ps
      refine ⟨x, vs, u, rfl, rfl, hx, by rw [hl.len, szl]; omega, q .non _ 0 0 [] (by rw [fzL_append, z.1]; simp [fzL, z.2.1]) (RepL.appz (n := n) (s := 0) (q := []) (k := 0) z.1 (by simp [fzL, z.2.1]) hl ?_) ⟨0, [], by simp [fz], by simp [Rep]⟩⟩
      exact ⟨u, [], rfl, Rep.fz (a := a) (b := a) (fun _ _ h => h) y [] [0] u z.2.1 hu, by simp [RepL]⟩
    · cases hf
theorem met_ext : MetOk C rExtend extF := fun a x vs us l ds d l' n s p Q k hx hl ps hf q => by
  match ds, hf, ps with
  | [.lst o m], hf, ps =>
    simp only [extF] at hf
    split at hf
    · rename_i z; cases hf
      obtain ⟨u, rfl, ru, hu⟩ := one_rep ps
      obtain ⟨y, ws, rfl, h1, h2⟩ := rep_lst k hu
      exact ⟨x, y, vs, ws, rfl, rfl, hx, h1, by rw [hl.len, h2.len, szl]; omega, q .non _ 0 0 [] (by rw [fzL_append, z.1, z.2.1]; rfl) (RepL.appz (n := n) (k := 0) z.1 z.2.1 hl h2) ⟨0, [], by simp [fz], by simp [Rep]⟩⟩
    · cases hf
theorem repL_drop {a : Wd} {r : Nat} {p : List Nat} : ∀ {l : List D} {n : Nat} {vs : List V} (k : Nat), fzL l = true → RepL C a r p n vs l → RepL C a r p n (vs.eraseIdx k) (l.eraseIdx k)
  | [], n, vs, k, z, e => by simp only [RepL] at e; subst e; simp [RepL]
  | d :: l, n, vs, 0, z, ⟨v, us, e, h1, h2⟩ => by
    subst e
    simp only [fzL, Bool.and_eq_true] at z
    exact RepL.fz (a := a) (b := a) (fun _ _ h => h) l p p (n + 1) us z.2 h2
  | d :: l, n, vs, k + 1, z, ⟨v, us, e, h1, h2⟩ => by
    subst e
    simp only [fzL, Bool.and_eq_true] at z
    exact ⟨v, us.eraseIdx k, rfl, h1, repL_drop k z.2 h2⟩
theorem fzL_erase {l : List D} (h : fzL l = true) (k : Nat) : fzL (l.eraseIdx k) = true := fzL_all fun d hd => fzL_mem h d (List.mem_of_mem_eraseIdx hd)
theorem met_popAt : MetOk C (fun x vs H Q => rPopAt x vs H Q ∨ rPop x vs H Q) popF := fun a x vs us l ds d l' n s p Q k hx hl ps hf q => by
  match ds, hf, ps with
  | [.int i], hf, ps =>
    simp only [popF] at hf
    split at hf
    · rename_i z
      obtain ⟨u, rfl, ru, hu⟩ := one_rep ps
      cases rep_int hu
      cases hk : seqIndex? i l.length with
      | none => rw [hk] at hf; cases hf
      | some m =>
        rw [hk] at hf
        dsimp only at hf
        cases hm : l[m]? with
        | none => rw [hm] at hf; cases hf
        | some d0 =>
          rw [hm] at hf; cases hf
          obtain ⟨v, h1, h2⟩ := hl.get hm
          exact .inl ⟨x, vs, i, m, v, rfl, rfl, hx, z.2.1, z.2.2, by rw [hl.len]; exact hk, h1, q v _ s n p (fzL_erase z.1 m) (repL_drop m z.1 hl) ⟨s, _, fzL_mem z.1 _ (List.mem_of_getElem? hm), h2⟩⟩
    · cases hf
  | [], hf, ps =>
    simp only [popF] at hf
    split at hf
    · rename_i z
      cases ps
      cases hm : l[l.length - 1]? with
      | none => rw [hm] at hf; cases hf
      | some d0 =>
        rw [hm] at hf; cases hf
        obtain ⟨v, h1, h2⟩ := hl.get hm
        have e1 : vs.dropLast = vs.eraseIdx (vs.length - 1) := by rw [List.eraseIdx_length_sub_one]
        have e2 : l.dropLast = l.eraseIdx (l.length - 1) := by rw [List.eraseIdx_length_sub_one]
        refine .inr ⟨x, vs, v, rfl, rfl, hx, by rw [hl.len]; exact h1, ?_⟩
        rw [e1, hl.len]
        rw [e2] at q
        exact q v _ s n p (fzL_erase z _) (repL_drop _ z hl) ⟨s, _, fzL_mem z _ (List.mem_of_getElem? hm), h2⟩
    · cases hf
end
end Mi
namespace Mi
open PySem PySem.Spec PyProof.Rows L2

/-! ### rules for the methods of a slot's list -/
section
variable {X : Cx} {G : Gm} {W : WX} {lv : Nat} {a b e o : Expr} {es : List Expr} {ma : EM Arg} {mas : EM (List Arg)} {m : EM D} {apos cpos p : Pos} {x : Str}
theorem r_append (s : St0 X G) (j : Nat) (hN : X.N[j]? = some x) (hv : Vis X.env.scope x) (ha : PA X [e] (tArgs G W mas)) (hd : (x == ("__debug__" : Str)) = false := by decide) (hcd : (x == ("__classdict__" : Str)) = false := by decide)
    (hbase : attributeBase (.Name x p) "append" X.env (eval (.Name x p) X.env) = eval (.Name x p) X.env := by rfl) (hfew : ((backTo cpos (starEach [e] X.env)).all (fun x => !x.1) && (backToKw cpos (keywordEach [] X.env)).all (fun x => x.1.isSome)
      && decide ([e].length + ([] : List Keyword).length + (if ([] : List Keyword).isEmpty then 0 else 1) < 30)) = true := by rfl) (hline : (apos.endLine == cpos.line) = true := by rfl) (hs : starEach [e] X.env = (false, eval e X.env) :: starEach [] X.env := by rfl) (hplain : (backTo cpos (starEach [] X.env)).any (·.1) = false := by rfl) :
    PE X (.Call (.Attribute (.Name x p) "append" apos) [e] [] cpos) (tE G W (mMet j mas appF)) :=
  (pe_bm PySem.F.plainAttrs_list PySem.F.slot_list_append PySem.F.type_list_append mt_append (pe_var hN hv hd hcd) ha hbase hfew hline hs hplain).weak fun _ _ _ q => by
    have := met_w met_app q
    rw [s.k]; exact this
theorem r_extend (s : St0 X G) (j : Nat) (hN : X.N[j]? = some x) (hv : Vis X.env.scope x) (ha : PA X [e] (tArgs G W mas)) (hd : (x == ("__debug__" : Str)) = false := by decide) (hcd : (x == ("__classdict__" : Str)) = false := by decide)
    (hbase : attributeBase (.Name x p) "extend" X.env (eval (.Name x p) X.env) = eval (.Name x p) X.env := by rfl) (hfew : ((backTo cpos (starEach [e] X.env)).all (fun x => !x.1) && (backToKw cpos (keywordEach [] X.env)).all (fun x => x.1.isSome)
      && decide ([e].length + ([] : List Keyword).length + (if ([] : List Keyword).isEmpty then 0 else 1) < 30)) = true := by rfl) (hline : (apos.endLine == cpos.line) = true := by rfl) (hs : starEach [e] X.env = (false, eval e X.env) :: starEach [] X.env := by rfl) (hplain : (backTo cpos (starEach [] X.env)).any (·.1) = false := by rfl) :
    PE X (.Call (.Attribute (.Name x p) "extend" apos) [e] [] cpos) (tE G W (mMet j mas extF)) :=
  (pe_bm PySem.F.plainAttrs_list PySem.F.slot_list_extend PySem.F.type_list_extend mt_extend (pe_var hN hv hd hcd) ha hbase hfew hline hs hplain).weak fun _ _ _ q => by
    have := met_w met_ext q
    rw [s.k]; exact this
theorem r_popAt (s : St0 X G) (j : Nat) (hN : X.N[j]? = some x) (hv : Vis X.env.scope x) (ha : PA X [e] (tArgs G W mas)) (hd : (x == ("__debug__" : Str)) = false := by decide) (hcd : (x == ("__classdict__" : Str)) = false := by decide)
    (hbase : attributeBase (.Name x p) "pop" X.env (eval (.Name x p) X.env) = eval (.Name x p) X.env := by rfl) (hfew : ((backTo cpos (starEach [e] X.env)).all (fun x => !x.1) && (backToKw cpos (keywordEach [] X.env)).all (fun x => x.1.isSome)
      && decide ([e].length + ([] : List Keyword).length + (if ([] : List Keyword).isEmpty then 0 else 1) < 30)) = true := by rfl) (hline : (apos.endLine == cpos.line) = true := by rfl) (hs : starEach [e] X.env = (false, eval e X.env) :: starEach [] X.env := by rfl) (hplain : (backTo cpos (starEach [] X.env)).any (·.1) = false := by rfl) :
    PE X (.Call (.Attribute (.Name x p) "pop" apos) [e] [] cpos) (tE G W (mMet j mas popF)) :=
  (pe_bm PySem.F.plainAttrs_list PySem.F.slot_list_pop PySem.F.type_list_pop (MtR.or mt_popAt mt_pop) (pe_var hN hv hd hcd) ha hbase hfew hline hs hplain).weak fun _ _ _ q => by
    have := met_w met_popAt q
    rw [s.k]; exact this
theorem r_pop (s : St0 X G) (j : Nat) (hN : X.N[j]? = some x) (hv : Vis X.env.scope x) (hd : (x == ("__debug__" : Str)) = false := by decide) (hcd : (x == ("__classdict__" : Str)) = false := by decide)
    (hbase : attributeBase (.Name x p) "pop" X.env (eval (.Name x p) X.env) = eval (.Name x p) X.env := by rfl) (hline : (apos.endLine == cpos.line) = true := by rfl) :
    PE X (.Call (.Attribute (.Name x p) "pop" apos) [] [] cpos) (tE G W (mMet j (mArgs []) popF)) :=
  (pe_bm0 PySem.F.plainAttrs_list PySem.F.slot_list_pop PySem.F.type_list_pop (MtR.or mt_popAt mt_pop) (pe_var hN hv hd hcd) hbase hline).weak fun σ H Q q => by
    obtain ⟨v, h1, ty, a, env, rfl, rel, post⟩ := met_w met_popAt q
    refine ⟨v, h1, by rw [s.k]; exact ty, ?_⟩
    exact post a (Step.refl a) rel [] .nil

/-! ### texts -/
def strsOf : List D → Option (List Str)
  | [] => some []
  | .str s :: l => (strsOf l).map (s :: ·)
  | _ => none
theorem strs_rep {C : KM} {a : Wd} {r : Nat} {p : List Nat} : ∀ {l : List D} {n : Nat} {vs : List V} {ys : List Str}, strsOf l = some ys → RepL C a r p n vs l → vs = ys.map V.str
  | [], n, vs, ys, e, h => by cases e; simpa [RepL] using h
  | d :: l, n, vs, ys, e, ⟨v, us, e1, h1, h2⟩ => by
    cases d <;> simp only [strsOf] at e <;> (try (cases e; done))
    case str z =>
      cases hs : strsOf l with
      | none => rw [hs] at e; cases e
      | some zs =>
        rw [hs] at e; cases e
        cases rep_str h1
        rw [e1, strs_rep hs h2]; rfl
def joinD (s : Str) : D → Option D
  | .lst _ l => match strsOf l with
    | some ys => if (ys.map (·.length)).sum + ys.length * s.length ≤ 16777216 then some (.str (Txt.join s ys)) else none
    | none => none
  | .tup l => match strsOf l with
    | some ys => if (ys.map (·.length)).sum + ys.length * s.length ≤ 16777216 then some (.str (Txt.join s ys)) else none
    | none => none
  | _ => none
theorem r_join (s : St0 X G) {z : Str} {k : Nat} (he : PE X e (tArg G W ma)) (hs : starEach [e] X.env = [(false, eval e X.env)] := by rfl) (hbase : attributeBase (.Constant (.str z) k p) "join" X.env (eval (.Constant (.str z) k p) X.env) = eval (.Constant (.str z) k p) X.env := by rfl) (hline : (apos.endLine == cpos.line) = true := by rfl) :
    PE X (.Call (.Attribute (.Constant (.str z) k p) "join" apos) [e] [] cpos) (tE G W (mUn (joinD z) ma)) := (pe_join (pe_str) he hs hbase hline).weak fun σ H Q q => by
  refine ⟨⟨z, rfl⟩, ?_⟩
  obtain ⟨a, env, rfl, rel, post⟩ := q
  refine tArg_of rel post fun x e1 b v s1 rel1 ar1 post1 => ?_
  cases hx : x.get e1 with
  | none => simp only [hx] at post1; exact (show False from post1).elim
  | some d1 =>
    simp only [hx] at post1
    obtain ⟨d, hd, k⟩ := post1.lift rel1
    obtain ⟨r1, p1⟩ := ar1.rep rel1 hx
    cases d1 <;> simp only [joinD] at hd <;> (try (cases hd; done))
    case lst o l =>
      cases hl : strsOf l with
      | none => rw [hl] at hd; cases hd
      | some ys =>
        rw [hl] at hd
        dsimp only at hd
        split at hd
        · rename_i hz; cases hd
          obtain ⟨y, vs, rfl, h1, h2⟩ := rep_lst rel1.ok p1
          rw [strs_rep hl h2] at h1
          exact ⟨z, y, ys, rfl, rfl, .inl (SqL.of h1), hz, k b (Grow.refl b) rel1.ok _ (by simp [Rep])⟩
        · cases hd
    case tup l =>
      cases hl : strsOf l with
      | none => rw [hl] at hd; cases hd
      | some ys =>
        rw [hl] at hd
        dsimp only at hd
        split at hd
        · rename_i hz; cases hd
          obtain ⟨y, vs, rfl, h1, h2⟩ := rep_tup rel1.ok p1
          rw [strs_rep hl h2] at h1
          exact ⟨z, y, ys, rfl, rfl, .inr (by rw [s.k]; exact h1), hz, k b (Grow.refl b) rel1.ok _ (by simp [Rep])⟩
        · cases hd
end

/-! ### sorted texts -/
theorem lt_asym : ∀ {a b : List Nat}, ltCps a b = true → ltCps b a = false
  | [], [], h => by simp [ltCps] at h
  | [], _ :: _, _ => rfl
  | _ :: _, [], h => by simp [ltCps] at h
  | a :: r, b :: t, h => by
    simp only [ltCps, Bool.or_eq_true, decide_eq_true_eq, Bool.and_eq_true, beq_iff_eq] at h
    rcases h with h | ⟨rfl, h⟩
    · have e1 : ¬ b < a := by omega
      have e2 : ¬ b = a := by omega
      simp [ltCps, e1, e2]
    · simp [ltCps, lt_asym h]
theorem lt_tri : ∀ {a b : List Nat}, ltCps a b = false → ltCps b a = false → a = b
  | [], [], _, _ => rfl
  | [], _ :: _, h, _ => by simp [ltCps] at h
  | _ :: _, [], _, h => by simp [ltCps] at h
  | a :: r, b :: t, h, g => by
    simp only [ltCps, Bool.or_eq_false_iff, decide_eq_false_iff_not, Bool.and_eq_false_iff, beq_eq_false_iff_ne] at h g
    have e : a = b := by omega
    subst e
    rcases h.2 with h2 | h2
    · exact absurd rfl h2
    · rcases g.2 with g2 | g2
      · exact absurd rfl g2
      · rw [lt_tri h2 g2]
theorem le_trans' : ∀ {a b c : List Nat}, ltCps b a = false → ltCps c b = false → ltCps c a = false
  | a, b, [], h, g => by
    cases b with
    | nil => exact h
    | cons b t => simp [ltCps] at g
  | [], b, c :: u, h, g => rfl
  | a :: r, [], c :: u, h, g => by simp [ltCps] at h
  | a :: r, b :: t, c :: u, h, g => by
    simp only [ltCps, Bool.or_eq_false_iff, decide_eq_false_iff_not, Bool.and_eq_false_iff, beq_eq_false_iff_ne] at h g ⊢
    refine ⟨by omega, ?_⟩
    by_cases e : c = a
    · right
      subst e
      have e2 : b = c := by omega
      subst e2
      rcases h.2 with h2 | h2
      · exact absurd rfl h2
      · rcases g.2 with g2 | g2
        · exact absurd rfl g2
        · exact le_trans' h2 g2
    · exact .inl e
def leS (a b : Str) : Bool := !ltCps b.cps.toList a.cps.toList
def sortS (xs : List Str) : List Str := xs.mergeSort leS
theorem rising_pw : ∀ (p : Str) (l : List Str), risingS p l = true → (p :: l).Pairwise (fun a b => leS a b = true)
  | p, [], _ => by simp
  | p, x :: l, h => by
    simp only [risingS, Bool.and_eq_true] at h
    have ih := rising_pw x l h.2
    refine List.pairwise_cons.mpr ⟨fun y hy => ?_, ih⟩
    rcases List.mem_cons.mp hy with rfl | hy
    · exact h.1
    · have h2 := (List.pairwise_cons.mp ih).1 y hy
      unfold leS at h2 ⊢
      simp only [Bool.not_eq_true'] at h2 h ⊢
      exact le_trans' h.1 h2
theorem sorted_pw : ∀ {l : List Str}, sortedS l = true → l.Pairwise (fun a b => leS a b = true)
  | [], _ => .nil
  | x :: l, h => rising_pw x l h
theorem sortS_pw (xs : List Str) : (sortS xs).Pairwise (fun a b => leS a b = true) := List.pairwise_mergeSort (fun a b c h g => by
    unfold leS at h g ⊢
    simp only [Bool.not_eq_true'] at h g ⊢
    exact le_trans' h g) (fun a b => by
    unfold leS
    cases h : ltCps b.cps.toList a.cps.toList with
    | false => simp
    | true => simp [lt_asym h]) xs
theorem str_ext {a b : Str} (h : a.cps.toList = b.cps.toList) : a = b := by
  obtain ⟨⟨a⟩⟩ := a
  obtain ⟨⟨b⟩⟩ := b
  simp at h
  subst h; rfl
theorem sort_one {xs ys : List Str} (h : ys.Perm xs) (s : sortedS ys = true) : ys = sortS xs :=
  List.Perm.eq_of_pairwise (le := fun a b => leS a b = true) (fun a b _ _ h g => by
    unfold leS at h g
    simp only [Bool.not_eq_true'] at h g
    exact str_ext (lt_tri g h)) (sorted_pw s) (sortS_pw xs) (h.trans (List.mergeSort_perm xs leS).symm)
def sortD : List D → Option D
  | [.lst _ l] => match strsOf l with
    | some ys => if ys.length < 64 then some (.lst true ((sortS ys).map .str)) else none
    | none => none
  | _ => none
theorem repL_strs {C : KM} {a : Wd} {r : Nat} {p : List Nat} : ∀ (l : List Str) (n : Nat), RepL C a r p n (l.map V.str) (l.map D.str)
  | [], n => by simp [RepL]
  | x :: l, n => ⟨.str x, l.map V.str, rfl, by simp [Rep], repL_strs l (n + 1)⟩
theorem fzL_strs (l : List Str) : fzL (l.map D.str) = true := fzL_map _ (fun _ => by simp [fz]) l
theorem call_sortD {X : Cx} {C : KM} : CallR X (.builtin "sorted") (cD C sortD) := by
  intro pins s σ H xs us Q I r h
  obtain ⟨a, ds, d, rfl, k, ps, hd, q⟩ := h
  match ds, hd with
  | [.lst o l], hd =>
    simp only [sortD] at hd
    cases hl : strsOf l with
    | none => rw [hl] at hd; cases hd
    | some ys =>
      rw [hl] at hd
      dsimp only at hd
      split at hd
      · rename_i hz; cases hd
        obtain ⟨v, rfl, r1, p1⟩ := one_rep ps
        obtain ⟨y, vs, rfl, h1, h2⟩ := rep_lst k p1
        rw [strs_rep hl h2] at h1
        refine cr_sortedS pins s σ a.H _ us Q I r ⟨y, ys, rfl, SqL.of h1, hz, fun zs p hp hs hn => ?_⟩
        rw [sort_one hp hs]
        exact new_lst k (fzL_strs _) (repL_strs (C := C) (a := a) (r := 0) (p := []) _ 0) q p hn
      · cases hd
end Mi
namespace Mi
open PySem PySem.Spec PyProof.Rows L2

/-! ### dicts as lists of pairs -/
def kds : List D → List D → Option (List (Key × D))
  | [], [] => some []
  | k :: ks, w :: ws => match keyD k, kds ks ws with
    | some x, some r => some ((x, w) :: r)
    | _, _ => none
  | _, _ => none
def putG (ds : List (Key × D)) (k : Key) (d : D) : List (Key × D) :=
  if (ds.any fun p => decide (p.1 = k)) = true then ds.map (fun p => if p.1 = k then (p.1, d) else p) else ds ++ [(k, d)]
def dicG (ds : List (Key × D)) : D := .dic true (ds.map fun p => unkD p.1) (ds.map (·.2))
abbrev KVr (C : KM) (a : Wd) : List (Key × V) → List (Key × D) → Prop := Paired (fun x y => x.1 = y.1 ∧ fz y.2 = true ∧ ∃ s q, Rep C a s q x.2 y.2)
section
variable {C : KM} {a : Wd}
theorem kvr_of : ∀ {kvs : List (Key × V)} {ks ws : List D} {ds : List (Key × D)} {r s n m : Nat} {p q : List Nat}, kds ks ws = some ds → fzL ws = true → RepL C a r p n (kvs.map fun x => kV x.1) ks → RepL C a s q m (kvs.map (·.2)) ws → KVr C a kvs ds
  | [], ks, ws, ds, r, s, n, m, p, q, e, z, h, g => by
    have e1 : ks = [] := by cases ks with | nil => rfl | cons _ _ => simp only [RepL, List.map_nil] at h; obtain ⟨_, _, e, _⟩ := h; cases e
    have e2 : ws = [] := by cases ws with | nil => rfl | cons _ _ => simp only [RepL, List.map_nil] at g; obtain ⟨_, _, e, _⟩ := g; cases e
    subst e1 e2
    cases e
    exact .nil
  | x :: kvs, ks, ws, ds, r, s, n, m, p, q, e, z, h, g => by
    cases ks with
    | nil => simp only [RepL, List.map_cons] at h; cases h
    | cons k ks =>
      cases ws with
      | nil => simp only [RepL, List.map_cons] at g; cases g
      | cons w ws =>
        simp only [RepL, List.map_cons] at h g
        obtain ⟨v, us, e1, h1, h2⟩ := h
        obtain ⟨v', us', e1', g1, g2⟩ := g
        cases e1; cases e1'
        simp only [fzL, Bool.and_eq_true] at z
        simp only [kds] at e
        cases hk : keyD k with
        | none => rw [hk] at e; cases e
        | some y =>
          cases hr : kds ks ws with
          | none => rw [hk, hr] at e; cases e
          | some r' =>
            rw [hk, hr] at e; cases e
            have := rep_key h1
            subst this
            rw [keyD_unk] at hk; cases hk
            exact .cons ⟨rfl, z.1, _, _, g1⟩ (kvr_of hr z.2 h2 g2)
theorem kvr_keys : ∀ {kvs : List (Key × V)} {ds : List (Key × D)} {n : Nat}, KVr C a kvs ds → RepL C a 0 [] n (kvs.map fun x => kV x.1) (ds.map fun x => unkD x.1)
  | _, _, n, .nil => by simp [RepL]
  | x :: kvs, y :: ds, n, .cons h t => by
    refine ⟨kV x.1, _, rfl, ?_, kvr_keys t⟩
    rw [h.1]
    obtain ⟨k, d⟩ := y
    cases k <;> simp [unkD, kV, Rep]
theorem kvr_vals : ∀ {kvs : List (Key × V)} {ds : List (Key × D)} {n : Nat}, KVr C a kvs ds → RepL C a 0 [] n (kvs.map (·.2)) (ds.map (·.2))
  | _, _, n, .nil => by simp [RepL]
  | x :: kvs, y :: ds, n, .cons h t => by
    obtain ⟨h1, h2, s, q, h3⟩ := h
    exact ⟨x.2, _, rfl, Rep.fz (a := a) (b := a) (fun _ _ h => h) y.2 _ _ x.2 h2 h3, kvr_vals t⟩
theorem kvr_fz : ∀ {kvs : List (Key × V)} {ds : List (Key × D)}, KVr C a kvs ds → fzL (ds.map (·.2)) = true
  | _, _, .nil => by simp [fzL]
  | _, _, .cons h t => by simp [fzL, h.2.1, kvr_fz t]
theorem fz_keys (ds : List (Key × D)) : fzL (ds.map fun x => unkD x.1) = true := fzL_map _ (fun x => by cases x.1 <;> simp [unkD, fz]) ds
theorem kvr_any {k : Key} : ∀ {kvs : List (Key × V)} {ds : List (Key × D)}, KVr C a kvs ds → (kvs.any fun p => decide (p.1 = k)) = (ds.any fun p => decide (p.1 = k))
  | _, _, .nil => rfl
  | _, _, .cons h t => by rw [List.any_cons, List.any_cons, h.1, kvr_any t]
theorem kvr_app : ∀ {k1 k2 : List (Key × V)} {d1 d2 : List (Key × D)}, KVr C a k1 d1 → KVr C a k2 d2 → KVr C a (k1 ++ k2) (d1 ++ d2)
  | _, _, _, _, .nil, g => g
  | _, _, _, _, .cons h t, g => .cons h (kvr_app t g)
theorem kvr_map {k : Key} {v : V} {d : D} (z : fz d = true) (hr : ∃ s q, Rep C a s q v d) : ∀ {kvs : List (Key × V)} {ds : List (Key × D)}, KVr C a kvs ds → KVr C a (kvs.map fun p => if p.1 = k then (p.1, v) else p) (ds.map fun p => if p.1 = k then (p.1, d) else p)
  | _, _, .nil => .nil
  | x :: kvs, y :: ds, .cons h t => by
    refine .cons ?_ (kvr_map z hr t)
    dsimp only
    by_cases e : x.1 = k
    · have e2 : y.1 = k := by rw [← h.1]; exact e
      rw [if_pos e, if_pos e2]
      exact ⟨h.1, z, hr⟩
    · have e2 : ¬ y.1 = k := by rw [← h.1]; exact e
      rw [if_neg e, if_neg e2]
      exact h
theorem kvr_put {kvs : List (Key × V)} {ds : List (Key × D)} {k : Key} {v : V} {d : D} (h : KVr C a kvs ds) (z : fz d = true) (hr : ∃ s q, Rep C a s q v d) : KVr C a (putK kvs k v) (putG ds k d) := by
  unfold putK putG
  rw [kvr_any (k := k) h]
  split
  · exact kvr_map z hr h
  · exact kvr_app h (.cons ⟨rfl, z, hr⟩ .nil)
theorem kvr_len : ∀ {kvs : List (Key × V)} {ds : List (Key × D)}, KVr C a kvs ds → kvs.length = ds.length
  | _, _, .nil => rfl
  | _, _, .cons h t => by rw [List.length_cons, List.length_cons, kvr_len t]
end

/-! ### xs[i] = y of a slot's own list or dict -/
def setX (d i y : D) : Option D := match d, i with
  | .lst true l, .int k => (ixN l.length k).map fun n => .lst true (l.set n y)
  | .dic true ks ws, x => match kds ks ws, keyD x with
    | some ds, some k => if fzL ws = true ∧ ds.length < 16000000 then some (dicG (putG ds k y)) else none
    | _, _ => none
  | _, _ => none
theorem RelE.rewrD {G : Gm} {a : Wd} {σ : L2.St} {env : EnvD} {j : Nat} {ks ws : List D} (r : RelE G a σ env) (h : env[j]? = some (some (.dic true ks ws))) :
    ∃ x kvs, σ[j]? = some (some (.ref x)) ∧ a.H x = some (.dK kvs) ∧ RepL G.C a (j + 1) [] 0 (kvs.map fun p => kV p.1) ks ∧ RepL G.C a (j + 1) [] 0 (kvs.map (·.2)) ws ∧
      ∀ (kvs' : List (Key × V)) (ds : List (Key × D)), KVr G.C a kvs' ds → Step a ⟨a.F, upd a.H x (.dK kvs'), a.t⟩ ∧ RelE G ⟨a.F, upd a.H x (.dK kvs'), a.t⟩ σ (env.set j (some (dicG ds))) := by
  obtain ⟨w, h1, h2⟩ := r.slot j _ h
  simp only [Rep] at h2
  obtain ⟨x, ho, kv, vs, rfl, hx, dc, zk, hk, hv⟩ := h2
  rw [if_pos trivial] at hx
  obtain ⟨tx, hx⟩ := hx
  cases dc with
  | dk kvs =>
  refine ⟨x, kvs, h1, hx, hk, hv, fun kvs' ds kr => ?_⟩
  have ne : ∀ {y : Addr} {t : Option Tag}, a.t y = t → t ≠ some (j + 1, []) → y ≠ x := fun e ht => by rintro rfl; rw [tx] at e; exact ht e.symm
  have fx : a.F x = none := (r.ok.own x _ tx).1
  have up : ∀ {y : Addr}, y ≠ x → upd a.H x (.dK kvs') y = a.H y := fun e => upd_ne e
  have ok' : Ok ⟨a.F, upd a.H x (.dK kvs'), a.t⟩ := by
    refine ⟨fun y o e => ?_, fun y t e => ?_⟩
    · have : y ≠ x := by rintro rfl; have e : a.F y = some o := e; rw [fx] at e; cases e
      show upd a.H x _ y = _
      rw [up this]; exact r.ok.sub y o e
    · obtain ⟨g1, o, g2⟩ := r.ok.own y t e
      by_cases q : y = x
      · subst q; exact ⟨g1, _, upd_same⟩
      · exact ⟨g1, o, by show upd a.H x _ y = _; rw [up q]; exact g2⟩
  have mv : ∀ {d : D} {r p} {v1 : V}, (∀ z, (r, z ++ p) ≠ (j + 1, ([] : List Nat))) → Rep G.C a r p v1 d → Rep G.C ⟨a.F, upd a.H x (.dK kvs'), a.t⟩ r p v1 d := fun {d r p v1} hne h => by
    have := Rep.to (C := G.C) (a := a) (b := ⟨a.F, upd a.H x (.dK kvs'), a.t⟩) (r := r) (s := r) (p := p) (q := p) (fun _ _ h => h) (fun y z o h e => ⟨h, by
      show upd a.H x _ y = _
      rw [up (ne h (by intro q; exact hne z (Option.some.inj q)))]; exact e⟩) d [] v1
    exact this h
  refine ⟨fun y o e t => ⟨by show upd a.H x _ y = _; rw [up (ne t (by simp))]; exact e, t, rfl⟩, ⟨ok', by rw [List.length_set]; exact r.len, fun i d e => ?_, r.prm⟩⟩
  by_cases ij : j = i
  · subst ij
    have hj : j < env.length := (List.getElem?_eq_some_iff.mp h).1
    rw [List.getElem?_set_self hj] at e
    cases e
    refine ⟨.ref x, h1, ?_⟩
    simp only [dicG, Rep]
    refine ⟨x, .dK kvs', _, _, rfl, ?_, .dk kvs', fz_keys ds, ?_, ?_⟩
    · rw [if_pos trivial]; exact ⟨tx, upd_same⟩
    · exact RepL.fz (a := a) (b := ⟨a.F, upd a.H x (.dK kvs'), a.t⟩) (fun _ _ h => h) _ _ [] 0 _ (fz_keys ds) (kvr_keys (n := 0) kr)
    · exact RepL.fz (a := a) (b := ⟨a.F, upd a.H x (.dK kvs'), a.t⟩) (fun _ _ h => h) _ _ [] 0 _ (kvr_fz kr) (kvr_vals (n := 0) kr)
  · rw [List.getElem?_set_ne ij] at e
    obtain ⟨w, e1, e2⟩ := r.slot i d e
    exact ⟨w, e1, mv (by intro z q; exact ij (Nat.succ.inj (congrArg Prod.fst q)).symm) e2⟩
def mSetX (j : Nat) (mi mv : EM D) : EM FlowD := fun env => (mv env).bind fun (y, e1) =>
  match e1[j]? with
  | some (some _) => (mFrz mi e1).bind fun (x, e2) => match e2[j]?, x.get e2 with
    | some (some d), some i => match setX d i (frzQ y) with
      | some d' => .ok (.next, e2.set j (some d'))
      | none => .bad
    | _, _ => .bad
  | _ => .bad
theorem setX_w {G : Gm} {W : WX} {σ : L2.St} {H : Hp} {j : Nat} {mi mv : EM D} {D : Ends} (h : tS G W (mSetX j mi mv) D σ H) : tAsg (tE G W mv) (gSub (tVar j) (tE G W mi) (fun o i v H Q => rSetL o i v H Q ∨ rSetD o i v H Q)) D σ H := by
  obtain ⟨a, env, rfl, rel, post⟩ := h
  refine tE_ofS rel post fun y e1 b v st r1 rv p1 => ?_
  dsimp only at p1
  split at p1
  · rename_i dj hj0
    obtain ⟨zy, ry⟩ := frzQ_rep (s := 0) (q := []) r1.ok rv
    have r1' := r1.frz0
    obtain ⟨w, hw, _⟩ := r1.slot j _ hj0
    refine ⟨w, hw, ?_⟩
    show tE G W mi σ (frzW b 0).H _
    refine (frz_w (m := mi) (Q := fun i H2 => (rSetL w i v H2 fun H3 => D.nx σ H3) ∨ (rSetD w i v H2 fun H3 => D.nx σ H3)) ?_)
    refine tArg_ofS r1' (PostS.step frzW_step p1) fun x e2 c u s2 r2 ar p2 => ?_
    dsimp only at p2
    split at p2
    · rename_i d i hj hi
      cases hs : setX d i (frzQ y) with
      | none => rw [hs] at p2; exact (show False from p2).elim
      | some d' =>
        rw [hs] at p2
        dsimp only at p2
        obtain ⟨ri, pi⟩ := ar.rep r2 hi
        unfold setX at hs
        split at hs
        · rename_i l k
          cases rep_int pi
          cases hk : ixN l.length k with
          | none => rw [hk] at hs; cases hs
          | some n =>
            rw [hk] at hs; cases hs
            obtain ⟨xx, vs, g1, g2, g3, g4, g5⟩ := r2.put (n := n) (s := 0) (q := []) hj zy (ry.step r1'.ok s2 zy)
            rw [hw] at g1; cases g1
            exact .inl ⟨xx, vs, k, n, rfl, rfl, g2, by rw [g3]; exact hk, p2 _ σ g4 g5⟩
        · rename_i x' ks ws
          cases hd : kds ks ws with
          | none => rw [hd] at hs; cases hs
          | some ds =>
            cases hk : keyD i with
            | none => rw [hd, hk] at hs; cases hs
            | some k =>
              rw [hd, hk] at hs
              dsimp only at hs
              split at hs
              · rename_i z; cases hs
                obtain ⟨xx, kvs, g1, g2, g3, g4, g5⟩ := r2.rewrD hj
                rw [hw] at g1; cases g1
                have kr := kvr_of hd z.1 g3 g4
                obtain ⟨s3, r3⟩ := g5 _ _ (kvr_put (k := k) (v := v) kr zy ⟨0, [], ry.step r1'.ok s2 zy⟩)
                exact .inr ⟨xx, _, rfl, .inl ⟨kvs, k, g2, keyD_rep hk pi, by rw [kvr_len kr, szl]; omega, rfl⟩, p2 _ σ s3 r3⟩
              · cases hs
        · cases hs
    · exact (show False from p2).elim
  · exact (show False from p1).elim
theorem PSet.or {X : Cx} {t u : TSet} (h : PSet X t) (g : PSet X u) : PSet X (fun o i v H Q => t o i v H Q ∨ u o i v H Q) := by
  intro pins s σ H o i v ov iv w Q I ro ri rv q
  rcases q with q | q
  · exact h pins s σ H o i v ov iv w Q I ro ri rv q
  · exact g pins s σ H o i v ov iv w Q I ro ri rv q
theorem rs_putX {X : Cx} {G : Gm} {W : WX} {a e : Expr} {m n : EM D} {pos p : Pos} {x : Str} (s : St0 X G) (j : Nat) {pos' : Pos} (hN : X.N[j]? = some x) (hv : Vis X.env.scope x) (hi : PE X a (tE G W n)) (he : PE X e (tE G W m)) (hs : swapsWithSole [.Subscript (.Name x p) a pos'] e pos.line X.env = pure false := by rfl) (hw : swappedStores [.Subscript (.Name x p) a pos'] e X.env = pure none := by rfl)
    (h1 : (assignEach [.Subscript (.Name x p) a pos'] X.env).map (·.2) = [assign (.Subscript (.Name x p) a pos') X.env] := by rfl)
    (ha : ∀ v, assign (.Subscript (.Name x p) a pos') X.env v = (do
      let ov ← holding [v] (eval (.Name x p) X.env)
      let iv ← holding [v, ov] (eval a X.env)
      standAt pos'
      holding [v, ov, iv] (setItem ov iv v)
      release [v, ov, iv] []) := by intro _; rfl) (hd : (x == ("__debug__" : Str)) = false := by decide) (hcd : (x == ("__classdict__" : Str)) = false := by decide) : PS X (.Assign [.Subscript (.Name x p) a pos'] e pos) (tS G W (mSetX j n m)) :=
  (ps_asg he (pg_sub (pe_var hN hv hd hcd) hi (PSet.or set_list (set_dict (by have := s.u; omega))) ha) hs hw h1).weak fun _ _ _ q => setX_w q
end Mi
namespace Mi
open PySem PySem.Spec PyProof.Rows L2

/-! ### dict(..) -/
section
variable {X : Cx} {pins : List (Addr × Obj)} {σ : L2.St} {H : Hp} {s : Shared}
theorem plain_of (I : Inv X pins σ H s) {x : Addr} {vs : List V} (h : XT X.K H x vs) : ∃ its : List Value, Vals vs its ∧ PySem.PlainSeq "tuple" s.heap x its.toArray ∧ vs.length ≤ sizeLine := by
  rcases h with ⟨ob, h, hd, hc⟩ | ⟨o, its, n, hk, hc, hd, hs, hz, r⟩
  · obtain ⟨e, z, its, r, o', e', _, n, dt⟩ := (show ObjOk X.prog X.w H s.heap x (.frz ob (.tup vs)) from I.hok x _ h)
    rw [e] at e'; cases e'
    exact ⟨its, r, ⟨ob, n, e, hc, hd, dt⟩, z⟩
  · refine ⟨its.toList, r, ⟨o, n, I.kIn x o hk, hc, hd, by simpa using hs⟩, ?_⟩
    have e := r.length
    simp only [Array.length_toList] at e
    omega
theorem pairsV (I : Inv X pins σ H s) : ∀ {ps : List Addr} {kvs : List (Key × V)}, Paired (fun p kv => SqT X.K H p [kV kv.1, kv.2]) ps kvs →
    ∃ (prs : List (Key × Value)) (zs : List (Value × Value)), KV kvs prs ∧ prs.length = ps.length ∧ zs.length = ps.length ∧ ∀ (j : Nat) (k v : Value), zs[j]? = some (k, v) → ∃ (b : Addr) (key : Key), ps[j]? = some b ∧ IsTup s.heap b #[k, v] ∧ prs[j]? = some (key, v) ∧ keyIs key k = true
  | _, _, .nil => ⟨[], [], .nil, rfl, rfl, fun j k v e => by simp at e⟩
  | _, _, .cons (a := p) (b := kv) h t => by
    obtain ⟨prs, zs, r, hl, hz, hp⟩ := pairsV I t
    obtain ⟨its, rv, ht, _⟩ := I.tuple h
    obtain ⟨u, y, ei, ru, ry⟩ := vals2 rv
    subst ei
    refine ⟨(kv.1, y) :: prs, (u, y) :: zs, .cons ⟨rfl, ry⟩ r, by simp [hl], by simp [hz], fun j k v e => ?_⟩
    cases j with
    | zero =>
      have e' : (u, y) = (k, v) := Option.some.inj e
      cases e'
      exact ⟨p, kv.1, rfl, ht, rfl, kV_is (P := X.prog) (w := X.w) ru⟩
    | succ j =>
      obtain ⟨b, key, e1, e2, e3, e4⟩ := hp j k v (by simpa using e)
      exact ⟨b, key, by simpa using e1, e2, by simpa using e3, e4⟩
/- dict(t) of a tuple of pairs -/
theorem call_dictT (hcalm : X.calm = true) : CallR X (.type "dict") (fun xs H Q => ∃ (a : Addr) (ps : List Addr) (kvs : List (Key × V)), xs = [.ref a] ∧ XT X.K H a (ps.map V.ref) ∧ Paired (fun p kv => SqT X.K H p [kV kv.1, kv.2]) ps kvs ∧
    ∀ p, H p = none → Q (.ref p) (upd H p (.dK (mergeK [] kvs)))) := by
  intro pins s σ H xs us Q I r q
  obtain ⟨a, ps, kvs, rfl, hq, hp, q⟩ := q
  obtain ⟨u, rfl, rx⟩ := vals1 r
  cases rx
  obtain ⟨its, rv, pl, hz⟩ := plain_of I hq
  obtain rfl := refs_at rv
  rw [List.length_map] at hz
  obtain ⟨prs, zs, rel, hl, hzl, hpr⟩ := pairsV I hp
  have hit : PySem.PairItems s.heap (ps.map Value.ref).toArray (fun j => (ps[j]?).getD 0) zs := by
    refine ⟨by simp [hzl], fun j k v e => ?_⟩
    obtain ⟨b, key, e1, e2, _, _⟩ := hpr j k v e
    refine ⟨by simp [e1], ?_⟩
    simp only [e1, Option.getD_some]
    exact .inl e2
  refine PySem.call_dict_pairs (knd := mixKind X.prog X.w) (kvs := prs) (PySem.PairArg.tuple a (ps.map Value.ref).toArray (fun j => (ps[j]?).getD 0) zs) (I.ok.hd hcalm) ⟨pl, hit⟩ ⟨by rw [hl, hzl], fun i k v e => ?_⟩ (by rw [hzl]; exact hz) fun h' tk hd' k => ?_
  · obtain ⟨b, key, _, _, e3, e4⟩ := hpr i k v e
    exact ⟨key, e3, e4⟩
  · have hm : (s.heap.objs.size == sysModules) = false := beq_eq_false_iff_ne.mpr (Nat.ne_of_gt I.big)
    have hlen : (mergeK [] kvs).length ≤ sizeLine := Nat.le_trans (length_mergeK kvs []) (by rw [List.length_nil, Nat.zero_add, rel.length, hl]; exact hz)
    exact ⟨.ref s.heap.objs.size, upd H s.heap.objs.size (.dK (mergeK [] kvs)), I.laid (t' := tk) (fun b o e => k b o (by simp) e) (Nat.le_refl _) (show ObjOk X.prog X.w _ _ _ (.dK (mergeK [] kvs)) from ⟨hlen, hm, merged [] prs, KV.merge rel .nil, hd'⟩), rfl, q _ (I.hok.fresh (Nat.le_refl _))⟩
end
def pairsD : List D → Option (List (Key × D))
  | [] => some []
  | .tup [k, w] :: r => match keyD k, pairsD r with
    | some x, some ds => if fz w = true then some ((x, w) :: ds) else none
    | _, _ => none
  | _ => none
def mergeG (ds : List (Key × D)) (acc : List (Key × D)) : List (Key × D) := ds.foldl (fun acc p => putG acc p.1 p.2) acc
theorem kvr_merge {C : KM} {a : Wd} : ∀ {kvs : List (Key × V)} {ds : List (Key × D)} {k0 : List (Key × V)} {d0 : List (Key × D)}, KVr C a kvs ds → KVr C a k0 d0 → KVr C a (mergeK k0 kvs) (mergeG ds d0)
  | _, _, _, _, .nil, g => g
  | x :: kvs, y :: ds, k0, d0, .cons h t, g => by
    obtain ⟨h1, h2, h3⟩ := h
    have := kvr_put (k := y.1) g h2 h3
    rw [← h1] at this
    show KVr C a (mergeK (putK k0 x.1 x.2) kvs) (mergeG ds (putG d0 y.1 y.2))
    rw [← h1]
    exact kvr_merge t this
theorem pairs_rep {C : KM} {a : Wd} {r : Nat} {p : List Nat} (ok : Ok a) : ∀ {l : List D} {n : Nat} {vs : List V} {ds : List (Key × D)}, pairsD l = some ds → RepL C a r p n vs l →
    ∃ (ps : List Addr) (kvs : List (Key × V)), vs = ps.map V.ref ∧ Paired (fun p kv => SqT C.K a.H p [kV kv.1, kv.2]) ps kvs ∧ KVr C a kvs ds
  | [], n, vs, ds, e, h => by cases e; simp only [RepL] at h; subst h; exact ⟨[], [], rfl, .nil, .nil⟩
  | d :: l, n, vs, ds, e, ⟨v, us, e1, h1, h2⟩ => by
    match d, e, h1 with
    | .tup [k, w], e, h1 =>
      simp only [pairsD] at e
      cases hk : keyD k with
      | none => rw [hk] at e; cases e
      | some x =>
        cases hr : pairsD l with
        | none => rw [hk, hr] at e; cases e
        | some ds' =>
          rw [hk, hr] at e
          dsimp only at e
          split at e
          · rename_i z; cases e
            obtain ⟨ps, kvs, rfl, g1, g2⟩ := pairs_rep ok hr h2
            obtain ⟨y, ws, rfl, t1, t2⟩ := rep_tup ok h1
            simp only [RepL] at t2
            obtain ⟨v1, u1, rfl, q1, v2, u2, rfl, q2, rfl⟩ := t2
            have := keyD_rep hk q1
            subst this
            exact ⟨y :: ps, (x, v2) :: kvs, by rw [e1]; rfl, .cons t1 g1, .cons ⟨rfl, z, _, _, q2⟩ g2⟩
          · cases e
def dictD : List D → Option D
  | [.dic _ ks ws] => if fzL ws = true then some (.dic true ks ws) else none
  | [.tup l] => (pairsD l).map fun ds => dicG (mergeG ds [])
  | [.lst _ l] => (pairsD l).map fun ds => dicG (mergeG ds [])
  | _ => none
theorem new_dicG {C : KM} {a : Wd} {Q : VK} {kvs : List (Key × V)} {ds : List (Key × D)} (k : Ok a) (h : KVr C a kvs ds) (q : ∀ z b, Grow a b → Ok b → Rep C b 0 [] z (dicG ds) → Q z b.H) : ∀ x, a.H x = none → Q (.ref x) (upd a.H x (.dK kvs)) :=
  new_dic (C := C) (r := 0) (p := []) k (fz_keys ds) (kvr_fz h) (kvr_keys (n := 0) h) (kvr_vals (n := 0) h) q
theorem call_dictDD {X : Cx} {C : KM} (hC : C.K = X.K) (hc : X.calm = true) : CallR X (.type "dict") (cD C dictD) := by
  intro pins s σ H xs us Q I r h
  obtain ⟨a, ds, d, rfl, k, ps, hd, q⟩ := h
  match ds, hd with
  | [.dic o ks ws], hd =>
    simp only [dictD] at hd
    split at hd
    · rename_i z; cases hd
      obtain ⟨v, rfl, r1, p1⟩ := one_rep ps
      obtain ⟨x, u, kv, vs, rfl, h1, h2, h3, h4, h5⟩ := rep_dic k p1
      cases h2
      exact call_dictD pins s σ a.H _ us Q I r ⟨x, _, rfl, .inl h1, new_dic k h3 z h4 h5 q⟩
    · cases hd
  | [.tup l], hd =>
    simp only [dictD] at hd
    cases hp : pairsD l with
    | none => rw [hp] at hd; cases hd
    | some ds =>
      rw [hp] at hd; cases hd
      obtain ⟨v, rfl, r1, p1⟩ := one_rep ps
      have p1' := p1
      simp only [Rep] at p1'
      obtain ⟨x, vs, rfl, hx, hl⟩ := p1'
      obtain ⟨as, kvs, rfl, g1, g2⟩ := pairs_rep k hp hl
      rw [hC] at hx g1
      exact call_dictT hc pins s σ a.H _ us Q I r ⟨x, as, kvs, rfl, xt_mono k.sub hx, g1, new_dicG k (kvr_merge g2 .nil) q⟩
  | [.lst o l], hd =>
    simp only [dictD] at hd
    cases hp : pairsD l with
    | none => rw [hp] at hd; cases hd
    | some ds =>
      rw [hp] at hd; cases hd
      obtain ⟨v, rfl, r1, p1⟩ := one_rep ps
      obtain ⟨x, vs, rfl, hx, hl⟩ := rep_lst k p1
      obtain ⟨as, kvs, rfl, g1, g2⟩ := pairs_rep k hp hl
      rw [hC] at g1
      exact call_dictP hc pins s σ a.H _ us Q I r ⟨x, as, kvs, rfl, SqL.of hx, g1, new_dicG k (kvr_merge g2 .nil) q⟩
/- list(..), of a dict too -/
def listX : List D → Option D
  | [.dic _ ks _] => if fzL ks = true then some (.lst true ks) else none
  | ds => listD ds
theorem call_listX {X : Cx} {C : KM} (hC : C.K = X.K) (hc : X.calm = true) : CallR X (.type "list") (cD C listX) := by
  intro pins s σ H xs us Q I r h
  obtain ⟨a, ds, d, rfl, k, ps, hd, q⟩ := h
  match ds, hd, ps with
  | [.dic o ks ws], hd, ps =>
    simp only [listX] at hd
    split at hd
    · rename_i z; cases hd
      obtain ⟨v, rfl, r1, p1⟩ := one_rep ps
      obtain ⟨x, u, kv, vs, rfl, h1, h2, h3, h4, h5⟩ := rep_dic k p1
      cases h2
      exact call_list_dK hc pins s σ a.H _ us Q I r ⟨x, _, rfl, h1, new_lst k z h4 q⟩
    · cases hd
  | [.lst o l], hd, ps => exact call_listD hC pins s σ a.H xs us Q I r ⟨a, _, d, rfl, k, ps, hd, q⟩
  | [.tup l], hd, ps => exact call_listD hC pins s σ a.H xs us Q I r ⟨a, _, d, rfl, k, ps, hd, q⟩
  | [.scr l], hd, ps => exact call_listD hC pins s σ a.H xs us Q I r ⟨a, _, d, rfl, k, ps, hd, q⟩
end Mi
namespace Mi
open PySem PySem.Spec PyProof.Rows L2

/-! ### dict comprehensions -/
def loopDc (t : Tgt) (cond : EM Bool) (ek : EM Arg) (ev : EM D) (own : List Nat) : List D → List (Key × D) → EnvD → Res (List (Key × D) × EnvD)
  | [], acc, e => .ok (acc, e)
  | d :: ds, acc, e => match mTg t d (wipeE e own) with
    | none => .bad
    | some e1 => match cond e1 with
      | .ok (true, e2) => match ek e2 with
        | .ok (x, e3) => match ev e3 with
          | .ok (y, e4) => match (x.get e4).bind keyD with
            | some k => loopDc t cond ek ev own ds (putG acc k (frzQ y)) e4
            | none => .bad
          | _ => .bad
        | _ => .bad
      | .ok (false, e2) => loopDc t cond ek ev own ds acc e2
      | _ => .bad
def mDc (mi : EM (List D)) (t : Tgt) (cond : EM Bool) (ek : EM Arg) (ev : EM D) (own : List Nat) : EM D := fun env => (mi env).bind fun (ds, e) =>
  if fzL ds = true ∧ ds.length ≤ 1000 then (loopDc t cond ek ev own ds [] e).bind fun (l, e') => .ok (dicG l, restE e e' own) else .bad
structure GrowX (C : KM) (b c : Wd) (A : Addr) (acc : List (Key × D)) : Prop where
  st : Step b c
  ok : Ok c
  f : c.F A = none
  t : c.t A = none
  h : ∃ kvs, c.H A = some (.dK kvs) ∧ KVr C c kvs acc
theorem kvr_step {C : KM} {a b : Wd} (k : Ok a) (st : Step a b) : ∀ {kvs : List (Key × V)} {ds : List (Key × D)}, KVr C a kvs ds → KVr C b kvs ds
  | _, _, .nil => .nil
  | _, _, .cons h t => .cons ⟨h.1, h.2.1, 0, [], let ⟨s, q, r⟩ := h.2.2; r.step k st h.2.1⟩ (kvr_step k st t)
theorem GrowX.next {C : KM} {b c c' : Wd} {A : Addr} {acc : List (Key × D)} (g : GrowX C b c A acc) (st : Step c c') (ok : Ok c') : GrowX C b c' A acc := by
  obtain ⟨vs, h1, h2⟩ := g.h
  obtain ⟨k1, k2, k3⟩ := st A _ h1 g.t
  exact ⟨g.st.trans st, ok, k3.trans g.f, k2, ⟨vs, k1, kvr_step g.ok st h2⟩⟩
theorem kvr_put_A {C : KM} {c : Wd} {A : Addr} {o : HO} : ∀ {kvs : List (Key × V)} {ds : List (Key × D)}, KVr C c kvs ds → KVr C (putA c A o) kvs ds
  | _, _, .nil => .nil
  | _, y :: _, .cons h t => .cons ⟨h.1, h.2.1, 0, [], let ⟨s, q, r⟩ := h.2.2; Rep.fz (a := c) (b := putA c A o) (fun _ _ h => h) y.2 _ _ _ h.2.1 r⟩ (kvr_put_A t)
theorem GrowX.push {C : KM} {b c : Wd} {A : Addr} {acc : List (Key × D)} {kvs : List (Key × V)} {k : Key} {v : V} {y : D} {r : Nat} {p : List Nat} (g : GrowX C b c A acc) (hA : b.H A = none) (h : c.H A = some (.dK kvs)) (zy : fz y = true) (rp : Rep C c r p v y) :
    GrowX C b (putA c A (.dK (putK kvs k v))) A (putG acc k y) := by
  obtain ⟨us, h1, h2⟩ := g.h
  rw [h] at h1; cases h1
  refine ⟨fun x o e t => ?_, putA_ok g.ok g.f, g.f, g.t, ⟨_, upd_same, kvr_put_A (kvr_put h2 zy ⟨r, p, rp⟩)⟩⟩
  obtain ⟨g1, g2, g3⟩ := g.st x o e t
  have ne : x ≠ A := by rintro rfl; rw [hA] at e; cases e
  exact ⟨by show upd c.H A _ x = _; rw [upd_ne ne]; exact g1, g2, g3⟩
theorem putG_len (ds : List (Key × D)) (k : Key) (d : D) : (putG ds k d).length ≤ ds.length + 1 := by
  unfold putG
  split
  · rw [List.length_map]; omega
  · rw [List.length_append]; simp
section
variable {G : Gm} {W : WX} {σ : L2.St} {H : Hp} {Q : VK}
theorem dc_w {mi : EM (List D)} {t : Tgt} {cond : EM Bool} {ek : EM Arg} {ev : EM D} {own : List Nat} (hf : Tgt.off G.io t) (ho : ∀ i ∈ G.io, i ∉ own) (hown : Tgt.ins own t)
    (h : tE G W (mDc mi t cond ek ev own) σ H Q) : tDc (tI G W mi) (gT G.C.K t) (tT G W0 cond) (tArg G W0 ek) (tE G W0 ev) own σ H Q := by
  obtain ⟨a, env, rfl, rel, post⟩ := h
  refine ⟨a, env, rfl, rel, post.bind.imp fun ds e b st r p => ?_⟩
  dsimp only at p
  split at p
  · rename_i z
    refine ⟨z.1, fun J hJ A hA => ?_⟩
    have fA : b.F A = none := by
      cases q : b.F A with
      | none => rfl
      | some u => have := r.ok.sub A u q; rw [hA] at this; cases this
    have tA : b.t A = none := by
      cases q : b.t A with
      | none => rfl
      | some u => obtain ⟨_, u, h⟩ := r.ok.own A u q; rw [hA] at h; cases h
    let K : List (Key × D) × EnvD → Res (D × EnvD) := fun (l, e') => .ok (dicG l, restE e e' own)
    refine ⟨fun i m H => m = ds.length - i ∧ i ≤ ds.length ∧ ∃ c acc e1, c.H = H ∧ GrowX G.C b c A acc ∧ acc.length ≤ i ∧ e1.length = e.length ∧ RelE G c (wipe σ own) (wipeE e1 own) ∧
      PostR G W σ b ((loopDc t cond ek ev own (ds.drop i) acc e1).bind K) fun d _ b => ∀ v, Rep G.C b 0 [] v d → Q v b.H, ⟨_, rfl, Nat.zero_le _, putA b A (.dK []), [], e, rfl, ?_, Nat.zero_le _, rfl, ?_, p⟩, ?_⟩
    · refine ⟨fun x o h t => ?_, putA_ok r.ok fA, fA, tA, ⟨[], upd_same, .nil⟩⟩
      have ne : x ≠ A := by rintro rfl; rw [hA] at h; cases h
      exact ⟨by show upd b.H A _ x = _; rw [upd_ne ne]; exact h, t, rfl⟩
    · exact putA_rel (r.wiped ho) fA tA
    · rintro i m H ⟨rfl, hi, c, acc, e1, rfl, gl, hacc, hel, rc, pc⟩
      obtain ⟨hgo, hstop⟩ := hJ c gl.ok gl.st
      by_cases hlt : i < ds.length
      · obtain ⟨d, hd⟩ : ∃ d, ds[i]? = some d := ⟨_, List.getElem?_eq_getElem hlt⟩
        obtain ⟨h1, h2⟩ := hgo i d hd
        have hdrop : ds.drop i = d :: ds.drop (i + 1) := by
          rw [List.drop_eq_getElem_cons hlt]
          rw [List.getElem?_eq_getElem hlt] at hd
          cases hd; rfl
        rw [hdrop] at pc
        simp only [loopDc] at pc
        refine .inr ⟨h1, fun H' => ∃ c acc e1, c.H = H' ∧ GrowX G.C b c A acc ∧ acc.length ≤ i + 1 ∧ e1.length = e.length ∧ RelE G c (wipe σ own) (wipeE e1 own) ∧
          PostR G W σ b ((loopDc t cond ek ev own (ds.drop (i + 1)) acc e1).bind K) fun d _ b => ∀ v, Rep G.C b 0 [] v d → Q v b.H, fun H' q => ⟨ds.length - (i + 1), by omega, rfl, hlt, q⟩, fun x H' y => ?_⟩
        obtain ⟨c1, rfl, gr, ok1, rp⟩ := h2 x H' y
        cases ht : mTg t d (wipeE e1 own) with
        | none => rw [ht] at pc; exact (show False from pc).elim
        | some e2 =>
          rw [ht] at pc
          dsimp only at pc
          have gl1 := gl.next gr.step ok1
          refine gT_mono t (ins_w t hown _ x c1.H (fun σ2 H2 => H2 = c1.H ∧ RelE G c1 σ2 e2) (tg_w t hf (rc.grow gr ok1) (fzL_mem z.1 d (List.mem_of_getElem? hd)) rp ht fun σ2 r2 => ⟨rfl, r2⟩)) fun σ2 H2 ⟨hw, hH, r2⟩ => ?_
          subst hH
          rw [wipe_wipe] at hw
          refine ⟨hw, c1, e2, rfl, r2, ?_⟩
          have hlen : ∀ {c : Wd} {e' : EnvD}, RelE G c σ2 e' → e'.length = e.length := fun {c e'} r' => by
            have := congrArg List.length hw
            rw [wipe_length, wipe_length] at this
            rw [r'.len, this, r.len]
          cases hc : cond e2 with
          | bad => rw [hc] at pc; exact (show False from pc).elim
          | exc x e3 => rw [hc] at pc; exact (show False from pc).elim
          | ok be =>
            obtain ⟨bb, e3⟩ := be
            rw [hc] at pc
            intro c2 st2 r3
            cases bb with
            | false =>
              rw [if_neg Bool.false_ne_true]
              exact ⟨c2, acc, e3, rfl, gl1.next st2 r3.ok, Nat.le_succ_of_le hacc, hlen r3, r3.rewiped hw ho, pc⟩
            | true =>
              rw [if_pos rfl]
              refine ⟨c2, e3, rfl, r3, ?_⟩
              dsimp only at pc
              cases hk : ek e3 with
              | bad => rw [hk] at pc; exact (show False from pc).elim
              | exc x e4 => rw [hk] at pc; exact (show False from pc).elim
              | ok xe =>
                obtain ⟨xa, e4⟩ := xe
                rw [hk] at pc
                intro c3 st3 r4 vk ark
                refine ⟨c3, e4, rfl, r4, ?_⟩
                dsimp only at pc
                cases he : ev e4 with
                | bad => rw [he] at pc; exact (show False from pc).elim
                | exc x e5 => rw [he] at pc; exact (show False from pc).elim
                | ok ye =>
                  obtain ⟨y, e5⟩ := ye
                  rw [he] at pc
                  intro c4 st4 r5 v rv
                  dsimp only at pc
                  have ark := ark.step r4.ok st4
                  cases hx : xa.get e5 with
                  | none => simp only [hx, Option.bind_none] at pc; exact (show False from pc).elim
                  | some dk =>
                    cases hkk : keyD dk with
                    | none => simp only [hx, Option.bind_some, hkk] at pc; exact (show False from pc).elim
                    | some key =>
                      simp only [hx, Option.bind_some, hkk] at pc
                      obtain ⟨rk, pk⟩ := ark.rep r5 hx
                      have ev2 := keyD_rep hkk pk
                      have gl4 := ((gl1.next st2 r3.ok).next st3 r4.ok).next st4 r5.ok
                      obtain ⟨kvs, k1, k2⟩ := gl4.h
                      obtain ⟨zy, rq⟩ := frzQ_rep (s := 0) (q := []) r5.ok rv
                      have gl5 := (gl4.next (frzW_step (r := 0)) (frzW_ok r5.ok)).push (k := key) hA k1 zy rq
                      refine ⟨kvs, key, ev2, k1, ?_, putA (frzW c4 0) A (.dK (putK kvs key v)), putG acc key (frzQ y), e5, rfl, gl5, ?_, hlen r5, ?_, pc⟩
                      · rw [kvr_len k2]; exact small1000 (by omega)
                      · exact Nat.le_trans (putG_len _ _ _) (by omega)
                      · exact putA_rel ((r5.rewiped hw ho).frz0) (gl4.next (frzW_step (r := 0)) (frzW_ok r5.ok)).f (gl4.next (frzW_step (r := 0)) (frzW_ok r5.ok)).t
      · have e2 : i = ds.length := by omega
        subst e2
        rw [List.drop_length] at pc
        refine .inl ⟨hstop, ?_⟩
        obtain ⟨kvs, k1, k2⟩ := gl.h
        have pc : ∀ b', Step b b' → RelE G b' σ (restE e e1 own) → ∀ v, Rep G.C b' 0 [] v (dicG acc) → Q v b'.H := pc
        have rel' := r.unwiped rc gl.st hel
        refine pc (tagA c A) (fun x o h t => ?_) ?_ (.ref A) ?_
        · obtain ⟨g1, g2, g3⟩ := gl.st x o h t
          have ne : x ≠ A := by rintro rfl; rw [hA] at h; cases h
          exact ⟨g1, by show (if x = A then some (0, []) else c.t x) = none; rw [if_neg ne]; exact g2, g3⟩
        · exact ⟨tagA_ok gl.ok gl.f k1, rel'.len, fun i d h => let ⟨v, e, q⟩ := rel'.slot i d h; ⟨v, e, tagA_to gl.t q⟩, rel'.prm⟩
        · simp only [dicG, Rep]
          refine ⟨A, .dK kvs, _, _, rfl, ?_, .dk kvs, fz_keys acc, ?_, ?_⟩
          · rw [if_pos trivial]
            exact ⟨by show (if A = A then some (0, []) else c.t A) = _; rw [if_pos rfl], k1⟩
          · exact RepL.fz (a := c) (b := tagA c A) (fun _ _ h => h) _ _ [] 0 _ (fz_keys acc) (kvr_keys (n := 0) k2)
          · exact RepL.fz (a := c) (b := tagA c A) (fun _ _ h => h) _ _ [] 0 _ (kvr_fz k2) (kvr_vals (n := 0) k2)
  · exact (show False from p).elim
theorem r_dc {X : Cx} {lv : Nat} {e tg kx vx : Expr} {mi : EM (List D)} {mt : EM Bool} {ek : EM Arg} {m : EM D} {ifs : List Expr} {scope : Scope} {pos : Pos} (s : Go X G W lv) (own : List (Str × Nat)) (t : Tgt) (hio : Tgt.off G.io t) (hio2 : ∀ i ∈ G.io, i ∉ own.map (·.2)) (hown : Tgt.ins (own.map (·.2)) t) (hi : PI X tg e (tI G W mi)) (ok : BlkOk X.N X.env.scope scope own)
    (hg : ∀ (s : Shared) (H : Hp) (C : Addr) (cl : List (Str × Addr)) (fp : List Addr), PG (X.blk s H scope (compEnvC scope cl C X.env) fp) tg (gT G.C.K t))
    (ht : ∀ (s : Shared) (H : Hp) (C : Addr) (cl : List (Str × Addr)) (fp : List Addr), Go (X.blk s H scope (compEnvC scope cl C X.env) fp) G W0 lv → PTs (X.blk s H scope (compEnvC scope cl C X.env) fp) ifs (tT G W0 mt))
    (hk : ∀ (s : Shared) (H : Hp) (C : Addr) (cl : List (Str × Addr)) (fp : List Addr), Go (X.blk s H scope (compEnvC scope cl C X.env) fp) G W0 lv → PE (X.blk s H scope (compEnvC scope cl C X.env) fp) kx (tArg G W0 ek))
    (he : ∀ (s : Shared) (H : Hp) (C : Addr) (cl : List (Str × Addr)) (fp : List Addr), Go (X.blk s H scope (compEnvC scope cl C X.env) fp) G W0 lv → PE (X.blk s H scope (compEnvC scope cl C X.env) fp) vx (tE G W0 m)) (hs : ∀ x, foldedSetIterable e X.env x = pure x := by intro _; rfl) :
    PE X (.DictComp kx vx [⟨tg, e, ifs, 0⟩] scope pos) (tE G W (mDc mi t mt ek m (own.map (·.2)))) :=
  (pe_dc s.cm s.n hi ok hg (fun s0 H C cl fp => ht s0 H C cl fp (s.blk ..)) (fun s0 H C cl fp => hk s0 H C cl fp (s.blk ..)) (fun s0 H C cl fp => he s0 H C cl fp (s.blk ..)) hs).weak fun _ _ _ q => dc_w hio hio2 hown q
end
end Mi
namespace Mi
open PySem PySem.Spec PyProof.Rows L2

/-! ### fields of instances -/
structure FldOk (C : KM) (c f : Str) : Prop where
  ex : ∃ u, C.mg c = some (.ref u) ∧ Cls C.K u ∧ NoAttr C.K u f
def fldD : List Str → List D → Str → Option D
  | g :: ns, w :: ws, f => if f = g then some w else fldD ns ws f
  | _, _, _ => none
def fldG (cs : List Str) (f : Str) : D → Option D
  | .ins _ c ns ws => if c ∈ cs then pick (fldD ns ws f) else none
  | _ => none
theorem fld_rep {C : KM} {a : Wd} {r : Nat} {p : List Nat} {f : Str} : ∀ {ns : List Str} {ws : List D} {vs : List V} {n : Nat} {d : D}, fldD ns ws f = some d → RepL C a r p n vs ws → ∃ v j, (ns.zip vs).lookup f = some v ∧ Rep C a r (j :: p) v d
  | [], ws, vs, n, d, e, h => by simp [fldD] at e
  | g :: ns, [], vs, n, d, e, h => by simp [fldD] at e
  | g :: ns, w :: ws, vs, n, d, e, ⟨v, us, e1, h1, h2⟩ => by
    subst e1
    simp only [fldD] at e
    by_cases q : f = g
    · rw [if_pos q] at e; cases e
      subst q
      exact ⟨v, n, by simp [List.lookup], h1⟩
    · rw [if_neg q] at e
      obtain ⟨v', j, g1, g2⟩ := fld_rep e h2
      have qb : (f == g) = false := by simpa using q
      exact ⟨v', j, by simp only [List.zip_cons_cons, List.lookup, qb]; exact g1, g2⟩
theorem rep_ins {C : KM} {a : Wd} {r : Nat} {p : List Nat} {v : V} {o : Bool} {c : Str} {ns : List Str} {ws : List D} (k : Ok a) (h : Rep C a r p v (.ins o c ns ws)) :
    ∃ x u dx vs, v = .ref x ∧ C.mg c = some (.ref u) ∧ vs.length = ns.length ∧ a.H x = some (.ins u dx (ns.zip vs)) ∧ RepL C a r p 0 vs ws := by
  simp only [Rep] at h
  obtain ⟨x, u, dx, vs, e, hm, hl, c, h⟩ := h
  refine ⟨x, u, dx, vs, e, hm, hl, ?_, h⟩
  cases o with
  | true => rw [if_pos rfl] at c; exact c.2
  | false => rw [if_neg Bool.false_ne_true] at c; exact k.sub _ _ c.1
section
variable {X : Cx} {G : Gm} {W : WX} {lv : Nat} {e : Expr} {ma : EM Arg} {m : EM D} {pos p pos' : Pos} {x f : Str}
theorem r_fld (s : St0 X G) (cs : List Str) (hc : ∀ c ∈ cs, FldOk G.C c f) (ha : PE X e (tArg G W ma)) (hb : attributeBase e f X.env (eval e X.env) = eval e X.env := by rfl) : PE X (.Attribute e f pos) (tE G W (mUn (fldG cs f) ma)) :=
  (pe_fld ha hb).weak fun σ H Q q => by
    obtain ⟨a, env, rfl, rel, post⟩ := q
    refine tArg_of rel post fun x e1 b v s1 rel1 ar1 post1 => ?_
    cases hx : x.get e1 with
    | none => simp only [hx] at post1; exact (show False from post1).elim
    | some d1 =>
      simp only [hx] at post1
      obtain ⟨d, hd, k⟩ := post1.lift rel1
      obtain ⟨r1, p1⟩ := ar1.rep rel1 hx
      cases d1 <;> simp only [fldG] at hd <;> (try (cases hd; done))
      case ins o c ns ws =>
        split at hd
        · rename_i hin
          obtain ⟨h1, h2⟩ := pick_eq hd
          obtain ⟨y, u, dx, vs, rfl, hm, hl, hH, hr⟩ := rep_ins rel1.ok p1
          obtain ⟨v, j, g1, g2⟩ := fld_rep h1 hr
          obtain ⟨u', hm', cl, na⟩ := (hc c hin).ex
          rw [hm] at hm'; cases hm'
          rw [← s.k] at cl na
          exact ⟨y, u, dx, _, v, rfl, hH, cl, na, g1, k b (Grow.refl b) rel1.ok v (g2.step rel1.ok (Step.refl b) h2)⟩
        · cases hd
end
/-! ### self.f = e -/
def putW (f : Str) (y : D) : List Str → List D → List Str × List D
  | g :: ns, x :: ws => if g = f then (g :: ns, y :: ws) else (g :: (putW f y ns ws).1, x :: (putW f y ns ws).2)
  | _, _ => ([f], [y])
theorem put_rep {C : KM} {a : Wd} {f : Str} {y : D} {v : V} (zy : fz y = true) (hy : ∃ s q, Rep C a s q v y) : ∀ {ns : List Str} {ws : List D} {vs : List V} {r n : Nat} {p : List Nat}, fzL ws = true → vs.length = ns.length → RepL C a r p n vs ws →
    ∃ vs', putF f v (ns.zip vs) = (putW f y ns ws).1.zip vs' ∧ vs'.length = (putW f y ns ws).1.length ∧ fzL (putW f y ns ws).2 = true ∧ RepL C a 0 [] n vs' (putW f y ns ws).2
  | [], ws, vs, r, n, p, z, hl, h => by
    have e : vs = [] := List.length_eq_zero_iff.mp hl
    subst e
    obtain ⟨s, q, hy⟩ := hy
    cases ws with
    | nil => exact ⟨[v], rfl, rfl, by simp [putW, fzL, zy], v, [], rfl, Rep.fz (a := a) (b := a) (fun _ _ h => h) y _ _ v zy hy, by simp [RepL]⟩
    | cons w ws => obtain ⟨_, _, e, _⟩ := h; cases e
  | g :: ns, [], vs, r, n, p, z, hl, h => by
    simp only [RepL] at h
    subst h
    simp at hl
  | g :: ns, w :: ws, vs, r, n, p, z, hl, ⟨u, us, e1, h1, h2⟩ => by
    subst e1
    simp only [fzL, Bool.and_eq_true] at z
    simp only [List.length_cons, Nat.add_right_cancel_iff] at hl
    by_cases q : g = f
    · subst q
      obtain ⟨s, q, hy⟩ := hy
      refine ⟨v :: us, by simp [putF, putW], by simp [putW, hl], by simp [putW, fzL, zy, z.2], ?_⟩
      simp only [putW, if_true]
      exact ⟨v, us, rfl, Rep.fz (a := a) (b := a) (fun _ _ h => h) y _ _ v zy hy, RepL.fz (a := a) (b := a) (fun _ _ h => h) ws _ _ _ us z.2 h2⟩
    · obtain ⟨vs', g1, g2, g3, g4⟩ := put_rep (f := f) zy hy (n := n + 1) z.2 hl h2
      refine ⟨u :: vs', ?_, ?_, ?_, ?_⟩
      · simp only [List.zip_cons_cons, putF, putW, if_neg q, g1]
      · simp [putW, if_neg q, g2]
      · simp [putW, if_neg q, fzL, z.1, g3]
      · simp only [putW, if_neg q]
        exact ⟨u, vs', rfl, Rep.fz (a := a) (b := a) (fun _ _ h => h) w _ _ u z.1 h1, g4⟩
def fsetG (cs : List Str) (f : Str) (d y : D) : Option D := match d with
  | .ins true c ns ws => if c ∈ cs ∧ fzL ws = true ∧ ns.length < 900 then some (.ins true c (putW f y ns ws).1 (putW f y ns ws).2) else none
  | _ => none
def mFSet (j : Nat) (cs : List Str) (f : Str) (mv : EM D) : EM FlowD := fun env => (mv env).bind fun (y, e) => match e[j]? with
  | some (some d) => match fsetG cs f d (frzQ y) with
    | some d' => .ok (.next, e.set j (some d'))
    | none => .bad
  | _ => .bad
theorem RelE.rewrI {G : Gm} {a : Wd} {σ : L2.St} {env : EnvD} {j : Nat} {c : Str} {ns : List Str} {ws : List D} (r : RelE G a σ env) (h : env[j]? = some (some (.ins true c ns ws))) :
    ∃ x u dx vs, σ[j]? = some (some (.ref x)) ∧ G.C.mg c = some (.ref u) ∧ vs.length = ns.length ∧ a.H x = some (.ins u dx (ns.zip vs)) ∧ RepL G.C a (j + 1) [] 0 vs ws ∧
      ∀ (ns' : List Str) (ws' : List D) (vs' : List V) (s n : Nat) (q : List Nat), vs'.length = ns'.length → fzL ws' = true → RepL G.C a s q n vs' ws' →
        Step a ⟨a.F, upd a.H x (.ins u dx (ns'.zip vs')), a.t⟩ ∧ RelE G ⟨a.F, upd a.H x (.ins u dx (ns'.zip vs')), a.t⟩ σ (env.set j (some (.ins true c ns' ws'))) := by
  obtain ⟨w, h1, h2⟩ := r.slot j _ h
  simp only [Rep] at h2
  obtain ⟨x, u, dx, vs, rfl, hm, hl, hx, hr⟩ := h2
  rw [if_pos trivial] at hx
  obtain ⟨tx, hx⟩ := hx
  refine ⟨x, u, dx, vs, h1, hm, hl, hx, hr, fun ns' ws' vs' s n q hl' z hr' => ?_⟩
  have ne : ∀ {y : Addr} {t : Option Tag}, a.t y = t → t ≠ some (j + 1, []) → y ≠ x := fun e ht => by rintro rfl; rw [tx] at e; exact ht e.symm
  have fx : a.F x = none := (r.ok.own x _ tx).1
  have up : ∀ {y : Addr}, y ≠ x → upd a.H x (.ins u dx (ns'.zip vs')) y = a.H y := fun e => upd_ne e
  have ok' : Ok ⟨a.F, upd a.H x (.ins u dx (ns'.zip vs')), a.t⟩ := by
    refine ⟨fun y o e => ?_, fun y t e => ?_⟩
    · have : y ≠ x := by rintro rfl; have e : a.F y = some o := e; rw [fx] at e; cases e
      show upd a.H x _ y = _
      rw [up this]; exact r.ok.sub y o e
    · obtain ⟨g1, o, g2⟩ := r.ok.own y t e
      by_cases q : y = x
      · subst q; exact ⟨g1, _, upd_same⟩
      · exact ⟨g1, o, by show upd a.H x _ y = _; rw [up q]; exact g2⟩
  have mv : ∀ {d : D} {r p} {v1 : V}, (∀ z, (r, z ++ p) ≠ (j + 1, ([] : List Nat))) → Rep G.C a r p v1 d → Rep G.C ⟨a.F, upd a.H x (.ins u dx (ns'.zip vs')), a.t⟩ r p v1 d := fun {d r p v1} hne h => by
    have := Rep.to (C := G.C) (a := a) (b := ⟨a.F, upd a.H x (.ins u dx (ns'.zip vs')), a.t⟩) (r := r) (s := r) (p := p) (q := p) (fun _ _ h => h) (fun y z o h e => ⟨h, by
      show upd a.H x _ y = _
      rw [up (ne h (by intro q; exact hne z (Option.some.inj q)))]; exact e⟩) d [] v1
    exact this h
  refine ⟨fun y o e t => ⟨by show upd a.H x _ y = _; rw [up (ne t (by simp))]; exact e, t, rfl⟩, ⟨ok', by rw [List.length_set]; exact r.len, fun i d e => ?_, r.prm⟩⟩
  by_cases ij : j = i
  · subst ij
    have hj : j < env.length := (List.getElem?_eq_some_iff.mp h).1
    rw [List.getElem?_set_self hj] at e
    cases e
    refine ⟨.ref x, h1, ?_⟩
    simp only [Rep]
    refine ⟨x, u, dx, vs', rfl, hm, hl', ?_, ?_⟩
    · rw [if_pos trivial]; exact ⟨tx, upd_same⟩
    · exact RepL.fz (a := a) (b := ⟨a.F, upd a.H x (.ins u dx (ns'.zip vs')), a.t⟩) (fun _ _ h => h) ws' q [] n vs' z hr'
  · rw [List.getElem?_set_ne ij] at e
    obtain ⟨w, e1, e2⟩ := r.slot i d e
    exact ⟨w, e1, mv (by intro z q; exact ij (Nat.succ.inj (congrArg Prod.fst q)).symm) e2⟩
section
variable {X : Cx} {G : Gm} {W : WX} {e : Expr} {m : EM D} {pos p pos' : Pos} {x f : Str}
theorem rs_fld (s : St0 X G) (j : Nat) (cs : List Str) (hc : ∀ c ∈ cs, FldOk G.C c f) (hN : X.N[j]? = some x) (hv : Vis X.env.scope x) (he : PE X e (tE G W m)) (hs : swapsWith e (some (.Attribute (.Name x p) f pos')) pos.line X.env = pure false := by rfl)
    (hd : (x == ("__debug__" : Str)) = false := by decide) (hcd : (x == ("__classdict__" : Str)) = false := by decide) : PS X (.Assign [.Attribute (.Name x p) f pos'] e pos) (tS G W (mFSet j cs f m)) :=
  (ps_fld (pe_var hN hv hd hcd) he hs).weak fun D σ H q => by
    obtain ⟨a, env, rfl, rel, post⟩ := q
    refine tE_ofS rel post fun y e1 b v st r1 rv p1 => ?_
    dsimp only at p1
    split at p1
    · rename_i d hj
      obtain ⟨zy, ry⟩ := frzQ_rep (s := 0) (q := []) r1.ok rv
      cases hf : fsetG cs f d (frzQ y) with
      | none => rw [hf] at p1; exact (show False from p1).elim
      | some d' =>
        rw [hf] at p1
        dsimp only at p1
        unfold fsetG at hf
        split at hf
        · rename_i c ns ws
          split at hf
          · rename_i z; cases hf
            obtain ⟨xx, u, dx, vs, h1, hm, hl, hH, hr, k⟩ := r1.frz0.rewrI hj
            obtain ⟨u', hm', cl, na⟩ := (hc c z.1).ex
            rw [hm] at hm'; cases hm'
            rw [← s.k] at cl na
            obtain ⟨vs', g1, g2, g3, g4⟩ := put_rep (f := f) zy ⟨0, [], ry⟩ (n := 0) z.2.1 hl hr
            obtain ⟨k1, k2⟩ := k _ _ vs' 0 0 [] g2 g3 g4
            refine ⟨.ref xx, h1, xx, u, dx, _, rfl, hH, cl, na, ?_, ?_⟩
            · rw [List.length_zip]; omega
            · rw [g1]
              exact p1 _ σ (frzW_step.trans k1) k2
          · cases hf
        · cases hf
    · exact (show False from p1).elim
end
end Mi
namespace Mi
open PySem PySem.Spec PyProof.Rows L2

/-! ### a new instance: C(..), __init__ is a def g of the instance and the arguments -/
def makeR (c : Str) (g : List D → Res (D × EnvD)) (xs : List Arg) (e : EnvD) : Res (D × EnvD) := match mCallR g (.var e.length :: xs) (e ++ [some (.ins true c [] [])]) with
  | .ok (.non, e') => match e'[e.length]? with
    | some (some d) => .ok (d, e'.take e.length)
    | _ => .bad
  | .exc x e' => .exc x (e'.take e.length)
  | _ => .bad
def mMake (c : Str) (g : List D → Res (D × EnvD)) (ma : EM (List Arg)) : EM D := fun env => (ma env).bind fun (xs, e) => makeR c g xs e
/- the world with the new instance in a slot behind the frame's -/
def insW (b : Wd) (x dx u : Addr) (j : Nat) : Wd := ⟨b.F, upd (upd b.H dx (.own x)) x (.ins u dx []), fun y => if y = x then some (j + 1, []) else b.t y⟩
theorem RelE.cut {G : Gm} {a : Wd} {σ : L2.St} {w : Option V} {e : EnvD} (r : RelE G a (σ ++ [w]) e) (hp : ∀ i ∈ G.io, ∀ v, G.vs0[i]? = some v → σ[i]? = some (some v)) : RelE G a σ (e.take σ.length) := by
  have hl : e.length = σ.length + 1 := by rw [r.len]; simp
  refine ⟨r.ok, by rw [List.length_take]; omega, fun i d h => ?_, hp⟩
  have hi : i < σ.length := by
    have := (List.getElem?_eq_some_iff.mp h).1
    rw [List.length_take] at this; omega
  rw [List.getElem?_take_of_lt hi] at h
  obtain ⟨v, e1, q⟩ := r.slot i d h
  rw [List.getElem?_append_left hi] at e1
  exact ⟨v, e1, q⟩
theorem make_sp {G : Gm} {W : WX} {σ : L2.St} {b : Wd} {e : EnvD} {xs : List Arg} {vs : List V} {c : Str} {g : List D → Res (D × EnvD)} {Q : VK} {u x dx : Addr} (rel : RelE G b σ e) (hm : G.C.mg c = some (.ref u)) (ps : Paired (ArgRep G.C b σ) xs vs) (hx : b.H x = none) (hdx : b.H dx = none) (hne : dx ≠ x)
    (post : PostR G W σ b (makeR c g xs e) fun d _ b => ∀ v, Rep G.C b 0 [] v d → Q v b.H) :
    spD G.C g (.ref x :: vs) (upd (upd b.H dx (.own x)) x (.ins u dx [])) (fun v H2 => v = .non ∧ Q (.ref x) H2) (fun cls dd H' => W cls dd σ H') := by
  have fx : b.F x = none := by
    cases q : b.F x with
    | none => rfl
    | some o => have := rel.ok.sub x o q; rw [hx] at this; cases this
  have tx : b.t x = none := by
    cases q : b.t x with
    | none => rfl
    | some o => obtain ⟨_, o, h⟩ := rel.ok.own x o q; rw [hx] at h; cases h
  have kp : ∀ y o, b.H y = some o → (insW b x dx u e.length).H y = some o ∧ (insW b x dx u e.length).t y = b.t y := fun y o h => by
    have n1 : y ≠ x := by rintro rfl; rw [hx] at h; cases h
    have n2 : y ≠ dx := by rintro rfl; rw [hdx] at h; cases h
    exact ⟨by show upd (upd b.H dx _) x _ y = _; rw [upd_ne n1, upd_ne n2]; exact h, if_neg n1⟩
  have gr : Grow b (insW b x dx u e.length) := ⟨fun y o h => ⟨(kp y o h).1, (kp y o h).2, rfl⟩⟩
  have ok1 : Ok (insW b x dx u e.length) := by
    refine ⟨fun y o h => (kp y o (rel.ok.sub y o h)).1, fun y t h => ?_⟩
    have h : (if y = x then some (e.length + 1, []) else b.t y) = some t := h
    by_cases q : y = x
    · subst q; exact ⟨fx, _, upd_same⟩
    · rw [if_neg q] at h
      obtain ⟨h1, o, h2⟩ := rel.ok.own y t h
      exact ⟨h1, o, (kp y o h2).1⟩
  have rel1 := rel.grow gr ok1
  have hle : e.length = σ.length := rel.len
  have rel2 : RelE G (insW b x dx u e.length) (σ ++ [some (.ref x)]) (e ++ [some (.ins true c [] [])]) := by
    refine ⟨ok1, by simp [rel.len], fun i d h => ?_, fun i hi v hv => ?_⟩
    · by_cases q : i < e.length
      · rw [List.getElem?_append_left q] at h
        obtain ⟨v, e1, r⟩ := rel1.slot i d h
        exact ⟨v, by rw [List.getElem?_append_left (by omega)]; exact e1, r⟩
      · have e1 : i = e.length := by
          have := (List.getElem?_eq_some_iff.mp h).1
          simp at this; omega
        subst e1
        rw [List.getElem?_append_right (Nat.le_refl _)] at h
        simp at h
        subst h
        refine ⟨.ref x, by rw [List.getElem?_append_right (by omega)]; simp [hle], ?_⟩
        simp only [Rep]
        refine ⟨x, u, dx, [], rfl, hm, rfl, ?_, by simp [RepL]⟩
        rw [if_pos trivial]
        exact ⟨if_pos rfl, upd_same⟩
    · have := rel.prm i hi v hv
      have hl := (List.getElem?_eq_some_iff.mp this).1
      rw [List.getElem?_append_left hl]; exact this
  have ps2 : Paired (ArgRep G.C (insW b x dx u e.length) (σ ++ [some (.ref x)])) (.var e.length :: xs) (.ref x :: vs) := by
    refine .cons (show (σ ++ [some (V.ref x)])[e.length]? = some (some (.ref x)) by rw [List.getElem?_append_right (by omega)]; simp [hle]) ?_
    clear post
    induction ps with
    | nil => exact .nil
    | @cons y w ys ws h t ih =>
      refine .cons ?_ ih
      cases y with
      | val d => exact ⟨h.1, h.2.step rel.ok gr.step h.1⟩
      | var i =>
        have h : σ[i]? = some (some w) := h
        have hl := (List.getElem?_eq_some_iff.mp h).1
        show (σ ++ [some (V.ref x)])[i]? = _
        rw [List.getElem?_append_left hl]; exact h
  have key := call_sp (W := fun cls dd _ H' => W cls dd σ H') (Q := fun v H2 => v = .non ∧ Q (.ref x) H2) (g := g) rel2 ps2 ?_
  · exact key
  · unfold makeR at post
    cases hr : mCallR g (.var e.length :: xs) (e ++ [some (.ins true c [] [])]) with
    | bad => rw [hr] at post; exact (show False from post).elim
    | exc y e' =>
      rw [hr] at post
      intro b' cls dd st r er
      have := (r.cut rel.prm)
      rw [← hle] at this
      exact post b' cls dd (gr.step.trans st) this er
    | ok de =>
      obtain ⟨d0, e'⟩ := de
      rw [hr] at post
      cases d0 <;> dsimp only at post <;> first | exact (show False from post).elim | skip
      split at post
      · rename_i d hd
        intro b' st r v rv
        cases rep_non rv
        obtain ⟨w, e1, rw1⟩ := r.slot _ d hd
        rw [List.getElem?_append_right (by omega)] at e1
        simp [hle] at e1
        subst e1
        refine ⟨rfl, ?_⟩
        have r2 := r.cut rel.prm
        rw [← hle] at r2
        refine post (mvW b' (e.length + 1) 0) (gr.step.trans (st.trans mvW_step)) ?_ (.ref x) (mvW_rep rw1)
        refine ⟨mvW_ok r2.ok, r2.len, fun i d h => ?_, r2.prm⟩
        obtain ⟨v, h1, h2⟩ := r2.slot i d h
        have hi : i < e.length := by
          have := (List.getElem?_eq_some_iff.mp h).1
          rw [List.length_take] at this; omega
        exact ⟨v, h1, mvW_else (by omega) h2⟩
      · exact (show False from post).elim
/- a class that may be made -/
structure MkOk (C : KM) (k : Nat) (c : Str) (g : List D → Res (D × EnvD)) : Prop where
  ex : ∃ (u f : Addr) (fd : FuncData) (ps : List Str), C.mg c = some (.ref u) ∧ Mk C.K u f ∧ Binds C.K fd ps [] ∧ ∀ base : Heap, C.K.In base → base.Ns mainGlobals C.mg → FnOk C.P C.w C.K C.mg base (L2.CX C.P C.w) k f fd ps (spD C g)
section
variable {X : Cx} {G : Gm} {W : WX} {lv j : Nat} {e : Expr} {es : List Expr} {mas : EM (List Arg)} {pos p : Pos} {x : Str} {g : List D → Res (D × EnvD)}
theorem run_makeS {CX : CXT} {k : Nat} {f C : Addr} {fd : FuncData} {ps : List Str} {sp : Sp} {E : L2.St → XK} {pins : List (Addr × Obj)} {σ : L2.St} {H : Hp} {s : Shared} {Q : VK} {us : List Value} {vs : List V} (M : Mk X.K C f) (F : FnOk X.prog X.w X.K X.mg X.base CX k f fd ps sp) (hr : Room (k + 1) X.A) (hb : Binds X.K fd ps [])
    (hx : PassesAt CX X σ (E σ)) (I : Inv X pins σ H s) (r : Vals vs us)
    (h : ∀ x dx, H x = none → H dx = none → dx ≠ x → sp (.ref x :: vs) (upd (upd H dx (.own x)) x (.ins C dx [])) (fun v H2 => v = .non ∧ Q (.ref x) H2) (E σ)) :
    wpAny (model X.prog X.w) X.A (call (.ref C) us) (EP X pins σ Q) X.xe s := by
  have hq := h (s.heap.objs.size + 1) s.heap.objs.size (I.hok.fresh (Nat.le_succ _)) (I.hok.fresh (Nat.le_refl _)) (Nat.ne_of_lt (Nat.lt_succ_self _))
  have I2 := Inv.made (C := C) I
  have r2 : Vals (V.ref (s.heap.objs.size + 1) :: vs) (Value.ref (s.heap.objs.size + 1) :: us) := .cons rfl r
  have hl : (Value.ref (s.heap.objs.size + 1) :: us).length = ps.length := by rw [← r2.length]; exact F.len _ _ _ _ hq
  have b2 := hb _ (Value.ref (s.heap.objs.size + 1) :: us) I2.kIn (by rw [List.append_nil]; exact hl)
  rw [List.append_nil] at b2
  refine wpAny_call (make_map (f := f) I.kIn M.makes M.init (beq_iff_eq.mp M.fn) (codeAny_mono (F.run _ X.stack _ _ ⟨Value.ref (s.heap.objs.size + 1) :: us, []⟩ (Value.ref (s.heap.objs.size + 1) :: us) _ _ (E σ) (hr.make C us []) (I2.env0.make C us []) b2 r2 hq) fun r s' hq' => ?_))
  cases r with
  | error e => exact hx pins _ _ e s' I2 hq'
  | ok fl =>
    cases fl with
    | ret u =>
      obtain ⟨v, H', I3, rv, ev, q3⟩ := I2.after hq'
      subst ev
      exact ⟨rv, ⟨V.ref (s.heap.objs.size + 1), H', I3, rfl, q3⟩⟩
    | next => exact False.elim hq'
    | brk => exact False.elim hq'
    | cont => exact False.elim hq'
theorem r_make (s : Go X G W lv) (F : MkOk G.C j x g) (hj : j + 1 ≤ lv) (hg : Gl X x) (ha : PA X (e :: es) (tArgs G W mas)) (hdb : (x == ("__debug__" : Str)) = false := by decide) (he : starEach (e :: es) X.env = (false, eval e X.env) :: starEach es X.env := by rfl)
    (hpl : (backTo pos (starEach es X.env)).any (·.1) = false := by rfl) : PE X (.Call (.Name x p) (e :: es) [] pos) (tE G W (mMake x g mas)) := by
  obtain ⟨u, f, fd, ps, h1, h2, h3, h4⟩ := F.ex
  refine ⟨fun pins s0 σ H Q I h => ?_⟩
  have hk : G.C.K.In X.base := by rw [← s.k]; exact I.ok.mod.kin
  have hb : X.base.Ns mainGlobals G.C.mg := by rw [← s.m]; exact I.ok.mod.glob
  have F' := h4 X.base hk hb
  have e1 := s.p; have e2 := s.w; have e3 := s.k; have e4 := s.m
  rw [← e1, ← e2, ← e3, ← e4] at F'
  have M' : Mk X.K u f := by rw [e3]; exact h2
  have B' : Binds X.K fd ps [] := by rw [e3]; exact h3
  refine wpAny_Call_Name_kw (ld_glob I hg (by rw [e4]; exact h1) ?_ hdb)
  obtain ⟨a, env, rfl, rel, post⟩ := h
  have hA : tArgs G W mas σ a.H (fun vs H1 => ∀ y dy, H1 y = none → H1 dy = none → dy ≠ y → spD G.C g (.ref y :: vs) (upd (upd H1 dy (.own y)) y (.ins u dy [])) (fun v H2 => v = .non ∧ Q (.ref y) H2) (fun cls dd H' => W cls dd σ H')) :=
    tArgs_of rel post fun xs e1 b vs s1 r ps p y dy hy hdy hne => make_sp r h1 ps hy hdy hne p
  refine PySem.W.callWith_K (h₀ := X.base) I.ok.mod.kin M'.kp (thn (ha.run pos pins s0 σ _ _ I hA) fun us s1 ⟨vs, H1, I1, r, q⟩ => ⟨I1.kIn, ?_⟩) he hpl
  exact run_makeS (E := WE W) M' F' (s.rm.mono hj) B' (passAt s.tk σ) I1 r q
end
end Mi
namespace Mi
open PySem PySem.Spec PyProof.Rows L2

/-! ### what is never reached -/
def mBad : EM FlowD := fun _ => .bad
theorem rs_bad {X : Cx} {G : Gm} {W : WX} {st : Stmt} : PS X st (tS G W mBad) := ⟨fun _ _ _ _ _ _ h => by
  obtain ⟨_, _, _, _, p⟩ := h
  exact (show False from p).elim⟩
/-! ### max, min of a list -/
def maxX : List D → Option D
  | [.lst _ l] => match intsOf l with
    | some (n :: ns) => some (.int (ns.foldl (fun a b => if b > a then b else a) n))
    | _ => none
  | ds => maxD ds
theorem max_fold : ∀ (ns : List Int) (n : Int), (ns.foldl (fun a b => if b > a then b else a) n ∈ n :: ns) ∧ ∀ y ∈ n :: ns, y ≤ ns.foldl (fun a b => if b > a then b else a) n
  | [], n => by simp
  | m :: ns, n => by
    rw [List.foldl_cons]
    obtain ⟨h1, h2⟩ := max_fold ns (if m > n then m else n)
    have h0 : n ≤ (if m > n then m else n) ∧ m ≤ (if m > n then m else n) := by split <;> omega
    have hb := h2 (if m > n then m else n) List.mem_cons_self
    refine ⟨?_, fun y hy => ?_⟩
    · rcases List.mem_cons.mp h1 with e | e
      · rw [e]; split <;> simp
      · exact List.mem_cons_of_mem _ (List.mem_cons_of_mem _ e)
    · rcases List.mem_cons.mp hy with rfl | hy
      · omega
      · rcases List.mem_cons.mp hy with rfl | hy
        · omega
        · exact h2 y (List.mem_cons_of_mem _ hy)
theorem call_maxX {X : Cx} {C : KM} (hc : X.calm = true) : CallR X (.builtin "max") (cD C maxX) := by
  intro pins s σ H xs us Q I r h
  obtain ⟨a, ds, d, rfl, k, ps, hd, q⟩ := h
  match ds, hd, ps with
  | [.lst o l], hd, ps =>
    simp only [maxX] at hd
    split at hd
    · rename_i n ns hi
      cases hd
      obtain ⟨v, rfl, r1, p1⟩ := one_rep ps
      obtain ⟨x, vs, rfl, h1, h2⟩ := rep_lst k p1
      have e := ints_rep hi h2
      subst e
      obtain ⟨m1, m2⟩ := max_fold ns n
      refine cr_max hc pins s σ a.H _ us Q I r ⟨x, n :: ns, rfl, SqL.of h1, by simp, fun m hm hu => ?_⟩
      have e : m = ns.foldl (fun a b => if b > a then b else a) n := Int.le_antisymm (m2 m hm) (hu _ m1)
      subst e
      exact q _ a (Grow.refl a) k (by simp [Rep])
    · cases hd
  | [.int i, .int j], hd, ps => exact call_maxD hc pins s σ a.H xs us Q I r ⟨a, _, d, rfl, k, ps, hd, q⟩
/-! ### a def, a method -/
theorem fn_okQ {C : KM} {N ps : List Str} {st : Stmt} {x qual : Str} {f : Addr} {fd : FuncData} {lv : Nat} (io : List Nat) (m : EM FlowD) (F : Fun C.K x qual st f fd) (S : FnScope N ps (defScope st)) (base : Heap)
    (body : ∀ (base : Heap) (cdv : Value) (A : Around) (outer : List Env) (s : Shared) (H : Hp) (E : XK) (vs : List V) (W : WX), Go (CxD C base N qual (defScope st) f cdv A outer s H E) ⟨C, vs, io⟩ W lv → PSs (CxD C base N qual (defScope st) f cdv A outer s H E) (defBody st) (tS ⟨C, vs, io⟩ W m)) :
    FnOk C.P C.w C.K C.mg base (L2.CX C.P C.w) (lv + 1) f fd ps (spD C (runD ps.length N.length io m)) := by
  have hpl : ps.length ≤ N.length := by have := congrArg List.length S.pre; rw [List.length_take] at this; omega
  refine F.okX S (fun vs H Q E h => ?_) fun cdv A outer s H vs Q E hr h => ?_
  · obtain ⟨a, ds, _, _, hl, _, h⟩ := h
    unfold runD at h
    by_cases z : ds.length = ps.length ∧ ownOk io ds 0 = true
    · rw [← hl, z.1]
    · rw [if_neg z] at h; exact h.elim
  · obtain ⟨a, ds, rfl, ok, hl, hrep, h⟩ := h
    have go : Go (CxD C base N qual (defScope st) f cdv A outer s a.H E) ⟨C, vs, io⟩ (fun cls d _ H => E cls d H) lv :=
      { p := rfl, w := rfl, k := rfl, m := rfl, n := S.nd, u := by have := hr.un; show (A.deeper _).units + 64 < cLine; omega, tk := takes_of rfl rfl rfl rfl, pw := passes_of rfl, rm := hr, cm := rfl }
    refine ⟨_, body base cdv A outer s a.H E vs _ go, ?_⟩
    unfold runD at h
    by_cases z : ds.length = ps.length ∧ ownOk io ds 0 = true
    · rw [if_pos z] at h
      have hlen : vs.length = ps.length := by rw [← hl, z.1]
      refine ⟨a, ds.map some ++ List.replicate (N.length - ps.length) none, rfl, ⟨ok, ?_, fun i d e => ?_, fun i hi v hv => ?_⟩, ?_⟩
      · unfold L2.start
        rw [List.length_append, List.length_append, List.length_map, List.length_map, List.length_replicate, List.length_replicate, z.1, hlen]
      · have hi : i < ds.length := by
          by_cases hi : i < ds.length
          · exact hi
          · rw [List.getElem?_append_right (by simpa using hi), List.getElem?_replicate] at e
            split at e <;> cases e
        have e2 : ds[i]? = some d := by
          rw [List.getElem?_append_left (by simpa using hi), List.getElem?_map] at e
          cases q : ds[i]? with
          | none => rw [q] at e; cases e
          | some d' => rw [q] at e; cases e; rfl
        obtain ⟨v, h1, h2⟩ := hrep i d e2
        refine ⟨v, ?_, h2⟩
        unfold L2.start
        rw [List.getElem?_append_left (by rw [List.length_map]; exact (List.getElem?_eq_some_iff.mp h1).1), List.getElem?_map, h1]; rfl
      · have hv : vs[i]? = some v := hv
        unfold L2.start
        rw [List.getElem?_append_left (by rw [List.length_map]; exact (List.getElem?_eq_some_iff.mp hv).1), List.getElem?_map, hv]; rfl
      · cases hm : m (ds.map some ++ List.replicate (N.length - ps.length) none) with
        | bad => rw [hm] at h; exact h.elim
        | exc y e => rw [hm] at h; exact fun b σ cls dd st r er => h b cls dd st r.ok (outs_rep r (Nat.le_of_eq hlen.symm)) er
        | ok fe =>
          obtain ⟨fl, e⟩ := fe
          rw [hm] at h
          cases fl with
          | next => exact fun b σ st r => h b .non st r.ok (outs_rep r (Nat.le_of_eq hlen.symm)) (by simp [Rep])
          | ret d => exact fun b σ v st r rp => h b v st r.ok (outs_rep r (Nat.le_of_eq hlen.symm)) rp
          | brk => exact h.elim
          | cont => exact h.elim
    · rw [if_neg z] at h; exact h.elim
theorem mk_def {C : KM} {N ps : List Str} {st : Stmt} {c qual : Str} {f u : Addr} {fd : FuncData} {lv : Nat} (io : List Nat) (m : EM FlowD) (F : Fun C.K "__init__" qual st f fd) (S : FnScope N ps (defScope st)) (hb : Binds C.K fd ps []) (hm : C.mg c = some (.ref u)) (M : Mk C.K u f)
    (body : ∀ (base : Heap) (cdv : Value) (A : Around) (outer : List Env) (s : Shared) (H : Hp) (E : XK) (vs : List V) (W : WX), Go (CxD C base N qual (defScope st) f cdv A outer s H E) ⟨C, vs, io⟩ W lv → PSs (CxD C base N qual (defScope st) f cdv A outer s H E) (defBody st) (tS ⟨C, vs, io⟩ W m)) :
    MkOk C (lv + 1) c (runD ps.length N.length io m) := ⟨u, f, fd, ps, hm, M, hb, fun base _ _ => fn_okQ io m F S base body⟩
end Mi
namespace Mi
open PySem PySem.Spec PyProof.Rows L2

/-! ### rows for simp, the later mirrors -/
section
variable {e env : EnvD} {m n : EM D} {ma mb : EM Arg} {mas : EM (List Arg)} {mt : EM Bool} {d d1 : D} {x y : Arg} {j : Nat} {c fl : Str} {cs : List Str} {xs : List Arg} {l ds : List D}
/-! a method of a slot's list -/
def metV (j : Nat) (f : List D → List D → Option (D × List D)) (e : EnvD) : Option (Option D) → Option (List D) → Res (D × EnvD)
  | some (some (.lst true l)), some ds => match f l ds with
    | some (d, l') => .ok (d, e.set j (some (.lst true l')))
    | none => .bad
  | _, _ => .bad
def kMet (j : Nat) (f : List D → List D → Option (D × List D)) : List Arg × EnvD → Res (D × EnvD) := fun (xs, e) => metV j f e (e[j]?) (Arg.gets e xs)
def met0 (j : Nat) (mas : EM (List Arg)) (f : List D → List D → Option (D × List D)) (env : EnvD) : Option (Option D) → Res (D × EnvD)
  | some (some (.lst true _)) => (mas env).bind (kMet j f)
  | _ => .bad
variable {f : List D → List D → Option (D × List D)}
@[simp] theorem e_met : mMet j mas f env = met0 j mas f env (env[j]?) := by
  unfold mMet met0
  rcases env[j]? with _ | _ | d
  · rfl
  · rfl
  · cases d <;> rfl
@[simp] theorem met0_ok : met0 j mas f env (some (some (.lst true l))) = (mas env).bind (kMet j f) := rfl
@[simp] theorem kMet_ok : kMet j f (xs, e) = metV j f e (e[j]?) (Arg.gets e xs) := rfl
def metR (j : Nat) (e : EnvD) : Option (D × List D) → Res (D × EnvD)
  | some (d, l') => .ok (d, e.set j (some (.lst true l')))
  | none => .bad
@[simp] theorem metV_ok : metV j f e (some (some (.lst true l))) (some ds) = metR j e (f l ds) := rfl
@[simp] theorem metR_ok : metR j e (some (d, l)) = .ok (d, e.set j (some (.lst true l))) := rfl
/-! stores -/
def sxV (j : Nat) (y : D) (e : EnvD) : Option (Option D) → Option D → Res (FlowD × EnvD)
  | some (some d), some i => oFlow ((setX d i (frzQ y)).map fun d' => e.set j (some d'))
  | _, _ => .bad
def kSx2 (j : Nat) (y : D) : Arg × EnvD → Res (FlowD × EnvD) := fun (x, e) => sxV j y e (e[j]?) (x.get e)
def kSxV (j : Nat) (mi : EM D) (y : D) (e : EnvD) : Option (Option D) → Res (FlowD × EnvD)
  | some (some _) => (mFrz mi e).bind (kSx2 j y)
  | _ => .bad
def kSx1 (j : Nat) (mi : EM D) : D × EnvD → Res (FlowD × EnvD) := fun (y, e) => kSxV j mi y e (e[j]?)
@[simp] theorem e_setX : mSetX j m n env = (n env).bind (kSx1 j m) := by
  unfold mSetX
  refine bind_ext fun z => ?_
  obtain ⟨y, e1⟩ := z
  show _ = kSxV j m y e1 (e1[j]?)
  dsimp only
  rcases e1[j]? with _ | _ | d
  · rfl
  · rfl
  · show (mFrz m e1).bind _ = (mFrz m e1).bind (kSx2 j y)
    refine bind_ext fun z => ?_
    obtain ⟨z, e2⟩ := z
    show _ = sxV j y e2 (e2[j]?) (z.get e2)
    dsimp only
    rcases e2[j]? with _ | _ | d'
    · rfl
    · rfl
    · cases z.get e2 with
      | none => rfl
      | some i =>
        show _ = oFlow ((setX d' i (frzQ y)).map fun d'' => e2.set j (some d''))
        dsimp only
        cases setX d' i (frzQ y) <;> rfl
@[simp] theorem kSx1_ok : kSx1 j m (d, e) = kSxV j m d e (e[j]?) := rfl
@[simp] theorem kSxV_ok : kSxV j m d1 e (some (some d)) = (mFrz m e).bind (kSx2 j d1) := rfl
@[simp] theorem kSx2_ok : kSx2 j d (x, e) = sxV j d e (e[j]?) (x.get e) := rfl
@[simp] theorem sxV_ok {i : D} : sxV j d1 e (some (some d)) (some i) = oFlow ((setX d i (frzQ d1)).map fun d' => e.set j (some d')) := rfl
def fsV (j : Nat) (cs : List Str) (fl : Str) (y : D) (e : EnvD) : Option (Option D) → Res (FlowD × EnvD)
  | some (some d) => oFlow ((fsetG cs fl d (frzQ y)).map fun d' => e.set j (some d'))
  | _ => .bad
def kFSet (j : Nat) (cs : List Str) (fl : Str) : D × EnvD → Res (FlowD × EnvD) := fun (y, e) => fsV j cs fl y e (e[j]?)
@[simp] theorem e_fset : mFSet j cs fl m env = (m env).bind (kFSet j cs fl) := by
  unfold mFSet
  refine bind_ext fun z => ?_
  obtain ⟨y, e⟩ := z
  show _ = fsV j cs fl y e (e[j]?)
  dsimp only
  rcases e[j]? with _ | _ | d
  · rfl
  · rfl
  · show _ = oFlow ((fsetG cs fl d (frzQ y)).map fun d' => e.set j (some d'))
    dsimp only
    cases fsetG cs fl d (frzQ y) <;> rfl
@[simp] theorem kFSet_ok : kFSet j cs fl (d, e) = fsV j cs fl d e (e[j]?) := rfl
@[simp] theorem fsV_ok : fsV j cs fl d1 e (some (some d)) = oFlow ((fsetG cs fl d (frzQ d1)).map fun d' => e.set j (some d')) := rfl
/-! a new instance -/
def mkV2 (n : Nat) (e' : EnvD) : Option (Option D) → Res (D × EnvD)
  | some (some d) => .ok (d, e'.take n)
  | _ => .bad
def mkV (n : Nat) : Res (D × EnvD) → Res (D × EnvD)
  | .ok (.non, e') => mkV2 n e' (e'[n]?)
  | .exc x e' => .exc x (e'.take n)
  | _ => .bad
def kMake (c : Str) (g : List D → Res (D × EnvD)) : List Arg × EnvD → Res (D × EnvD) := fun (xs, e) => mkV e.length (gCall g (.var e.length :: xs) (e ++ [some (.ins true c [] [])]) (Arg.gets (e ++ [some (.ins true c [] [])]) (.var e.length :: xs)))
variable {g : List D → Res (D × EnvD)}
@[simp] theorem e_make : mMake c g mas env = (mas env).bind (kMake c g) := by
  unfold mMake
  refine bind_ext fun z => ?_
  obtain ⟨xs, e⟩ := z
  show makeR c g xs e = mkV e.length _
  have hk := kCall_g (g := g) (xs := .var e.length :: xs) (e := e ++ [some (.ins true c [] [])])
  have hk : mCallR g (.var e.length :: xs) (e ++ [some (.ins true c [] [])]) = gCall g (.var e.length :: xs) (e ++ [some (.ins true c [] [])]) (Arg.gets (e ++ [some (.ins true c [] [])]) (.var e.length :: xs)) := hk
  unfold makeR
  rw [← hk]
  cases mCallR g (.var e.length :: xs) (e ++ [some (.ins true c [] [])]) with
  | bad => rfl
  | exc x e' => rfl
  | ok de =>
    obtain ⟨d0, e'⟩ := de
    cases d0 <;> first | rfl | skip
@[simp] theorem kMake_ok : kMake c g (xs, e) = mkV e.length (gCall g (.var e.length :: xs) (e ++ [some (.ins true c [] [])]) (Arg.gets (e ++ [some (.ins true c [] [])]) (.var e.length :: xs))) := rfl
@[simp] theorem mkV_ok {n : Nat} : mkV n (.ok (.non, e)) = mkV2 n e (e[n]?) := rfl
@[simp] theorem mkV_exc {n : Nat} {z : Exc} : mkV n (.exc z e) = .exc z (e.take n) := rfl
@[simp] theorem mkV2_ok {n : Nat} : mkV2 n e (some (some d)) = .ok (d, e.take n) := rfl
/-! dict comprehensions -/
def kDc2 (e : EnvD) (own : List Nat) : List (Key × D) × EnvD → Res (D × EnvD) := fun (l, e') => .ok (dicG l, restE e e' own)
def kDc (t : Tgt) (cond : EM Bool) (ek : EM Arg) (ev : EM D) (own : List Nat) : List D × EnvD → Res (D × EnvD) := fun (ds, e) => if fzL ds = true ∧ ds.length ≤ 1000 then (loopDc t cond ek ev own ds [] e).bind (kDc2 e own) else .bad
@[simp] theorem e_dc {mi : EM (List D)} {t : Tgt} {own : List Nat} : mDc mi t mt ma m own env = (mi env).bind (kDc t mt ma m own) := rfl
theorem kDc_ok {t : Tgt} {own : List Nat} (h1 : fzL ds = true) (h2 : ds.length ≤ 1000) : kDc t mt ma m own (ds, e) = (loopDc t mt ma m own ds [] e).bind (kDc2 e own) := by
  show (if fzL ds = true ∧ ds.length ≤ 1000 then _ else _) = _
  rw [if_pos ⟨h1, h2⟩]
@[simp] theorem kDc2_ok {e' : EnvD} {own : List Nat} {l : List (Key × D)} : kDc2 e own (l, e') = .ok (dicG l, restE e e' own) := rfl
end
/-! data -/
@[simp] theorem addD_i {i j : Int} : addD (.int i) (.int j) = some (.int (i + j)) := rfl
@[simp] theorem subD_i {i j : Int} : subD (.int i) (.int j) = some (.int (i - j)) := rfl
@[simp] theorem negD_i {i : Int} : negD (.int i) = some (.int (-i)) := rfl
@[simp] theorem intD_i {i : Int} : intD [.int i] = some (.int i) := rfl
@[simp] theorem ltD_i {i j : Int} : ltD (.int i) (.int j) = some (.bl (decide (i < j))) := rfl
@[simp] theorem leD_i {i j : Int} : leD (.int i) (.int j) = some (.bl (decide (i ≤ j))) := rfl
@[simp] theorem gtD_i {i j : Int} : gtD (.int i) (.int j) = some (.bl (decide (j < i))) := rfl
@[simp] theorem geD_i {i j : Int} : geD (.int i) (.int j) = some (.bl (decide (j ≤ i))) := rfl
@[simp] theorem eqD_i {i j : Int} : eqD (.int i) (.int j) = some (.bl (decide (i = j))) := by show some (D.bl (i == j)) = _; by_cases h : i = j <;> simp [h]
@[simp] theorem neD_i {i j : Int} : neD (.int i) (.int j) = some (.bl (!decide (i = j))) := by show some (D.bl (!(i == j))) = _; by_cases h : i = j <;> simp [h]
@[simp] theorem nisD_b {a b : Bool} : nisD (.bl a) (.bl b) = some (.bl (!(a == b))) := rfl
@[simp] theorem isD_b {a b : Bool} : isD (.bl a) (.bl b) = some (.bl (a == b)) := rfl
@[simp] theorem eqD_b {a b : Bool} : eqD (.bl a) (.bl b) = some (.bl (a == b)) := rfl
@[simp] theorem neD_s {a b : Str} : neD (.str a) (.str b) = some (.bl (!(a == b))) := rfl
@[simp] theorem eqD_s {a b : Str} : eqD (.str a) (.str b) = some (.bl (a == b)) := rfl
@[simp] theorem lenD_l {b : Bool} {l : List D} : lenD [.lst b l] = some (.int l.length) := rfl
@[simp] theorem lenD_t {l : List D} : lenD [.tup l] = some (.int l.length) := rfl
@[simp] theorem lenD_scr {l : List Int} : lenD [.scr l] = some (.int l.length) := rfl
@[simp] theorem lenD_d {b : Bool} {k w : List D} : lenD [.dic b k w] = some (.int k.length) := rfl
theorem modD_i {i j : Int} (h : 0 < j) : modD (.int i) (.int j) = some (.int (i % j)) := by simp [modD, h]
theorem fdivD_i {i j : Int} (h : 0 < j) (h2 : j.natAbs.log2 < 9000) : fdivD (.int i) (.int j) = some (.int (i / j)) := by simp [fdivD, h, h2]
theorem mulD_i {i j : Int} (h : j.natAbs < 18446744073709551616 ∨ i.natAbs < 18446744073709551616) : mulD (.int i) (.int j) = some (.int (i * j)) := by
  unfold mulD
  dsimp only
  rcases h with h | h <;> simp [h]
theorem ixD_lst {l : List D} {r : Int} {o : Bool} (h : 0 ≤ r) (h2 : r < l.length) (z : fzL l = true) : ∃ d ∈ l, ixD (.lst o l) (.int r) = some d := by
  have e : r.toNat < l.length := by omega
  have m : l[r.toNat] ∈ l := List.getElem_mem e
  exact ⟨l[r.toNat], m, by simp [ixD, atI, ixN, h, h2, pick, e, fzL_mem z _ m]⟩
end Mi
namespace Mi
open PySem PySem.Spec PyProof.Rows L2

/-! ### comprehensions whose turns change nothing -/
theorem set_none_idem {e : EnvD} {k : Nat} {o : Option D} : (e.set k o).set k none = e.set k none := by rw [List.set_set]
/- f the element, p the test, by the item -/
theorem loop_pure {k : Nat} {cond : EM Bool} {elt : EM D} {f : D → D} {p : D → Bool} {e0 : EnvD} (h0 : e0.set k none = e0) : ∀ (ds acc : List D) (e : EnvD), e.set k none = e0 →
    (∀ d ∈ ds, cond (e0.set k (some d)) = .ok (p d, e0.set k (some d))) → (∀ d ∈ ds, p d = true → elt (e0.set k (some d)) = .ok (f d, e0.set k (some d))) →
    ∃ e', loopL (.nm k) cond elt [k] ds acc e = .ok (acc ++ (ds.filter p).map (fun d => frzQ (f d)), e') ∧ e'.set k none = e0
  | [], acc, e, he, _, _ => ⟨e, by simp [loopL], he⟩
  | d :: ds, acc, e, he, hc, hf => by
    have w : wipeE e [k] = e0 := by simp only [wipeE]; exact he
    have hs : (e0.set k (some d)).set k none = e0 := by rw [set_none_idem]; exact h0
    have c1 := hc d List.mem_cons_self
    simp only [loopL, w, tg_nm, c1]
    cases hp : p d with
    | false =>
      obtain ⟨e', g1, g2⟩ := loop_pure h0 ds acc (e0.set k (some d)) hs (fun x hx => hc x (List.mem_cons_of_mem _ hx)) (fun x hx => hf x (List.mem_cons_of_mem _ hx))
      refine ⟨e', ?_, g2⟩
      rw [List.filter_cons_of_neg (by simp [hp])]
      exact g1
    | true =>
      have f1 := hf d List.mem_cons_self hp
      obtain ⟨e', g1, g2⟩ := loop_pure h0 ds (acc ++ [frzQ (f d)]) (e0.set k (some d)) hs (fun x hx => hc x (List.mem_cons_of_mem _ hx)) (fun x hx => hf x (List.mem_cons_of_mem _ hx))
      refine ⟨e', ?_, g2⟩
      rw [List.filter_cons_of_pos (by simp [hp]), List.map_cons]
      simp only [f1]
      rw [g1]
      simp
theorem lc_pureX {k : Nat} {elt : EM D} (f : D → D) {e : EnvD} {ds : List D} (hz : fzL ds = true) (hl : ds.length ≤ 100000) (hf : ∀ d ∈ ds, elt (e.set k (some d)) = .ok (f d, e.set k (some d))) :
    kLc (.nm k) mYes elt [k] (ds, e) = .ok (.lst true (ds.map fun d => frzQ (f d)), e.set k (restV e k)) := by
  rw [kLc_okX hz hl]
  have e0 : (e.set k none).set k none = e.set k none := set_none_idem
  have s1 : ∀ d, (e.set k none).set k (some d) = e.set k (some d) := fun d => by rw [List.set_set]
  obtain ⟨e', g1, g2⟩ := loop_pure (cond := mYes) (elt := elt) (f := f) (p := fun _ => true) e0 ds [] e rfl (fun d _ => by simp) (fun d hd _ => by rw [s1]; exact hf d hd)
  rw [g1, show ds.filter (fun _ => true) = ds from List.filter_eq_self.mpr fun _ _ => rfl]
  simp only [bind_ok, kLc2_ok, List.nil_append, restE]
  rw [show e'.set k (restV e k) = (e'.set k none).set k (restV e k) by rw [List.set_set], g2, List.set_set]
theorem lc_pure {k : Nat} {elt : EM D} (f : D → D) {e : EnvD} {ds : List D} (hz : fzL ds = true) (hl : ds.length ≤ 1000) (hf : ∀ d ∈ ds, elt (e.set k (some d)) = .ok (f d, e.set k (some d))) :
    kLc (.nm k) mYes elt [k] (ds, e) = .ok (.lst true (ds.map fun d => frzQ (f d)), e.set k (restV e k)) := lc_pureX f hz (by omega) hf
theorem lc_filterX {k : Nat} {cond : EM Bool} {elt : EM D} (f : D → D) (p : D → Bool) {e : EnvD} {ds : List D} (hz : fzL ds = true) (hl : ds.length ≤ 100000) (hc : ∀ d ∈ ds, cond (e.set k (some d)) = .ok (p d, e.set k (some d))) (hf : ∀ d ∈ ds, p d = true → elt (e.set k (some d)) = .ok (f d, e.set k (some d))) :
    kLc (.nm k) cond elt [k] (ds, e) = .ok (.lst true ((ds.filter p).map fun d => frzQ (f d)), e.set k (restV e k)) := by
  rw [kLc_okX hz hl]
  have e0 : (e.set k none).set k none = e.set k none := set_none_idem
  have s1 : ∀ d, (e.set k none).set k (some d) = e.set k (some d) := fun d => by rw [List.set_set]
  obtain ⟨e', g1, g2⟩ := loop_pure (cond := cond) (elt := elt) (f := f) (p := p) e0 ds [] e rfl (fun d hd => by rw [s1]; exact hc d hd) (fun d hd hp => by rw [s1]; exact hf d hd hp)
  rw [g1]
  simp only [bind_ok, kLc2_ok, List.nil_append, restE]
  rw [show e'.set k (restV e k) = (e'.set k none).set k (restV e k) by rw [List.set_set], g2, List.set_set]
theorem lc_filter {k : Nat} {cond : EM Bool} {elt : EM D} (f : D → D) (p : D → Bool) {e : EnvD} {ds : List D} (hz : fzL ds = true) (hl : ds.length ≤ 1000) (hc : ∀ d ∈ ds, cond (e.set k (some d)) = .ok (p d, e.set k (some d))) (hf : ∀ d ∈ ds, p d = true → elt (e.set k (some d)) = .ok (f d, e.set k (some d))) :
    kLc (.nm k) cond elt [k] (ds, e) = .ok (.lst true ((ds.filter p).map fun d => frzQ (f d)), e.set k (restV e k)) := lc_filterX f p hz (by omega) hc hf
theorem loop_dpure {k : Nat} {ek : EM Arg} {ev : EM D} {kf : D → Key} {f : D → D} {e0 : EnvD} (h0 : e0.set k none = e0) : ∀ (ds : List D) (acc : List (Key × D)) (e : EnvD), e.set k none = e0 →
    (∀ d ∈ ds, ∃ x, ek (e0.set k (some d)) = .ok (x, e0.set k (some d)) ∧ (x.get (e0.set k (some d))).bind keyD = some (kf d)) → (∀ d ∈ ds, ev (e0.set k (some d)) = .ok (f d, e0.set k (some d))) →
    ∃ e', loopDc (.nm k) mYes ek ev [k] ds acc e = .ok (mergeG (ds.map fun d => (kf d, frzQ (f d))) acc, e') ∧ e'.set k none = e0
  | [], acc, e, he, _, _ => ⟨e, by simp [loopDc, mergeG], he⟩
  | d :: ds, acc, e, he, hk, hf => by
    have w : wipeE e [k] = e0 := by simp only [wipeE]; exact he
    have hs : (e0.set k (some d)).set k none = e0 := by rw [set_none_idem]; exact h0
    obtain ⟨x, k1, k2⟩ := hk d List.mem_cons_self
    have f1 := hf d List.mem_cons_self
    obtain ⟨e', g1, g2⟩ := loop_dpure h0 ds (putG acc (kf d) (frzQ (f d))) (e0.set k (some d)) hs (fun x hx => hk x (List.mem_cons_of_mem _ hx)) (fun x hx => hf x (List.mem_cons_of_mem _ hx))
    refine ⟨e', ?_, g2⟩
    simp only [loopDc, w, tg_nm, e_yes, k1, f1, k2]
    rw [g1]; rfl
theorem dc_pure {k : Nat} {ek : EM Arg} {ev : EM D} (kf : D → Key) (f : D → D) {e : EnvD} {ds : List D} (hz : fzL ds = true) (hl : ds.length ≤ 1000) (hk : ∀ d ∈ ds, ∃ x, ek (e.set k (some d)) = .ok (x, e.set k (some d)) ∧ (x.get (e.set k (some d))).bind keyD = some (kf d)) (hf : ∀ d ∈ ds, ev (e.set k (some d)) = .ok (f d, e.set k (some d))) :
    kDc (.nm k) mYes ek ev [k] (ds, e) = .ok (dicG (mergeG (ds.map fun d => (kf d, frzQ (f d))) []), e.set k (restV e k)) := by
  rw [kDc_ok hz hl]
  have e0 : (e.set k none).set k none = e.set k none := set_none_idem
  have s1 : ∀ d, (e.set k none).set k (some d) = e.set k (some d) := fun d => by rw [List.set_set]
  obtain ⟨e', g1, g2⟩ := loop_dpure (ek := ek) (ev := ev) (kf := kf) (f := f) e0 ds [] e rfl (fun d hd => by rw [s1]; exact hk d hd) (fun d hd => by rw [s1]; exact hf d hd)
  rw [g1]
  simp only [bind_ok, kDc2_ok, restE]
  rw [show e'.set k (restV e k) = (e'.set k none).set k (restV e k) by rw [List.set_set], g2, List.set_set]
/-! keys that come once -/
theorem putG_new {ds : List (Key × D)} {k : Key} {d : D} (h : k ∉ ds.map (·.1)) : putG ds k d = ds ++ [(k, d)] := by
  unfold putG
  rw [if_neg]
  intro z
  rw [List.any_eq_true] at z
  obtain ⟨x, hx, hk⟩ := z
  exact h (List.mem_map.mpr ⟨x, hx, by simpa using hk⟩)
theorem mergeG_new : ∀ (ds acc : List (Key × D)), (acc.map (·.1) ++ ds.map (·.1)).Nodup → mergeG ds acc = acc ++ ds
  | [], acc, _ => by simp [mergeG]
  | x :: ds, acc, h => by
    have hx : x.1 ∉ acc.map (·.1) := by
      intro z
      rw [List.nodup_append] at h
      exact h.2.2 x.1 z x.1 (by simp) rfl
    show mergeG ds (putG acc x.1 x.2) = _
    rw [putG_new hx]
    rw [mergeG_new ds (acc ++ [(x.1, x.2)]) (by simpa using h)]
    simp
theorem allD_true {b : Bool} {l : List D} (h : ∀ d ∈ l, d = .bl true) : allD [.lst b l] = some (.bl true) := by
  have : blsOf l = some (List.replicate l.length true) := by
    clear b
    induction l with
    | nil => rfl
    | cons d l ih =>
      rw [h d List.mem_cons_self, blsOf, ih fun x hx => h x (List.mem_cons_of_mem _ hx)]
      rfl
  simp only [allD, this, Option.map_some]
  congr 2
  simp
end Mi
namespace Mi
open PySem PySem.Spec PyProof.Rows L2

/-! ### comprehensions with two generators, the second over a list or a tuple -/
abbrev FM (a c : Wd) : Prop := ∀ x o, a.F x = some o → c.F x = some o
def ItF (C : KM) (a : Wd) (ds : List D) (J : It) : Prop := ∀ c, Ok c → FM a c → (∀ i d, ds[i]? = some d → J.go i c.H ∧ ∀ x H', J.yld i c.H x H' → H' = c.H ∧ Rep C c 0 [] x d) ∧ J.stop ds.length c.H
theorem itF_lst {C : KM} {a : Wd} {l : List D} {x : Addr} {vs : List V} {r n : Nat} {p : List Nat} (k : Ok a) (z : fzL l = true) (hx : a.F x = some (.lst vs)) (h : RepL C a r p n vs l) : ItF C a l (Itl C.K x) := fun c ok st => by
  have hc : SqL C.K c.H x vs := SqL.of (ok.sub _ _ (st _ _ hx))
  refine ⟨fun i d e => ?_, ⟨vs, hc, by rw [h.len]; exact Nat.le_refl _⟩⟩
  obtain ⟨v, h1, h2⟩ := h.get e
  refine ⟨⟨vs, v, hc, h1⟩, fun y H' q => ?_⟩
  obtain ⟨rfl, q⟩ := q
  have e2 := q vs hc
  rw [h1] at e2; cases e2
  exact ⟨rfl, Rep.fz st d _ _ v (fzL_mem z d (List.mem_of_getElem? e)) h2⟩
theorem itF_tup {C : KM} {a : Wd} {l : List D} {x : Addr} {vs : List V} {r n : Nat} {p : List Nat} (k : Ok a) (z : fzL l = true) (hx : SqT C.K a.F x vs) (h : RepL C a r p n vs l) : ItF C a l (Itt C.K x) := fun c ok st => by
  have hc : SqT C.K c.H x vs := sqt_mono (fun y o h => ok.sub _ _ (st _ _ h)) hx
  refine ⟨fun i d e => ?_, ⟨vs, hc, by rw [h.len]; exact Nat.le_refl _⟩⟩
  obtain ⟨v, h1, h2⟩ := h.get e
  refine ⟨⟨vs, v, hc, h1⟩, fun y H' q => ?_⟩
  obtain ⟨rfl, q⟩ := q
  have e2 := q vs hc
  rw [h1] at e2; cases e2
  exact ⟨rfl, Rep.fz st d _ _ v (fzL_mem z d (List.mem_of_getElem? e)) h2⟩
def seq2 : D → Option (List D)
  | .lst false l => if fzL l = true then some l else none
  | .tup l => if fzL l = true then some l else none
  | _ => none
def loopL2 (t : Tgt) (cond : EM Bool) (ma1 : EM Arg) (t1 : Tgt) (cond1 : EM Bool) (elt : EM D) (own own1 : List Nat) : List D → List D → EnvD → Res (List D × EnvD)
  | [], acc, e => .ok (acc, e)
  | d :: ds, acc, e => match mTg t d (wipeE e own) with
    | none => .bad
    | some e1 => match cond e1 with
      | .ok (true, e2) => match ma1 e2 with
        | .ok (x, e3) => match (x.get e3).bind seq2 with
          | some ds1 => if acc.length + ds1.length ≤ 100000 then (loopL t1 cond1 elt own1 ds1 acc e3).bind fun (acc', e4) => loopL2 t cond ma1 t1 cond1 elt own own1 ds acc' e4 else .bad
          | none => .bad
        | _ => .bad
      | .ok (false, e2) => loopL2 t cond ma1 t1 cond1 elt own own1 ds acc e2
      | _ => .bad
def mLc2 (mi : EM (List D)) (t : Tgt) (cond : EM Bool) (ma1 : EM Arg) (t1 : Tgt) (cond1 : EM Bool) (elt : EM D) (own own1 : List Nat) : EM D := fun env => (mi env).bind fun (ds, e) =>
  if fzL ds = true then (loopL2 t cond ma1 t1 cond1 elt own own1 ds [] e).bind fun (l, e') => .ok (.lst true l, restE e e' own) else .bad
theorem res_assoc {α β γ : Type} (r : Res α) (f : α → Res β) (g : β → Res γ) : (r.bind f).bind g = r.bind fun x => (f x).bind g := by cases r <;> rfl
theorem wipe_sub (σ : L2.St) {own : List Nat} : ∀ vs : List Nat, (∀ i ∈ vs, i ∈ own) → wipe (wipe σ vs) own = wipe σ own
  | [], _ => rfl
  | v :: vs, h => by
    show wipe ((wipe σ vs).set v none) own = _
    rw [wipe_set (h v (by simp)), wipe_sub σ vs fun i hi => h i (by simp [hi])]
theorem wipeE_set {e : EnvD} {i : Nat} {v : Option D} : ∀ {own : List Nat}, i ∈ own → wipeE (e.set i v) own = wipeE e own
  | k :: vs, h => by
    unfold wipeE
    by_cases q : k = i
    · subst q
      by_cases hm : k ∈ vs
      · rw [wipeE_set hm]
      · have : ∀ {vs : List Nat}, k ∉ vs → wipeE (e.set k v) vs = (wipeE e vs).set k v := fun {vs} => by
          induction vs with
          | nil => intro _; rfl
          | cons u us ih =>
            intro h
            simp only [List.mem_cons, not_or] at h
            unfold wipeE
            rw [ih h.2, List.set_comm _ _ h.1]
        rw [this hm, List.set_set]
    · rw [wipeE_set (by
        rcases List.mem_cons.mp h with h | h
        · exact absurd h.symm q
        · exact h)]
theorem wipeE_sub (e : EnvD) {own : List Nat} : ∀ vs : List Nat, (∀ i ∈ vs, i ∈ own) → wipeE (wipeE e vs) own = wipeE e own
  | [], _ => rfl
  | v :: vs, h => by
    show wipeE ((wipeE e vs).set v none) own = _
    rw [wipeE_set (h v (by simp)), wipeE_sub e vs fun i hi => h i (by simp [hi])]
theorem small100k {n : Nat} (h : n < 100001) : n < sizeLine := by rw [show sizeLine = 16777216 from sizeLine_eq]; omega
section
variable {G : Gm} {W : WX} {σ : L2.St} {H : Hp} {Q : VK}
theorem lc2_w {mi : EM (List D)} {t t1 : Tgt} {cond cond1 : EM Bool} {ma1 : EM Arg} {elt : EM D} {own own1 : List Nat} (hf : Tgt.off G.io t) (hf1 : Tgt.off G.io t1) (ho : ∀ i ∈ G.io, i ∉ own) (hown : Tgt.ins own t) (hown1 : Tgt.ins own1 t1) (hsub : ∀ i ∈ own1, i ∈ own)
    (h : tE G W (mLc2 mi t cond ma1 t1 cond1 elt own own1) σ H Q) :
    tLc2 (tI G W mi) (gT G.C.K t) (tT G W0 cond) (fun σ H R => iList G.C.K (tArg G W0 ma1) σ H R ∨ iTup G.C.K (tArg G W0 ma1) σ H R) (gT G.C.K t1) (tT G W0 cond1) (tE G W0 elt) own own1 σ H Q := by
  have ho1 : ∀ i ∈ G.io, i ∉ own1 := fun i hi hm => ho i hi (hsub i hm)
  obtain ⟨a, env, rfl, rel, post⟩ := h
  refine ⟨a, env, rfl, rel, post.bind.imp fun ds e b st r p => ?_⟩
  dsimp only at p
  split at p
  · rename_i z
    refine ⟨z, fun J hJ A hA => ?_⟩
    have fA : b.F A = none := by
      cases q : b.F A with
      | none => rfl
      | some u => have := r.ok.sub A u q; rw [hA] at this; cases this
    have tA : b.t A = none := by
      cases q : b.t A with
      | none => rfl
      | some u => obtain ⟨_, u, h⟩ := r.ok.own A u q; rw [hA] at h; cases h
    let K : List D × EnvD → Res (D × EnvD) := fun (l, e') => .ok (.lst true l, restE e e' own)
    let L : List D → List D → EnvD → Res (List D × EnvD) := loopL2 t cond ma1 t1 cond1 elt own own1
    refine ⟨fun i m H => m = ds.length - i ∧ i ≤ ds.length ∧ ∃ c acc e1, c.H = H ∧ GrowL G.C b c A acc ∧ e1.length = e.length ∧ RelE G c (wipe σ own) (wipeE e1 own) ∧
      PostR G W σ b ((L (ds.drop i) acc e1).bind K) fun d _ b => ∀ v, Rep G.C b 0 [] v d → Q v b.H, ⟨_, rfl, Nat.zero_le _, putA b A (.lst []), [], e, rfl, ?_, rfl, ?_, p⟩, ?_⟩
    · refine ⟨fun x o h t => ?_, putA_ok r.ok fA, fA, tA, ⟨[], upd_same, by simp [RepL]⟩, rfl⟩
      have ne : x ≠ A := by rintro rfl; rw [hA] at h; cases h
      exact ⟨by show upd b.H A _ x = _; rw [upd_ne ne]; exact h, t, rfl⟩
    · exact putA_rel (r.wiped ho) fA tA
    · rintro i m H ⟨rfl, hi, c, acc, e1, rfl, gl, hel, rc, pc⟩
      obtain ⟨hgo, hstop⟩ := hJ c gl.ok gl.st
      by_cases hlt : i < ds.length
      · obtain ⟨d, hd⟩ : ∃ d, ds[i]? = some d := ⟨_, List.getElem?_eq_getElem hlt⟩
        obtain ⟨h1, h2⟩ := hgo i d hd
        have hdrop : ds.drop i = d :: ds.drop (i + 1) := by
          rw [List.drop_eq_getElem_cons hlt]
          rw [List.getElem?_eq_getElem hlt] at hd
          cases hd; rfl
        have pc : PostR G W σ b ((loopL2 t cond ma1 t1 cond1 elt own own1 (ds.drop i) acc e1).bind K) fun d _ b => ∀ v, Rep G.C b 0 [] v d → Q v b.H := pc
        rw [hdrop] at pc
        simp only [loopL2] at pc
        refine .inr ⟨h1, fun H' => ∃ c acc e1, c.H = H' ∧ GrowL G.C b c A acc ∧ e1.length = e.length ∧ RelE G c (wipe σ own) (wipeE e1 own) ∧
          PostR G W σ b ((L (ds.drop (i + 1)) acc e1).bind K) fun d _ b => ∀ v, Rep G.C b 0 [] v d → Q v b.H, fun H' q => ⟨ds.length - (i + 1), by omega, rfl, hlt, q⟩, fun x H' y => ?_⟩
        obtain ⟨c1, rfl, gr, ok1, rp⟩ := h2 x H' y
        cases ht : mTg t d (wipeE e1 own) with
        | none => rw [ht] at pc; exact (show False from pc).elim
        | some e2 =>
          rw [ht] at pc
          dsimp only at pc
          have gl1 := gl.next gr.step ok1
          refine gT_mono t (ins_w t hown _ x c1.H (fun σ2 H2 => H2 = c1.H ∧ RelE G c1 σ2 e2) (tg_w t hf (rc.grow gr ok1) (fzL_mem z d (List.mem_of_getElem? hd)) rp ht fun σ2 r2 => ⟨rfl, r2⟩)) fun σ2 H2 ⟨hw, hH, r2⟩ => ?_
          subst hH
          rw [wipe_wipe] at hw
          refine ⟨hw, c1, e2, rfl, r2, ?_⟩
          have hlen : ∀ {c : Wd} {e' : EnvD}, RelE G c σ2 e' → e'.length = e.length := fun {c e'} r' => by
            have := congrArg List.length hw
            rw [wipe_length, wipe_length] at this
            rw [r'.len, this, r.len]
          cases hc : cond e2 with
          | bad => rw [hc] at pc; exact (show False from pc).elim
          | exc x e3 => rw [hc] at pc; exact (show False from pc).elim
          | ok be =>
            obtain ⟨bb, e3⟩ := be
            rw [hc] at pc
            intro c2 st2 r3
            cases bb with
            | false =>
              rw [if_neg Bool.false_ne_true]
              exact ⟨c2, acc, e3, rfl, gl1.next st2 r3.ok, hlen r3, r3.rewiped hw ho, pc⟩
            | true =>
              rw [if_pos rfl]
              dsimp only at pc
              cases hm : ma1 e3 with
              | bad => rw [hm] at pc; exact (show False from pc).elim
              | exc x e4 => rw [hm] at pc; exact (show False from pc).elim
              | ok xe =>
                obtain ⟨y, e4⟩ := xe
                rw [hm] at pc
                dsimp only at pc
                cases hs : (y.get e4).bind seq2 with
                | none => rw [hs] at pc; exact (show False from pc).elim
                | some ds1 =>
                  rw [hs] at pc
                  dsimp only at pc
                  split at pc
                  · rename_i hbd
                    rw [res_assoc] at pc
                    -- the inner loop
                    have inner : ∀ (c3 : Wd) (J1 : It), Step c2 c3 → RelE G c3 σ2 e4 → fzL ds1 = true → ItF G.C c3 ds1 J1 → ∃ W1 : Nat → Nat → Hp → Prop, (∃ m, W1 0 m c3.H) ∧ ∀ j k H, W1 j k H →
                        (J1.stop j H ∧ ∃ c acc e1, c.H = H ∧ GrowL G.C b c A acc ∧ e1.length = e.length ∧ RelE G c (wipe σ own) (wipeE e1 own) ∧ PostR G W σ b ((L (ds.drop (i + 1)) acc e1).bind K) fun d _ b => ∀ v, Rep G.C b 0 [] v d → Q v b.H) ∨
                        (J1.go j H ∧ ∃ Nx1 : Hp → Prop, (∀ H', Nx1 H' → ∃ k', k' < k ∧ W1 (j + 1) k' H') ∧ ∀ x H', J1.yld j H x H' → gT G.C.K t1 x (wipe σ2 own1) H' fun σ3 H5 => wipe σ3 own1 = wipe σ2 own1 ∧ tT G W0 cond1 σ3 H5 fun b H6 =>
                          if b = true then tE G W0 elt σ3 H6 fun y H7 => ∃ acc, H7 A = some (.lst acc) ∧ acc.length < sizeLine ∧ Nx1 (upd H7 A (.lst (acc ++ [y]))) else Nx1 H6) := by
                      intro c3 J1 st3 r4 z1 hJ1
                      have gl3 := (gl1.next st2 r3.ok).next st3 r4.ok
                      refine ⟨fun j k H => k = ds1.length - j ∧ j ≤ ds1.length ∧ ∃ c' acc' e', c'.H = H ∧ GrowL G.C b c' A acc' ∧ acc'.length ≤ acc.length + j ∧ e'.length = e.length ∧ FM c3 c' ∧ RelE G c' (wipe σ2 own1) (wipeE e' own1) ∧
                        PostR G W σ b ((loopL t1 cond1 elt own1 (ds1.drop j) acc' e').bind fun x => (L (ds.drop (i + 1)) x.1 x.2).bind K) fun d _ b => ∀ v, Rep G.C b 0 [] v d → Q v b.H,
                        ⟨_, rfl, Nat.zero_le _, c3, acc, e4, rfl, gl3, Nat.le_refl _, hlen r4, fun _ _ h => h, r4.wiped ho1, pc⟩, ?_⟩
                      rintro j k H ⟨rfl, hj, c', acc', e', rfl, gl', hacc', hel', fm, rc', pc'⟩
                      obtain ⟨hgo1, hstop1⟩ := hJ1 c' gl'.ok fm
                      by_cases hlt1 : j < ds1.length
                      · obtain ⟨d1, hd1⟩ : ∃ d, ds1[j]? = some d := ⟨_, List.getElem?_eq_getElem hlt1⟩
                        obtain ⟨k1, k2⟩ := hgo1 j d1 hd1
                        have hdrop1 : ds1.drop j = d1 :: ds1.drop (j + 1) := by
                          rw [List.drop_eq_getElem_cons hlt1]
                          rw [List.getElem?_eq_getElem hlt1] at hd1
                          cases hd1; rfl
                        rw [hdrop1] at pc'
                        simp only [loopL] at pc'
                        refine .inr ⟨k1, fun H' => ∃ c' acc' e', c'.H = H' ∧ GrowL G.C b c' A acc' ∧ acc'.length ≤ acc.length + (j + 1) ∧ e'.length = e.length ∧ FM c3 c' ∧ RelE G c' (wipe σ2 own1) (wipeE e' own1) ∧
                          PostR G W σ b ((loopL t1 cond1 elt own1 (ds1.drop (j + 1)) acc' e').bind fun x => (L (ds.drop (i + 1)) x.1 x.2).bind K) fun d _ b => ∀ v, Rep G.C b 0 [] v d → Q v b.H,
                          fun H' q => ⟨ds1.length - (j + 1), by omega, rfl, hlt1, q⟩, fun x H' y => ?_⟩
                        obtain ⟨rfl, rp1⟩ := k2 x H' y
                        cases ht1 : mTg t1 d1 (wipeE e' own1) with
                        | none => rw [ht1] at pc'; exact (show False from pc').elim
                        | some e5 =>
                          rw [ht1] at pc'
                          dsimp only at pc'
                          refine gT_mono t1 (ins_w t1 hown1 _ x c'.H (fun σ3 H2 => H2 = c'.H ∧ RelE G c' σ3 e5) (tg_w t1 hf1 rc' (fzL_mem z1 d1 (List.mem_of_getElem? hd1)) rp1 ht1 fun σ3 r2 => ⟨rfl, r2⟩)) fun σ3 H2 ⟨hw1, hH, r5⟩ => ?_
                          subst hH
                          rw [wipe_wipe] at hw1
                          refine ⟨hw1, c', e5, rfl, r5, ?_⟩
                          have hlen1 : ∀ {c : Wd} {e' : EnvD}, RelE G c σ3 e' → e'.length = e.length := fun {c e'} r' => by
                            have q1 := congrArg List.length hw1
                            have q2 := congrArg List.length hw
                            rw [wipe_length, wipe_length] at q1 q2
                            rw [r'.len, q1, q2, r.len]
                          cases hc1 : cond1 e5 with
                          | bad => rw [hc1] at pc'; exact (show False from pc').elim
                          | exc x e3 => rw [hc1] at pc'; exact (show False from pc').elim
                          | ok be =>
                            obtain ⟨b1, e6⟩ := be
                            rw [hc1] at pc'
                            intro c4 st4 r6
                            have fm4 : FM c3 c4 := fun x o h => st4.f gl'.ok (fm x o h)
                            cases b1 with
                            | false =>
                              show if false = true then _ else _
                              rw [if_neg Bool.false_ne_true]
                              exact ⟨c4, acc', e6, rfl, gl'.next st4 r6.ok, by omega, hlen1 r6, fm4, r6.rewiped hw1 ho1, pc'⟩
                            | true =>
                              show if true = true then _ else _
                              rw [if_pos rfl]
                              refine ⟨c4, e6, rfl, r6, ?_⟩
                              dsimp only at pc'
                              cases he : elt e6 with
                              | bad => rw [he] at pc'; exact (show False from pc').elim
                              | exc x e4 => rw [he] at pc'; exact (show False from pc').elim
                              | ok ye =>
                                obtain ⟨yy, e7⟩ := ye
                                rw [he] at pc'
                                intro c5 st5 r7 v rv
                                have gl5 := (gl'.next st4 r6.ok).next st5 r7.ok
                                obtain ⟨vs, q1, q2⟩ := gl5.h
                                obtain ⟨zy, rq⟩ := frzQ_rep (s := 0) (q := []) r7.ok rv
                                have glf := gl5.next (frzW_step (r := 0)) (frzW_ok r7.ok)
                                have gl6 := glf.push (vs := vs) hA q1 zy rq
                                refine ⟨vs, q1, ?_, putA (frzW c5 0) A (.lst (vs ++ [v])), acc' ++ [frzQ yy], e7, rfl, gl6, ?_, hlen1 r7, ?_, ?_, pc'⟩
                                · rw [q2.len]; exact small100k (by omega)
                                · rw [List.length_append]; simp only [List.length_cons, List.length_nil]; omega
                                · intro x o h
                                  have h5 : c5.F x = some o := st5.f r6.ok (fm4 x o h)
                                  exact (frzW_step (r := 0)).f r7.ok h5
                                · exact putA_rel ((r7.rewiped hw1 ho1).frz0) glf.f glf.t
                      · have e2 : j = ds1.length := by omega
                        subst e2
                        rw [List.drop_length] at pc'
                        refine .inl ⟨hstop1, c', acc', e', rfl, gl', hel', ?_, pc'⟩
                        have := rc'.wiped ho
                        rw [wipe_sub σ2 own1 hsub, wipeE_sub e' own1 hsub, hw] at this
                        exact this
                    cases hy : y.get e4 with
                    | none => rw [hy] at hs; cases hs
                    | some dd =>
                      rw [hy] at hs
                      have hs : seq2 dd = some ds1 := hs
                      match dd, hy, hs with
                      | .lst false l, hy, hs =>
                        simp only [seq2] at hs
                        split at hs
                        · rename_i z1; cases hs
                          refine .inl ⟨c2, e3, rfl, r3, ?_⟩
                          rw [hm]
                          intro c3 st3 r4 v ar
                          obtain ⟨r1, p1⟩ := ar.rep r4 hy
                          have p1' := p1
                          simp only [Rep] at p1'
                          obtain ⟨x2, vs, rfl, hx2, hl⟩ := p1'
                          rw [if_neg Bool.false_ne_true] at hx2
                          exact ⟨x2, rfl, ⟨_, SqL.of (r4.ok.sub _ _ hx2.1)⟩, inner c3 _ st3 r4 z1 (itF_lst r4.ok z1 hx2.1 hl)⟩
                        · cases hs
                      | .tup l, hy, hs =>
                        simp only [seq2] at hs
                        split at hs
                        · rename_i z1; cases hs
                          refine .inr ⟨c2, e3, rfl, r3, ?_⟩
                          rw [hm]
                          intro c3 st3 r4 v ar
                          obtain ⟨r1, p1⟩ := ar.rep r4 hy
                          have p1' := p1
                          simp only [Rep] at p1'
                          obtain ⟨x2, vs, rfl, hx2, hl⟩ := p1'
                          exact ⟨x2, rfl, ⟨_, sqt_mono r4.ok.sub hx2.sq⟩, inner c3 _ st3 r4 z1 (itF_tup r4.ok z1 hx2.sq hl)⟩
                        · cases hs
                  · exact (show False from pc).elim
      · have e2 : i = ds.length := by omega
        subst e2
        have pc : PostR G W σ b ((loopL2 t cond ma1 t1 cond1 elt own own1 (ds.drop ds.length) acc e1).bind K) fun d _ b => ∀ v, Rep G.C b 0 [] v d → Q v b.H := pc
        rw [List.drop_length] at pc
        refine .inl ⟨hstop, ?_⟩
        obtain ⟨vs, k1, k2⟩ := gl.h
        have pc : ∀ b', Step b b' → RelE G b' σ (restE e e1 own) → ∀ v, Rep G.C b' 0 [] v (.lst true acc) → Q v b'.H := pc
        have rel' := r.unwiped rc gl.st hel
        refine pc (tagA c A) (fun x o h t => ?_) ?_ (.ref A) ?_
        · obtain ⟨g1, g2, g3⟩ := gl.st x o h t
          have ne : x ≠ A := by rintro rfl; rw [hA] at h; cases h
          exact ⟨g1, by show (if x = A then some (0, []) else c.t x) = none; rw [if_neg ne]; exact g2, g3⟩
        · exact ⟨tagA_ok gl.ok gl.f k1, rel'.len, fun i d h => let ⟨v, e, q⟩ := rel'.slot i d h; ⟨v, e, tagA_to gl.t q⟩, rel'.prm⟩
        · simp only [Rep]
          refine ⟨A, vs, rfl, ?_, ?_⟩
          · rw [if_pos trivial]
            exact ⟨by show (if A = A then some (0, []) else c.t A) = _; rw [if_pos rfl], k1⟩
          · exact repL_to (fun d j v _ h => tagA_to gl.t h) gl.z k2
  · exact (show False from p).elim
end
end Mi
namespace Mi
open PySem PySem.Spec PyProof.Rows L2
/-! ### rules: two generators -/
section
variable {X : Cx} {G : Gm} {W : WX} {lv : Nat} {e tg tg1 iter1 : Expr} {m : EM D} {ma1 : EM Arg} {mt mt1 : EM Bool} {mi : EM (List D)} {pos p : Pos} {x : Str}
theorem ri_seq2 (s : St0 X G) (ha : PE X e (tArg G W ma1)) : PI X tg e (fun σ H R => iList G.C.K (tArg G W ma1) σ H R ∨ iTup G.C.K (tArg G W ma1) σ H R) := by
  have := pi_or (tg := tg) (pi_list ha) (pi_tup ha)
  rw [s.k] at this
  exact this
theorem r_lc2 {elt : Expr} {ifs ifs1 : List Expr} {scope : Scope} (s : Go X G W lv) (own : List (Str × Nat)) (own1 : List Nat) (t t1 : Tgt) (hio : Tgt.off G.io t) (hio1 : Tgt.off G.io t1) (hio2 : ∀ i ∈ G.io, i ∉ own.map (·.2)) (hown : Tgt.ins (own.map (·.2)) t) (hown1 : Tgt.ins own1 t1) (hsub : ∀ i ∈ own1, i ∈ own.map (·.2))
    (hi : PI X tg e (tI G W mi)) (ok : BlkOk X.N X.env.scope scope own)
    (hg : ∀ (s : Shared) (H : Hp) (C : Addr) (cl : List (Str × Addr)) (fp : List Addr), PG (X.blk s H scope (compEnvC scope cl C X.env) fp) tg (gT G.C.K t))
    (ht : ∀ (s : Shared) (H : Hp) (C : Addr) (cl : List (Str × Addr)) (fp : List Addr), Go (X.blk s H scope (compEnvC scope cl C X.env) fp) G W0 lv → PTs (X.blk s H scope (compEnvC scope cl C X.env) fp) ifs (tT G W0 mt))
    (hi1 : ∀ (s : Shared) (H : Hp) (C : Addr) (cl : List (Str × Addr)) (fp : List Addr), Go (X.blk s H scope (compEnvC scope cl C X.env) fp) G W0 lv → PE (X.blk s H scope (compEnvC scope cl C X.env) fp) iter1 (tArg G W0 ma1))
    (hg1 : ∀ (s : Shared) (H : Hp) (C : Addr) (cl : List (Str × Addr)) (fp : List Addr), PG (X.blk s H scope (compEnvC scope cl C X.env) fp) tg1 (gT G.C.K t1))
    (ht1 : ∀ (s : Shared) (H : Hp) (C : Addr) (cl : List (Str × Addr)) (fp : List Addr), Go (X.blk s H scope (compEnvC scope cl C X.env) fp) G W0 lv → PTs (X.blk s H scope (compEnvC scope cl C X.env) fp) ifs1 (tT G W0 mt1))
    (he : ∀ (s : Shared) (H : Hp) (C : Addr) (cl : List (Str × Addr)) (fp : List Addr), Go (X.blk s H scope (compEnvC scope cl C X.env) fp) G W0 lv → PE (X.blk s H scope (compEnvC scope cl C X.env) fp) elt (tE G W0 m)) (hs : ∀ x, foldedSetIterable e X.env x = pure x := by intro _; rfl) (hs1 : ∀ env x, foldedSetIterable iter1 env x = pure x := by intro _ _; rfl) :
    PE X (.ListComp elt [⟨tg, e, ifs, 0⟩, ⟨tg1, iter1, ifs1, 0⟩] scope pos) (tE G W (mLc2 mi t mt ma1 t1 mt1 m (own.map (·.2)) own1)) :=
  (pe_lc2 s.cm s.n hi ok hsub hg (fun s0 H C cl fp => ht s0 H C cl fp (s.blk ..)) (fun s0 H C cl fp => ri_seq2 (s.blk ..).toSt0 (hi1 s0 H C cl fp (s.blk ..))) hg1 (fun s0 H C cl fp => ht1 s0 H C cl fp (s.blk ..)) (fun s0 H C cl fp => he s0 H C cl fp (s.blk ..)) hs hs1).weak fun _ _ _ q => lc2_w hio hio1 hio2 hown hown1 hsub q
theorem rs_lc2 {elt : Expr} {ifs ifs1 : List Expr} {scope : Scope} {py : Pos} (s : Go X G W lv) (i : Nat) (own : List (Str × Nat)) (own1 : List Nat) (t t1 : Tgt) (hioi : i ∉ G.io) (hio : Tgt.off G.io t) (hio1 : Tgt.off G.io t1) (hio2 : ∀ i ∈ G.io, i ∉ own.map (·.2)) (hown : Tgt.ins (own.map (·.2)) t) (hown1 : Tgt.ins own1 t1) (hsub : ∀ i ∈ own1, i ∈ own.map (·.2))
    (hy : X.N[i]? = some x) (hyl : X.env.scope.names.lookup x = some .local) (hsw : swapsWith (.ListComp elt [⟨tg, e, ifs, 0⟩, ⟨tg1, iter1, ifs1, 0⟩] scope p) (some (.Name x py)) pos.line X.env = pure true) (hi : PI X tg e (tI G W mi)) (ok : BlkOk X.N X.env.scope scope own)
    (hg : ∀ (s : Shared) (H : Hp) (C : Addr) (cl : List (Str × Addr)) (fp : List Addr), PG (X.blk s H scope (compEnvC scope cl C X.env) fp) tg (gT G.C.K t))
    (ht : ∀ (s : Shared) (H : Hp) (C : Addr) (cl : List (Str × Addr)) (fp : List Addr), Go (X.blk s H scope (compEnvC scope cl C X.env) fp) G W0 lv → PTs (X.blk s H scope (compEnvC scope cl C X.env) fp) ifs (tT G W0 mt))
    (hi1 : ∀ (s : Shared) (H : Hp) (C : Addr) (cl : List (Str × Addr)) (fp : List Addr), Go (X.blk s H scope (compEnvC scope cl C X.env) fp) G W0 lv → PE (X.blk s H scope (compEnvC scope cl C X.env) fp) iter1 (tArg G W0 ma1))
    (hg1 : ∀ (s : Shared) (H : Hp) (C : Addr) (cl : List (Str × Addr)) (fp : List Addr), PG (X.blk s H scope (compEnvC scope cl C X.env) fp) tg1 (gT G.C.K t1))
    (ht1 : ∀ (s : Shared) (H : Hp) (C : Addr) (cl : List (Str × Addr)) (fp : List Addr), Go (X.blk s H scope (compEnvC scope cl C X.env) fp) G W0 lv → PTs (X.blk s H scope (compEnvC scope cl C X.env) fp) ifs1 (tT G W0 mt1))
    (he : ∀ (s : Shared) (H : Hp) (C : Addr) (cl : List (Str × Addr)) (fp : List Addr), Go (X.blk s H scope (compEnvC scope cl C X.env) fp) G W0 lv → PE (X.blk s H scope (compEnvC scope cl C X.env) fp) elt (tE G W0 m)) (hs : ∀ x, foldedSetIterable e X.env x = pure x := by intro _; rfl) (hs1 : ∀ env x, foldedSetIterable iter1 env x = pure x := by intro _ _; rfl) :
    PS X (.Assign [.Name x py] (.ListComp elt [⟨tg, e, ifs, 0⟩, ⟨tg1, iter1, ifs1, 0⟩] scope p) pos) (tS G W (mAsg i (mLc2 mi t mt ma1 t1 mt1 m (own.map (·.2)) own1))) :=
  (ps_setLc2 s.cm s.n hy hyl hsw hi ok hsub hg (fun s0 H C cl fp => ht s0 H C cl fp (s.blk ..)) (fun s0 H C cl fp => ri_seq2 (s.blk ..).toSt0 (hi1 s0 H C cl fp (s.blk ..))) hg1 (fun s0 H C cl fp => ht1 s0 H C cl fp (s.blk ..)) (fun s0 H C cl fp => he s0 H C cl fp (s.blk ..)) hs hs1).weak fun D σ H q => by
    obtain ⟨a, env, h1, rel, post⟩ := asg_w hioi q
    exact lc2_w hio hio1 hio2 hown hown1 hsub ⟨a, env, h1, rel, post⟩
end
end Mi
namespace Mi
open PySem PySem.Spec PyProof.Rows L2
/-! ### more of lists: sorted of a tuple, list of a text, reverse, insert, isinstance of two types, xs[::-1] -/
section
variable {X : Cx}
theorem call_sortedTup : CallR X (.builtin "sorted") (fun xs H Q => ∃ (a : Addr) (ks : List Str), xs = [.ref a] ∧ SqT X.K H a (ks.map V.str) ∧ ks.length < 64 ∧
    ∀ ys p, ys.Perm ks → sortedS ys = true → H p = none → Q (.ref p) (upd H p (.lst (ys.map V.str)))) := by
  intro pins s σ H xs us Q I r q
  obtain ⟨a, ks, ex, hd, h64, q⟩ := q
  subst ex
  obtain ⟨u, eu, rx⟩ := vals1 r
  subst eu
  cases rx
  obtain ⟨its, rv, pl, hz⟩ := I.tuple hd
  obtain ⟨o, ho, hc, n, hdt⟩ := pl
  have hlen0 := rv.length
  rw [List.length_map] at hlen0
  refine Calls.call_function_entry PyProof.Rows.kind_sorted PyProof.Rows.plain_sorted PyProof.Rows.entry_sorted (PyProof.Rows.args_sorted1 _) ?_
  unfold Builtin.«sorted»
  refine wpAny_bind (m := checkCount "sorted" 1 1 _) (wpAny_pure ?_)
  refine wpAny_bind (wpAny_collect_seq a (.inr rfl) ho hc hdt (fun h' hk => ?_) (by rw [List.size_toArray, ← hlen0, sizeLine_eq]; omega))
  have hS : StrsAre its ks := rv.strs
  have hal : its.length = ks.length := hlen0.symm
  have I1 : Inv X pins σ H { s with heap := h' } := I.kept (t' := s.toks) hk
  rw [show its.toArray.toList = its from rfl]
  refine wpAny_bind (wpAny_newList ?_ (by rw [hal, sizeLine_eq]; omega))
  have hoL : (h'.push (seqObj "list" its.toArray 0)).get? h'.objs.size = some (seqObj "list" its.toArray 0) := Heap.get?_push_size _ rfl
  show wpAny _ _ _ _ _ { s with heap := h'.push (seqObj "list" its.toArray 0) }
  refine wpAny_bind (wpAny_holding (wpAny_call_entry PyProof.Rows.slot_list_sort ⟨_, hoL, rfl⟩ PyProof.Rows.entry_list_sort
    (PyProof.Rows.list_sort_treeK PyProof.Rows.strKind_oneLt (s := { s with heap := h'.push (seqObj "list" its.toArray 0) }) hoL hS.keysOf (fun v₁ v₂ rest e => PyProof.Rows.keyKind_strs (by rw [← e]; exact hS)) (by rw [hal]; exact h64) fun st' hp hs => ⟨_, rfl, ?_⟩)
    (PyProof.Rows.args_list_sort _)))
  obtain ⟨ys, g1, g2, g3⟩ := PyProof.Rows.sorted_out_str hS hp hs
  obtain ⟨e', he'⟩ := PyProof.Rows.sortedHeap_at (vs := its) (out := (PyProof.Rows.arrOf st').map (·.2)) hoL
  have hlen : (ys.map V.str).length ≤ sizeLine := by
    rw [List.length_map, g2.length_eq, sizeLine_eq]; omega
  refine wpAny_pure ⟨_, rfl, .ref h'.objs.size, upd H h'.objs.size (.lst (ys.map V.str)), I1.laid (t' := s.toks) (fun b u e => ?_) (Nat.le_refl _)
    (show ObjOk X.prog X.w _ _ _ (.lst (ys.map V.str)) from ⟨hlen, ((PyProof.Rows.arrOf st').map (·.2)).toList, e', vals_of_strs g1, by rw [Array.toArray_toList]; exact he'⟩), rfl, q ys _ g2 g3 (I1.hok.fresh (Nat.le_refl _))⟩
  have hb : b < h'.objs.size := Heap.lt_size e
  rw [PyProof.Rows.sortedHeap_old (Nat.ne_of_lt hb) (by rw [PyProof.Rows.size_push']; exact Nat.lt_succ_of_lt hb)]
  exact Heap.get?_push_of_some _ e
theorem vals_signs {x : Str} {acc : Array Value} (h : ItemsOf (SignAt x) acc x.cps.size) : Vals (x.cps.toList.map fun c => V.str ⟨#[c]⟩) acc.toList := by
  have gen : ∀ (l : List Nat) (m : List Value), l.length = m.length → (∀ (j : Nat) (v : Value), m[j]? = some v → ∃ (c : Nat) (u : Tok), l[j]? = some c ∧ v = Value.str ⟨#[c]⟩ u) → Vals (l.map fun c => V.str ⟨#[c]⟩) m := by
    intro l
    induction l with
    | nil => intro m hl _; cases m with
      | nil => exact .nil
      | cons _ _ => simp at hl
    | cons c l ih =>
      intro m hl hm
      cases m with
      | nil => simp at hl
      | cons v m =>
        obtain ⟨c', u, e1, e2⟩ := hm 0 v rfl
        cases e1
        rw [List.map_cons]
        refine .cons ⟨u, e2⟩ (ih m (by simpa using hl) fun j v hj => ?_)
        obtain ⟨c', u, e1, e2⟩ := hm (j + 1) v (by simpa using hj)
        exact ⟨c', u, by simpa using e1, e2⟩
  refine gen _ _ (by simp [h.1]) fun j v hj => ?_
  obtain ⟨c, u, e1, e2⟩ := h.2 j v (by simpa using hj)
  exact ⟨c, u, by simpa using e1, e2⟩
theorem call_listSt (hc : X.calm = true) : CallR X (.type "list") (fun xs H Q => ∃ z : Str, xs = [.str z] ∧ z.length ≤ 1000 ∧ ∀ p, H p = none → Q (.ref p) (upd H p (.lst (z.cps.toList.map fun c => V.str ⟨#[c]⟩)))) := by
  intro pins s σ H xs us Q I r q
  obtain ⟨z, ex, hz, q⟩ := q
  subst ex
  obtain ⟨u, eu, t, rfl⟩ := vals1 r
  subst eu
  have hz' : z.cps.size ≤ 1000 := hz
  refine PySem.call_list_str (I.ok.hd hc) z t (fun h' tk acc' c' hk ho hi => ?_) (by rw [sizeLine_eq]; omega)
  have hv := vals_signs hi
  refine ⟨.ref s.heap.objs.size, upd H s.heap.objs.size (.lst (z.cps.toList.map fun c => V.str ⟨#[c]⟩)), I.laid (t' := tk) hk (Nat.le_refl _)
    (show ObjOk X.prog X.w _ _ _ (.lst _) from ⟨by rw [List.length_map, Array.length_toList, sizeLine_eq]; omega, acc'.toList, c', hv, by rw [Array.toArray_toList]; exact ho⟩), rfl, q _ (I.hok.fresh (Nat.le_refl _))⟩
end
def sortX : List D → Option D
  | [.tup l] => match strsOf l with
    | some ys => if ys.length < 64 then some (.lst true ((sortS ys).map .str)) else none
    | none => none
  | ds => sortD ds
theorem call_sortX {X : Cx} {C : KM} (hC : C.K = X.K) : CallR X (.builtin "sorted") (cD C sortX) := by
  intro pins s σ H xs us Q I r h
  obtain ⟨a, ds, d, rfl, k, ps, hd, q⟩ := h
  match ds, hd, ps with
  | [.tup l], hd, ps =>
    simp only [sortX] at hd
    cases hl : strsOf l with
    | none => rw [hl] at hd; cases hd
    | some ys =>
      rw [hl] at hd
      dsimp only at hd
      split at hd
      · rename_i hz; cases hd
        obtain ⟨v, rfl, r1, p1⟩ := one_rep ps
        obtain ⟨y, vs, rfl, h1, h2⟩ := rep_tup k p1
        rw [strs_rep hl h2, hC] at h1
        refine call_sortedTup pins s σ a.H _ us Q I r ⟨y, ys, rfl, h1, hz, fun zs p hp hs hn => ?_⟩
        rw [sort_one hp hs]
        exact new_lst k (fzL_strs _) (repL_strs (C := C) (a := a) (r := 0) (p := []) _ 0) q p hn
      · cases hd
  | [.lst o l], hd, ps => exact call_sortD pins s σ a.H xs us Q I r ⟨a, _, d, rfl, k, ps, hd, q⟩
def listY : List D → Option D
  | [.str s] => if s.length ≤ 1000 then some (.lst true (s.cps.toList.map fun c => .str ⟨#[c]⟩)) else none
  | ds => listX ds
theorem repL_signs {C : KM} {a : Wd} {r : Nat} {p : List Nat} : ∀ (l : List Nat) (n : Nat), RepL C a r p n (l.map fun c => V.str ⟨#[c]⟩) (l.map fun c => D.str ⟨#[c]⟩)
  | [], n => by simp [RepL]
  | c :: l, n => ⟨.str ⟨#[c]⟩, l.map fun c => V.str ⟨#[c]⟩, rfl, by simp [Rep], repL_signs l (n + 1)⟩
theorem call_listY {X : Cx} {C : KM} (hC : C.K = X.K) (hc : X.calm = true) : CallR X (.type "list") (cD C listY) := by
  intro pins s σ H xs us Q I r h
  obtain ⟨a, ds, d, rfl, k, ps, hd, q⟩ := h
  match ds, hd, ps with
  | [.str z], hd, ps =>
    simp only [listY] at hd
    split at hd
    · rename_i hz; cases hd
      obtain ⟨v, rfl, r1, p1⟩ := one_rep ps
      cases rep_str p1
      exact call_listSt hc pins s σ a.H _ us Q I r ⟨z, rfl, hz, new_lst k (fzL_map _ (fun _ => by simp [fz]) _) (repL_signs (C := C) (a := a) (r := 0) (p := []) _ 0) q⟩
    · cases hd
  | [.lst o l], hd, ps => exact call_listX hC hc pins s σ a.H xs us Q I r ⟨a, _, d, rfl, k, ps, hd, q⟩
  | [.tup l], hd, ps => exact call_listX hC hc pins s σ a.H xs us Q I r ⟨a, _, d, rfl, k, ps, hd, q⟩
  | [.scr l], hd, ps => exact call_listX hC hc pins s σ a.H xs us Q I r ⟨a, _, d, rfl, k, ps, hd, q⟩
  | [.dic o l m], hd, ps => exact call_listX hC hc pins s σ a.H xs us Q I r ⟨a, _, d, rfl, k, ps, hd, q⟩
end Mi
namespace Mi
open PySem PySem.Spec PyProof.Rows L2
/-! ### reverse, insert -/
theorem repL_of {C : KM} {a : Wd} {r : Nat} {p : List Nat} : ∀ {l : List D} {n : Nat} {vs : List V}, fzL l = true → vs.length = l.length → (∀ (i : Nat) (d : D) (v : V), l[i]? = some d → vs[i]? = some v → ∃ s q, Rep C a s q v d) → RepL C a r p n vs l
  | [], n, vs, _, hl, _ => by
    have : vs = [] := List.length_eq_zero_iff.mp hl
    subst this
    simp [RepL]
  | d :: l, n, [], _, hl, _ => by simp at hl
  | d :: l, n, v :: vs, z, hl, h => by
    simp only [fzL, Bool.and_eq_true] at z
    obtain ⟨s, q, h0⟩ := h 0 d v rfl rfl
    exact ⟨v, vs, rfl, Rep.fz (a := a) (b := a) (fun _ _ h => h) d q _ v z.1 h0, repL_of z.2 (by simpa using hl) fun i d v e1 e2 => h (i + 1) d v (by simpa using e1) (by simpa using e2)⟩
theorem repL_at {C : KM} {a : Wd} {r : Nat} {p : List Nat} {l : List D} {n : Nat} {vs : List V} (h : RepL C a r p n vs l) {i : Nat} {d : D} {v : V} (e1 : l[i]? = some d) (e2 : vs[i]? = some v) : ∃ s q, Rep C a s q v d := by
  obtain ⟨w, h1, h2⟩ := h.get e1
  rw [e2] at h1; cases h1
  exact ⟨_, _, h2⟩
theorem fzL_rev {l : List D} (h : fzL l = true) : fzL l.reverse = true := fzL_all fun d hd => fzL_mem h d (List.mem_reverse.mp hd)
theorem repL_rev {C : KM} {a : Wd} {r s : Nat} {p q : List Nat} {l : List D} {n m : Nat} {vs : List V} (z : fzL l = true) (h : RepL C a r p n vs l) : RepL C a s q m vs.reverse l.reverse := by
  refine repL_of (fzL_rev z) (by rw [List.length_reverse, List.length_reverse, h.len]) fun i d v e1 e2 => ?_
  have hi : i < l.length := by have := (List.getElem?_eq_some_iff.mp e1).1; simpa using this
  have hi2 : i < vs.length := by have := (List.getElem?_eq_some_iff.mp e2).1; simpa using this
  rw [List.getElem?_reverse hi] at e1
  rw [List.getElem?_reverse hi2] at e2
  rw [h.len] at e2
  exact repL_at h e1 e2
def revF (l ds : List D) : Option (D × List D) := match ds with
  | [] => if fzL l = true then some (.non, l.reverse) else none
  | _ => none
section
variable {C : KM}
theorem met_rev : MetOk C rReverse revF := fun a x vs us l ds d l' n s p Q k hx hl ps hf q => by
  match ds, hf, ps with
  | [], hf, ps =>
    simp only [revF] at hf
    split at hf
    · rename_i z; cases hf
      cases ps
      exact ⟨x, vs, rfl, rfl, hx, q .non _ 0 0 [] (fzL_rev z) (repL_rev z hl) ⟨0, [], by simp [fz], by simp [Rep]⟩⟩
    · cases hf
theorem met_ins : MetOk C (fun x vs H Q => ∃ (l : Addr) (xs : List V) (i : Int) (y : V), x = .ref l ∧ vs = [.int i, y] ∧ H l = some (.lst xs) ∧ xs.length < sizeLine ∧ 0 ≤ i ∧ i < 2 ^ 63 ∧ Q .non (upd H l (.lst (xs.take i.toNat ++ [y] ++ xs.drop i.toNat)))) insF := fun a x vs us l ds d l' n s p Q k hx hl ps hf q => by
  match ds, hf, ps with
  | [.int i, y], hf, ps =>
    simp only [insF] at hf
    split at hf
    · rename_i z; cases hf
      obtain ⟨z1, z2, z3, z4, z5⟩ := z
      obtain ⟨v, u, rfl, ⟨r1, p1⟩, ⟨r2, p2⟩⟩ := two_rep ps
      cases rep_int p1
      have zt : fzL (l.take i.toNat ++ [y] ++ l.drop i.toNat) = true := fzL_all fun d hd => by
        rcases List.mem_append.mp hd with hd | hd
        · rcases List.mem_append.mp hd with hd | hd
          · exact fzL_mem z1 d (List.mem_of_mem_take hd)
          · rw [List.mem_singleton] at hd; subst hd; exact z2
        · exact fzL_mem z1 d (List.mem_of_mem_drop hd)
      refine ⟨x, vs, i, u, rfl, rfl, hx, by rw [hl.len, szl]; omega, z3, z4, q .non _ 0 0 [] zt (repL_of zt (by simp [hl.len]) fun j d v e1 e2 => ?_) ⟨0, [], by simp [fz], by simp [Rep]⟩⟩
      have ht : (vs.take i.toNat).length = (l.take i.toNat).length := by simp [hl.len]
      rw [List.append_assoc] at e1 e2
      by_cases h1 : j < (l.take i.toNat).length
      · rw [List.getElem?_append_left h1] at e1
        rw [List.getElem?_append_left (by omega)] at e2
        rw [List.getElem?_take] at e1 e2
        split at e1
        · rename_i h; rw [if_pos h] at e2; exact repL_at hl e1 e2
        · cases e1
      · rw [List.getElem?_append_right (by omega)] at e1
        rw [List.getElem?_append_right (by omega), ht] at e2
        generalize j - (l.take i.toNat).length = m at e1 e2
        cases m with
        | zero => cases e1; cases e2; exact ⟨_, _, p2⟩
        | succ m =>
          simp only [List.singleton_append, List.getElem?_cons_succ, List.getElem?_drop] at e1 e2
          exact repL_at hl e1 e2
    · cases hf
end
section
variable {X : Cx} {G : Gm} {W : WX} {lv : Nat} {a b e o : Expr} {es : List Expr} {ma : EM Arg} {mas : EM (List Arg)} {m : EM D} {apos cpos p : Pos} {x : Str}
theorem r_insert (s : St0 X G) (j : Nat) (hN : X.N[j]? = some x) (hv : Vis X.env.scope x) (ha : PA X [e, a] (tArgs G W mas)) (hd : (x == ("__debug__" : Str)) = false := by decide) (hcd : (x == ("__classdict__" : Str)) = false := by decide)
    (hbase : attributeBase (.Name x p) "insert" X.env (eval (.Name x p) X.env) = eval (.Name x p) X.env := by rfl) (hfew : ((backTo cpos (starEach [e, a] X.env)).all (fun x => !x.1) && (backToKw cpos (keywordEach [] X.env)).all (fun x => x.1.isSome)
      && decide ([e, a].length + ([] : List Keyword).length + (if ([] : List Keyword).isEmpty then 0 else 1) < 30)) = true := by rfl) (hline : (apos.endLine == cpos.line) = true := by rfl) (hs : starEach [e, a] X.env = (false, eval e X.env) :: starEach [a] X.env := by rfl) (hplain : (backTo cpos (starEach [a] X.env)).any (·.1) = false := by rfl) :
    PE X (.Call (.Attribute (.Name x p) "insert" apos) [e, a] [] cpos) (tE G W (mMet j mas insF)) :=
  (pe_bm PySem.F.plainAttrs_list PySem.F.slot_list_insert PySem.F.type_list_insert mt_insert (pe_var hN hv hd hcd) ha hbase hfew hline hs hplain).weak fun _ _ _ q => by
    have := met_w met_ins q
    rw [s.k]; exact this
theorem r_reverse (s : St0 X G) (j : Nat) (hN : X.N[j]? = some x) (hv : Vis X.env.scope x) (hd : (x == ("__debug__" : Str)) = false := by decide) (hcd : (x == ("__classdict__" : Str)) = false := by decide)
    (hbase : attributeBase (.Name x p) "reverse" X.env (eval (.Name x p) X.env) = eval (.Name x p) X.env := by rfl) (hline : (apos.endLine == cpos.line) = true := by rfl) :
    PE X (.Call (.Attribute (.Name x p) "reverse" apos) [] [] cpos) (tE G W (mMet j (mArgs []) revF)) :=
  (pe_bm0 PySem.F.plainAttrs_list PySem.F.slot_list_reverse PySem.F.type_list_reverse mt_reverse (pe_var hN hv hd hcd) hbase hline).weak fun σ H Q q => by
    obtain ⟨v, h1, ty, a, env, rfl, rel, post⟩ := met_w met_rev q
    refine ⟨v, h1, by rw [s.k]; exact ty, ?_⟩
    exact post a (Step.refl a) rel [] .nil
end
/-! ### xs[::-1] of a list -/
def revD : D → Option D
  | .lst _ l => if fzL l = true then some (.lst true l.reverse) else none
  | _ => none
section
variable {X : Cx} {G : Gm} {W : WX} {σ : L2.St} {H : Hp} {Q : VK} {e : Expr} {ma : EM Arg}
theorem r_revL (s : St0 X G) {k : Nat} {p1 p2 p3 pos : Pos} (ha : PE X e (tArg G W ma)) : PE X (.Subscript e (.Slice none none (some (.UnaryOp .USub (.Constant (.int 1) k p1) p2)) p3) pos) (tE G W (mUn revD ma)) :=
  (pe_revL ha).weak fun σ H Q q => by
    obtain ⟨a, env, rfl, rel, post⟩ := q
    refine tArg_of rel post fun x e b v st r ar p => ?_
    dsimp only at p
    cases hx : x.get e with
    | none => rw [hx] at p; exact (show False from p).elim
    | some d =>
      rw [hx] at p
      dsimp only at p
      obtain ⟨d', hd, k'⟩ := p.lift r
      obtain ⟨r1, p1⟩ := ar.rep r hx
      match d, hd, p1 with
      | .lst o l, hd, p1 =>
        simp only [revD] at hd
        split at hd
        · rename_i z; cases hd
          obtain ⟨y, vs, rfl, h1, h2⟩ := rep_lst r.ok p1
          exact ⟨y, vs, rfl, SqL.of h1, new_lst r.ok (fzL_rev z) (repL_rev (s := 0) (q := []) (m := 0) z h2) fun z c gr ok rp => k' c gr ok z rp⟩
        · cases hd
end
/-! ### isinstance of two types -/
def isK2 (k k2 : TyK) (d : D) : Option D := match isK k d, isK k2 d with
  | some a, some b => some (.bl (a || b))
  | _, _ => none
section
variable {X : Cx} {G : Gm} {W : WX} {σ : L2.St} {H : Hp} {Q : VK} {a : Expr} {ma : EM Arg}
theorem isi2_w {k k2 : TyK} (h : tE G W (mUn (isK2 k k2) ma) σ H Q) : tCB (rIsiT G.C.K) (tCons (tArg G W ma) (tCons (tTup (tCons (tC (.ty k.nm)) (tCons (tC (.ty k2.nm)) tNil))) tNil)) σ H Q := by
  obtain ⟨a, env, rfl, rel, post⟩ := h
  refine tArg_of rel post fun x e b v st r ar p => ?_
  dsimp only at p
  cases hx : x.get e with
  | none => rw [hx] at p; exact (show False from p).elim
  | some d =>
    rw [hx] at p
    dsimp only at p
    obtain ⟨d', hd, k'⟩ := p.lift r
    obtain ⟨r1, p1⟩ := ar.rep r hx
    unfold isK2 at hd
    cases h1 : isK k d with
    | none => rw [h1] at hd; cases hd
    | some b1 =>
      cases h2 : isK k2 d with
      | none => rw [h1, h2] at hd; cases hd
      | some b2 =>
        rw [h1, h2] at hd; cases hd
        obtain ⟨t, g1, g2⟩ := isK_kit h1
        obtain ⟨t', g3, g4⟩ := isK_kit h2
        rw [g1] at g3; cases g3
        refine ⟨by rw [szl]; show 2 ≤ _; omega, fun T hT => ?_⟩
        obtain ⟨gr, ok⟩ := grow_o (o := .tup [.ty k.nm, .ty k2.nm]) (0, []) r.ok hT
        refine ⟨v, T, [.ty k.nm, .ty k2.nm], .type t, [.type k.nm, .type k2.nm], b1 || b2, rfl, upd_same, .cons (.ty _) (.cons (.ty _) .nil), rep_ty ok g1 (p1.grow r.ok gr), ?_, k' _ gr ok _ rep_ofbl⟩
        refine kitAny_cons (kit_ty g2) (fun hb => ?_) (fun hb => by rw [hb]; rfl)
        subst hb
        exact kitAny_cons (kit_ty g4) (fun hb => by subst hb; exact kitAny_nil) (fun hb => by rw [hb]; rfl)
theorem r_isi2 (s : St0 X G) (k k2 : TyK) {tn tn2 : Str} {p pos p3 p4 p5 : Pos} {kk : Nat} (ha : PE X a (tArg G W ma)) (h1 : G.C.mg "isinstance" = none) (h2 : G.C.mg tn = none) (h3 : G.C.mg tn2 = none) (hg : Gl X "isinstance") (hgt : Gl X tn) (hgt2 : Gl X tn2) (hv : bootBuiltins tn = some (.type k.nm)) (hv2 : bootBuiltins tn2 = some (.type k2.nm)) (hv1 : bootBuiltins "isinstance" = some (.builtin "isinstance"))
    (hn : tn ≠ "__name__" := by decide) (hd : (tn == ("__debug__" : Str)) = false := by decide) (hn2 : tn2 ≠ "__name__" := by decide) (hd2 : (tn2 == ("__debug__" : Str)) = false := by decide)
    (hs : starEach [a, .Tuple [.Name tn p3, .Name tn2 p4] kk p5] X.env = (false, eval a X.env) :: starEach [.Tuple [.Name tn p3, .Name tn2 p4] kk p5] X.env := by rfl) (hs2 : starEach [.Tuple [.Name tn p3, .Name tn2 p4] kk p5] X.env = (false, eval (.Tuple [.Name tn p3, .Name tn2 p4] kk p5) X.env) :: starEach [] X.env := by rfl)
    (hpl : (backTo pos (starEach [Expr.Tuple [.Name tn p3, .Name tn2 p4] kk p5] X.env)).any (·.1) = false := by rfl) :
    PE X (.Call (.Name "isinstance" p) [a, .Tuple [.Name tn p3, .Name tn2 p4] kk p5] [] pos) (tE G W (mUn (isK2 k k2) ma)) :=
  (pe_callB call_isiT hg (by rw [s.m]; exact h1) hv1 (pa_cons ha (pa_cons (pe_tup (pa_cons (pe_bltn hgt (by rw [s.m]; exact h2) hv (show RelV (.ty k.nm) _ from rfl) hn hd) (pa_cons (pe_bltn hgt2 (by rw [s.m]; exact h3) hv2 (show RelV (.ty k2.nm) _ from rfl) hn2 hd2) pa_nil))) pa_nil hs2) hs) (by decide) (by decide) hs hpl).weak fun _ _ _ q => by
    have := isi2_w q
    rw [s.k]; exact this
end
end Mi
namespace Mi
open PySem PySem.Spec PyProof.Rows L2
/-! ### enumerate of a tuple -/
theorem meets_enumT (l : Addr) (items : Array Value) (n : Nat) (dct : Option Addr) (sl : Array (Option Value)) :
    Meets (Builtin.«enumerate.__new__» ⟨[.type "enumerate", .ref l], []⟩) (fun _ R s => s.heap.get? l = some { cls := .type "tuple", dict := dct, data := .seq items n, slots := sl } ∧
      R (.ok (.ret (.ref (s.heap.push { cls := .type "tuple_iterator", data := .fields #[.ref l, .int 0 0] }).objs.size)))
        { s with heap := (s.heap.push { cls := .type "tuple_iterator", data := .fields #[.ref l, .int 0 0] }).push { cls := .type "enumerate", data := .fields #[.none, .bool false, .ref s.heap.objs.size, rawInt 0, .none, .none] } }) :=
  .of_wp fun prog w A R s h => by
    obtain ⟨hp, g, d, tk, os⟩ := s; obtain ⟨hl, h⟩ := h
    have hsub := sub_enumerate
    have hL : Heap.IsTuple (Shared.heap ⟨hp, g, d, tk, os⟩) l items := ⟨_, hl, rfl, n, rfl⟩
    have q1 : ∀ {A' : Around} {E : Value → Shared → Prop} {Q : Value → Shared → Prop}, Q (.ref hp.objs.size) ⟨hp.push { cls := .type "tuple_iterator", data := .fields #[.ref l, .int 0 0] }, g, d, tk, os⟩ → wpAny (model prog w) A' (pyIter (.ref l)) Q E ⟨hp, g, d, tk, os⟩ :=
      fun q => (begins_tuple l items).iter prog w _ _ ⟨hp, g, d, tk, os⟩ _ hL q
    wp_walk using AutoSeq1.wpAny_loadPart' hl, q1
    refine wpAny_stack_any fun st => wpAny_pure ?_
    split
    · rename_i c _ _ _ _ _
      cases (c == Value.type "enumerate")
      · wp_walk using AutoSeq1.wpAny_loadPart' hl, q1
        exact ⟨_, rfl, h⟩
      · wp_walk using AutoSeq1.wpAny_loadPart' hl, q1
        exact ⟨_, rfl, h⟩
    · wp_walk using AutoSeq1.wpAny_loadPart' hl, q1
      exact ⟨_, rfl, h⟩
theorem call_enumT {prog : Program} {w : World} {A : Around} {E : Value → Shared → Prop} {s : Shared} {l : Addr} {items : Array Value} {Q : Value → Shared → Prop} (hL : s.heap.IsTuple l items)
    (h : ∀ h', IsEnum h' (s.heap.objs.size + 1) s.heap.objs.size 0 .none → h'.IsTupleIter s.heap.objs.size l 0 → h'.objs.size = s.heap.objs.size + 2 →
      (∀ b o, s.heap.get? b = some o → h'.get? b = some o) → Q (.ref (s.heap.objs.size + 1)) { s with heap := h' }) :
    wpAny (model prog w) A (call (.type "enumerate") [.ref l]) Q E s := by
  obtain ⟨⟨c, dct, dt, sl⟩, hl, hc, n, hd⟩ := hL
  replace hc : c = .type "tuple" := hc
  replace hd : dt = .seq items n := hd
  subst hc hd
  refine callType_new PySem.F.called_enumerate (by decide) (PySem.F.typeCall_enumerate_1 _) (PySem.F.newCall_enumerate_1 _) (fun obj => PySem.F.args_object_init_2 obj _) PySem.F.entry_enumerate_new
    (meets_enumT l items n dct sl) ⟨hl, ?_⟩
  have hz : (s.heap.push { cls := .type "tuple_iterator", data := .fields #[.ref l, .int 0 0] }).objs.size = s.heap.objs.size + 1 := Heap.size_push ..
  show _ ∧ _
  rw [hz]
  have he : IsEnum ((s.heap.push { cls := .type "tuple_iterator", data := .fields #[.ref l, .int 0 0] }).push
      { cls := .type "enumerate", data := .fields #[.none, .bool false, .ref s.heap.objs.size, rawInt 0, .none, .none] }) (s.heap.objs.size + 1) s.heap.objs.size 0 .none := by
    have := Heap.get?_push_size (s.heap.push { cls := .type "tuple_iterator", data := .fields #[.ref l, .int 0 0] })
      (o := { cls := .type "enumerate", data := .fields #[.none, .bool false, .ref s.heap.objs.size, rawInt 0, .none, .none] }) rfl
    rw [hz] at this; exact this
  refine ⟨⟨_, he, rfl⟩, h _ he ⟨_, Heap.get?_push_of_some _ (Heap.get?_push_size _ rfl), rfl, rfl⟩ (by rw [Heap.size_push, hz]) fun b o x => Heap.get?_push_of_some _ (Heap.get?_push_of_some _ x)⟩
theorem enum_doneT {prog : Program} {w : World} {A : Around} {E : Value → Shared → Prop} {s : Shared} {e it l : Addr} {i : Nat} {items : Array Value} {old : Value} {Q : Option Value → Shared → Prop} (hh : A.handled = none) (hli : l ≠ it)
    (he : IsEnum s.heap e it i old) (hit : s.heap.IsTupleIter it l i) (hl : s.heap.IsTuple l items) (hx : items[i]? = none)
    (hQ : ∀ h', Heap.ExtBut it s.heap h' → Q none { s with heap := h' }) : wpAny (model prog w) A (pyNext (.ref e)) Q E s := by
  have hT : s.TypeIs (.ref e) "enumerate" := ⟨_, he, rfl⟩
  unfold pyNext
  refine wpAny_bind (wpAny_attempt (wpAny_callSpecial?_slot (name := Str.ofString "__next__") hT PySem.F.slot_enumerate_next
    (wpAny_call_entry PySem.F.slot_enumerate_next hT PySem.F.entry_enumerate_next ?_ (PySem.F.args_enumerate_next_1 _))))
  show wpAny _ _ (field (.ref e) 2 >>= _) _ _ _
  refine wpAny_bind (wpAny_field he rfl (x := .ref it) rfl ?_)
  refine wpAny_bind (wpAny_nextOf_tuple_end hh hit hl hx fun h' x he' hx' => ?_)
  obtain ⟨o, ho, hc⟩ := hx'
  refine wpAny_bind (wpAny_isInstance (T := "StopIteration") (b := true) ⟨o, ho, hc⟩ isSubtype_stop ?_)
  exact wpAny_pure (hQ _ he')
def Itet (K : PySem.W.Frag) (a : Addr) : It :=
  ⟨fun i H => ∃ (xs : List V) (x : V), SqT K H a xs ∧ xs[i]? = some x, fun i H v H' => ∃ T x ob, v = .ref T ∧ H T = none ∧ H' = upd H T (.frz ob (.tup [.int (i : Nat), x])) ∧ ob.dict = none ∧ ob.cls = .type "tuple" ∧ ∀ xs, SqT K H a xs → xs[i]? = some x, fun i H => ∃ xs : List V, SqT K H a xs ∧ xs.length ≤ i⟩
theorem turn_enumT {P : Program} {w : World} {K : PySem.W.Frag} {elts : List Expr} {kk : Nat} {tpos : Pos} (a e it : Addr) :
    Turn P w K (.Tuple elts kk tpos) (Itet K a) [e, it] e (fun i h => (∃ old, IsEnum h e it ((i : Nat) : Int) old) ∧ h.IsTupleIter it a i ∧ e ≠ it) where
  mem := by simp
  obj := fun i h st b hb => by
    obtain ⟨⟨old, he⟩, ⟨o, ho, hc, hd⟩, _⟩ := st
    have e' : b = e ∨ b = it := by simpa using hb
    rcases e' with z | z
    · rw [z]; exact ⟨_, he, fun v q => nomatch q⟩
    · rw [z]; exact ⟨o, ho, fun v q => by rw [hd] at q; cases q⟩
  keep := fun i h h' st k => let ⟨⟨old, he⟩, hi, hne⟩ := st; ⟨⟨old, k e (by simp) _ he⟩, hi.at fun o q => k it (by simp) o q, hne⟩
  item := by
    intro X hP hw hK hc i pins s σ H E I hf st hg
    subst hP hw hK
    obtain ⟨⟨old, he⟩, hit, hne⟩ := st
    obtain ⟨xs, x, hq, hx⟩ := hg
    obtain ⟨its, rv, p, hz⟩ := I.tuple hq
    obtain ⟨u, hu, ru⟩ := rv.get hx
    have p' : s.heap.IsTuple a its.toArray := p
    have hel : e < s.heap.objs.size := Heap.lt_size he
    have hil : it < s.heap.objs.size := by obtain ⟨_, q, _⟩ := hit; exact Heap.lt_size q
    have hai : a ≠ it := by
      rintro rfl
      obtain ⟨o1, k1, k2, _⟩ := hit
      obtain ⟨o2, j1, j2, _⟩ := p'
      rw [k1] at j1; cases j1
      rw [k2] at j2; exact absurd j2 (by decide)
    have hea : e ≠ a := by
      rintro rfl
      obtain ⟨o2, j1, j2, _⟩ := p'
      have he' := he
      unfold IsEnum at he'
      rw [he'] at j1; cases j1
      have j3 : Value.type "enumerate" = Value.type "tuple" := j2
      exact absurd j3 (by decide)
    have hlt : i < its.toArray.size := by
      have := (List.getElem?_eq_some_iff.mp hu).1
      simpa using this
    refine wpAny_pyNext_enum_itemD (Draws.tuple (A := X.A.in1) (I.ok.hd hc) it a hai its.toArray) he ⟨hit, p'⟩ hlt hne (by simp [hne, hea]) fun u2 h' tk hPx ho hst' hT hsz hk => ?_
    have hu2 : u2 = u := by
      have hPx : its.toArray[i]? = some u2 := hPx
      simp only [List.getElem?_toArray] at hPx
      rw [hu] at hPx; cases hPx; rfl
    subst hu2
    refine ⟨_, rfl, wpAny_letOwnedTupleGo_enum (s := { s with heap := h', toks := tk + 1 }) ho fun h'' he' sb => ?_⟩
    have hT2 : h''.get? s.heap.objs.size = some { cls := .type "tuple", data := .seq #[.int i tk, u2] } := (sb.2 _ (Nat.ne_of_gt hel)).trans hT
    have new : ObjOk X.prog X.w (upd H s.heap.objs.size (.frz { cls := .type "tuple", data := .seq #[.int i tk, u2] } (.tup [.int (i : Nat), x]))) h'' s.heap.objs.size (.frz { cls := .type "tuple", data := .seq #[.int i tk, u2] } (.tup [.int (i : Nat), x])) :=
      ⟨hT2, by show 2 ≤ sizeLine; decide, [.int i tk, u2], .cons ⟨_, rfl⟩ (.cons ru .nil), ⟨_, hT2, rfl, _, rfl⟩⟩
    have I1 : Inv X pins σ (upd H s.heap.objs.size (.frz { cls := .type "tuple", data := .seq #[.int i tk, u2] } (.tup [.int (i : Nat), x]))) { s with heap := h'', toks := tk + 1 } :=
      I.turnedNew (ch := [e, it]) (fun b ob hb q => (sb.2 b (fun z => hb (by simp [z]))).trans (hk b ob (fun z => hb (by simp [z])) (fun z => hb (by simp [z])) q)) hf (Nat.le_refl _) new
    refine ⟨.ref s.heap.objs.size, _, I1, rfl, ⟨_, x, _, rfl, I.hok.fresh (Nat.le_refl _), rfl, rfl, rfl, fun ys hy => by rw [I.tuple_inj hy hq]; exact hx⟩, ⟨⟨u2, ?_⟩, hst'.1.at fun o q => (sb.2 it (Ne.symm hne)).trans q, hne⟩, fun b hb => ?_⟩
    · have e1 : ((i + 1 : Nat) : Int) = (i : Int) + 1 := by omega
      rw [e1]; exact he'
    · have hb' : b < s.heap.objs.size := by
        have e' : b = e ∨ b = it := by simpa using hb
        rcases e' with z | z
        · rw [z]; exact hel
        · rw [z]; exact hil
      rw [upd_ne (Nat.ne_of_lt hb')]
      exact (hf b hb).1
  done := by
    intro X hP hw hK hc i pins s σ H E I hf st hg
    subst hP hw hK
    obtain ⟨⟨old, he⟩, hit, hne⟩ := st
    obtain ⟨xs, hq, hx⟩ := hg
    obtain ⟨its, rv, p, hz⟩ := I.tuple hq
    obtain ⟨f0, f1, f2, f3, f4, f5⟩ := hf it (by simp)
    have hl := rv.length
    have p' : s.heap.IsTuple a its.toArray := p
    have hai : a ≠ it := by
      rintro rfl
      obtain ⟨o1, k1, k2, _⟩ := hit
      obtain ⟨o2, j1, j2, _⟩ := p'
      rw [k1] at j1; cases j1
      rw [k2] at j2; exact absurd j2 (by decide)
    exact enum_doneT (I.ok.hd hc) hai he hit p' (by simp; omega) fun h' eb => ⟨rfl, I.turned (t' := s.toks) (fun b o hb q => eb b o hb q) f0 f1 f3 f4 f5⟩
  self := fun A i s Q E st h => let ⟨⟨_, he⟩, _⟩ := st; wpAny_pyIter_enum he h

def iEnumT (K : PySem.W.Frag) (ta : TA) : TI := fun σ H R => ta σ H fun vs H1 => ∃ a xs, vs = [.ref a] ∧ SqT K H1 a xs ∧ R (Itet K a) H1
theorem pi_enumT {X : Cx} {e : Expr} {ta : TA} {p pos tpos : Pos} {elts : List Expr} {kk : Nat} (hg : Gl X "enumerate") (hm : X.mg "enumerate" = none) (ha : PA X [e] ta) (hs : starEach [e] X.env = [(false, eval e X.env)] := by rfl) :
    PI X (.Tuple elts kk tpos) (.Call (.Name "enumerate" p) [e] [] pos) (iEnumT X.K ta) := by
  refine ⟨fun pins s σ H R I h => ?_⟩
  refine Call_ (ld_blt I hg hm boot_enumerate (PyProof.Rows.callWith_type1 (thn (ha.run pos pins s σ H _ I h) fun us s1 ⟨vs, H1, I1, r1, q1⟩ => ?_) hs rfl))
  obtain ⟨a, xs, ex, hq, q⟩ := q1
  subst ex
  cases r1 with
  | cons r rr =>
    cases rr
    cases r
    obtain ⟨its, rv, p', hz⟩ := I1.tuple hq
    refine call_enumT (items := its.toArray) p' fun h' he hit hsz hk => wpAny_pyIter_enum he ?_
    have I2 : Inv X pins σ H1 { s1 with heap := h' } := I1.kept (t' := s1.toks) hk
    refine ⟨s1.heap.objs.size + 1, [s1.heap.objs.size + 1, s1.heap.objs.size], _, _, H1, rfl, I2, turn_enumT a (s1.heap.objs.size + 1) s1.heap.objs.size, ⟨⟨.none, he⟩, hit, Nat.succ_ne_self _⟩, fun b hb => ?_, q⟩
    have e' : b = s1.heap.objs.size + 1 ∨ b = s1.heap.objs.size := by simpa using hb
    have hle : s1.heap.objs.size ≤ b := by
      rcases e' with z | z
      · rw [z]; exact Nat.le_add_right _ _
      · rw [z]; exact Nat.le_refl _
    exact I1.fpOk hle (I1.hok.fresh hle)
def enumL (l : List D) : List D := l.zipIdx.map fun p => .tup [.int (p.2 : Nat), p.1]
def enumF : List D → Option (List D)
  | [.tup l] => if fzL l = true then some (enumL l) else none
  | _ => none
theorem enum_w {G : Gm} {W : WX} {σ : L2.St} {H : Hp} {R : It → Hp → Prop} {ma : EM (List Arg)} (h : tI G W (mIt ma enumF) σ H R) : iEnumT G.C.K (tArgs G W ma) σ H R := it_of h fun b ds vs l ok ps hf q => by
  match ds, hf with
  | [.tup l0], hf =>
    simp only [enumF] at hf
    split at hf
    · rename_i z; cases hf
      obtain ⟨v, rfl, r1, p1⟩ := one_rep ps
      have p1' := p1
      simp only [Rep] at p1'
      obtain ⟨y, vs, rfl, hy, hl⟩ := p1'
      refine ⟨y, vs, rfl, sqt_mono ok.sub hy.sq, q _ fun c okc st => ?_⟩
      have hc : SqT G.C.K c.H y vs := sqt_mono (fun y o h => okc.sub _ _ (st.f ok h)) hy.sq
      refine ⟨fun i d e => ?_, ⟨vs, hc, by rw [hl.len]; simp [enumL]⟩⟩
      unfold enumL at e
      rw [List.getElem?_map, List.getElem?_zipIdx] at e
      cases e0 : l0[i]? with
      | none => rw [e0] at e; cases e
      | some d0 =>
        rw [e0] at e
        simp only [Option.map_some, Option.some.injEq, Nat.zero_add] at e
        subst e
        obtain ⟨v, h1, h2⟩ := hl.get e0
        refine ⟨⟨vs, v, hc, h1⟩, fun x H' yl => ?_⟩
        obtain ⟨T, x', ob, rfl, hT, rfl, o1, o2, q2⟩ := yl
        have e2 := q2 vs hc
        rw [h1] at e2; cases e2
        obtain ⟨gr, ok'⟩ := grow_f (o := .frz ob (.tup [.int (i : Nat), v])) okc hT
        refine ⟨_, rfl, gr, ok', ?_⟩
        simp only [Rep]
        refine ⟨T, [.int (i : Nat), v], rfl, .inl ⟨ob, upd_same, o1, o2⟩, ?_⟩
        have z0 := fzL_mem z d0 (List.mem_of_getElem? e0)
        have h3 := h2.step (s := 0) (q := [0]) ok st z0
        exact ⟨.int (i : Nat), [v], by simp, by simp [Rep], v, [], rfl, Rep.fz (fun x o h => gr.f okc h) d0 _ _ v z0 h3, by simp [RepL]⟩
    · cases hf
theorem ri_enum {X : Cx} {G : Gm} {W : WX} {a : Expr} {mas : EM (List Arg)} {pos p tpos : Pos} {elts : List Expr} {kk : Nat} (s : St0 X G) (h1 : G.C.mg "enumerate" = none) (hg : Gl X "enumerate") (ha : PA X [a] (tArgs G W mas)) (hs : starEach [a] X.env = [(false, eval a X.env)] := by rfl) : PI X (.Tuple elts kk tpos) (.Call (.Name "enumerate" p) [a] [] pos) (tI G W (mIt mas enumF)) :=
  (pi_enumT hg (by rw [s.m]; exact h1) ha hs).weak fun _ _ _ q => by
    have := enum_w q
    rw [s.k]; exact this
end Mi
namespace Mi
open PySem PySem.Spec PyProof.Rows L2
/-! ### rows for simp and a pure law: two generators -/
def kL2 (t : Tgt) (cond : EM Bool) (ma1 : EM Arg) (t1 : Tgt) (cond1 : EM Bool) (elt : EM D) (own own1 : List Nat) : List D × EnvD → Res (D × EnvD) := fun (ds, e) => if fzL ds = true then (loopL2 t cond ma1 t1 cond1 elt own own1 ds [] e).bind (kLc2 e own) else .bad
@[simp] theorem e_lc2 {mi : EM (List D)} {t t1 : Tgt} {cond cond1 : EM Bool} {ma1 : EM Arg} {elt : EM D} {own own1 : List Nat} {env : EnvD} : mLc2 mi t cond ma1 t1 cond1 elt own own1 env = (mi env).bind (kL2 t cond ma1 t1 cond1 elt own own1) := rfl
theorem loop2_pure {k k1 : Nat} (hkk : k ≠ k1) {ma1 : EM Arg} {cond1 : EM Bool} {elt : EM D} {f : D → D → D} {p : D → D → Bool} {ds1 : List D} {e0 : EnvD} (h0 : e0.set k none = e0) (h1 : e0.set k1 none = e0) : ∀ (ds acc : List D) (e : EnvD), wipeE e [k, k1] = e0 → acc.length + ds.length * ds1.length ≤ 100000 →
    (∀ d ∈ ds, ∃ x, ma1 (e0.set k (some d)) = .ok (x, e0.set k (some d)) ∧ (x.get (e0.set k (some d))).bind seq2 = some ds1) →
    (∀ d ∈ ds, ∀ d1 ∈ ds1, cond1 ((e0.set k (some d)).set k1 (some d1)) = .ok (p d d1, (e0.set k (some d)).set k1 (some d1))) →
    (∀ d ∈ ds, ∀ d1 ∈ ds1, p d d1 = true → elt ((e0.set k (some d)).set k1 (some d1)) = .ok (f d d1, (e0.set k (some d)).set k1 (some d1))) →
    ∃ e', loopL2 (.nm k) mYes ma1 (.nm k1) cond1 elt [k, k1] [k1] ds acc e = .ok (acc ++ ds.flatMap (fun d => (ds1.filter (p d)).map fun d1 => frzQ (f d d1)), e') ∧ wipeE e' [k, k1] = e0
  | [], acc, e, he, _, _, _, _ => ⟨e, by simp [loopL2], he⟩
  | d :: ds, acc, e, he, hl, hm, hc, hf => by
    obtain ⟨x, m1, m2⟩ := hm d List.mem_cons_self
    have hs1 : (e0.set k (some d)).set k1 none = e0.set k (some d) := by rw [List.set_comm _ _ hkk, h1]
    have hlen : (d :: ds).length * ds1.length = ds1.length + ds.length * ds1.length := by rw [List.length_cons, Nat.succ_mul, Nat.add_comm]
    rw [hlen] at hl
    obtain ⟨e1, g1, g2⟩ := loop_pure (k := k1) (cond := cond1) (elt := elt) (f := f d) (p := p d) (e0 := e0.set k (some d)) hs1 ds1 acc (e0.set k (some d)) hs1 (hc d List.mem_cons_self) (hf d List.mem_cons_self)
    have w1 : wipeE e1 [k, k1] = e0 := by
      show (e1.set k1 none).set k none = e0
      rw [g2, List.set_set, h0]
    have la : (acc ++ (ds1.filter (p d)).map fun d1 => frzQ (f d d1)).length + ds.length * ds1.length ≤ 100000 := by
      have := List.length_filter_le (p d) ds1
      rw [List.length_append, List.length_map]; omega
    obtain ⟨e', j1, j2⟩ := loop2_pure hkk h0 h1 ds _ e1 w1 la (fun d hd => hm d (List.mem_cons_of_mem _ hd)) (fun d hd => hc d (List.mem_cons_of_mem _ hd)) (fun d hd => hf d (List.mem_cons_of_mem _ hd))
    refine ⟨e', ?_, j2⟩
    simp only [loopL2, he, tg_nm, e_yes, m1, m2]
    rw [if_pos (by omega), g1]
    simp only [bind_ok]
    rw [j1]
    simp
theorem lc2_pure {k k1 : Nat} (hkk : k ≠ k1) {ma1 : EM Arg} {cond1 : EM Bool} {elt : EM D} (f : D → D → D) (p : D → D → Bool) (ds1 : List D) {e : EnvD} {ds : List D} (hz : fzL ds = true) (hl : ds.length * ds1.length ≤ 100000)
    (hm : ∀ d ∈ ds, ∃ x, ma1 ((e.set k1 none).set k (some d)) = .ok (x, (e.set k1 none).set k (some d)) ∧ (x.get ((e.set k1 none).set k (some d))).bind seq2 = some ds1)
    (hc : ∀ d ∈ ds, ∀ d1 ∈ ds1, cond1 ((e.set k (some d)).set k1 (some d1)) = .ok (p d d1, (e.set k (some d)).set k1 (some d1)))
    (hf : ∀ d ∈ ds, ∀ d1 ∈ ds1, p d d1 = true → elt ((e.set k (some d)).set k1 (some d1)) = .ok (f d d1, (e.set k (some d)).set k1 (some d1))) :
    kL2 (.nm k) mYes ma1 (.nm k1) cond1 elt [k, k1] [k1] (ds, e) = .ok (.lst true (ds.flatMap (fun d => (ds1.filter (p d)).map fun d1 => frzQ (f d d1))), (e.set k1 (restV e k1)).set k (restV e k)) := by
  have a1 : ∀ d, ((e.set k1 none).set k none).set k (some d) = (e.set k1 none).set k (some d) := fun d => by rw [List.set_set]
  have a2 : ∀ d d1, (((e.set k1 none).set k none).set k (some d)).set k1 (some d1) = (e.set k (some d)).set k1 (some d1) := fun d d1 => by
    rw [List.set_set, List.set_comm _ _ hkk.symm, List.set_set]
  obtain ⟨e', j1, j2⟩ := loop2_pure (ma1 := ma1) (cond1 := cond1) (elt := elt) (f := f) (p := p) (ds1 := ds1) (e0 := (e.set k1 none).set k none) hkk (by rw [List.set_set]) (by rw [List.set_comm _ _ hkk, List.set_set]) ds [] e rfl (by simpa using hl)
    (fun d hd => by rw [a1]; exact hm d hd) (fun d hd d1 h1 => by rw [a2]; exact hc d hd d1 h1) (fun d hd d1 h1 => by rw [a2]; exact hf d hd d1 h1)
  show (if fzL ds = true then _ else _) = _
  rw [if_pos hz, j1]
  simp only [bind_ok, kLc2_ok, List.nil_append, restE]
  have j2 : (e'.set k1 none).set k none = (e.set k1 none).set k none := j2
  have r : ∀ (a : EnvD) (x y : Option D), (((a.set k1 none).set k none).set k1 x).set k y = (a.set k1 x).set k y := fun a x y => by
    rw [List.set_comm none x hkk, List.set_set, List.set_set]
  rw [← r e', j2, r e]
end Mi
namespace Mi
open PySem PySem.Spec PyProof.Rows L2
def cs_demands : List Str := ["Book"]
def cs_tables : List Str := ["Book"]
def cs_world : List Str := ["Book"]
def yes_NoFolk : List Str := ["NoFolk"]
def no_NoFolk : List Str := []
def m__law_deck : EM FlowD :=
  mRet (mLst (mArgs [mFrz (mLc (mIt1 (mFrz (mSl (mVarA 0) (mNoP) (mPart (mC (.int 63)))))) (.nm 1) (mYes) (mCB intD (mArgs [mVarA 1])) [1]), mFrz (mC (.int 0)), mFrz (mC (.int 0)), mFrz (mC (.int 0))]))
def g__law_deck : List D → Res (D × EnvD) := runD 1 2 [0] m__law_deck
def m__law_fold : EM FlowD :=
  mSeq (mAsg 1 (mCB lenD (mArgs [mVarA 0])))
  (mSeq (mFor (mIt1 (mFrz (mSl (mVarA 0) (mNoP) (mPart (mC (.int 63)))))) (.nm 2) (mAsg 1 (mBin modD (mFrz (mCB intD (mArgs [mFrz (mBin addD (mFrz (mBin addD (mFrz (mBin mulD (mVarA 1) (mFrz (mC (.int 48271))))) (mFrz (mBin mulD (mFrz (mCB intD (mArgs [mVarA 2]))) (mFrz (mC (.int 69621))))))) (mFrz (mC (.int 1))))]))) (mFrz (mC (.int 2147483647))))))
  (mRet (mBin modD (mFrz (mCB intD (mArgs [mFrz (mBin mulD (mVarA 1) (mFrz (mBin addD (mFrz (mBin fdivD (mVarA 1) (mFrz (mC (.int 1009))))) (mFrz (mC (.int 40692))))))]))) (mFrz (mC (.int 2147483399))))))
def g__law_fold : List D → Res (D × EnvD) := runD 1 3 [0] m__law_fold
def m__law_pick : EM FlowD :=
  mSeq (mSetX 0 (mC (.int 3)) (mBin addD (mFrz (mBin ixD (mVarA 0) (mFrz (mC (.int 3))))) (mFrz (mC (.int 1)))))
  (mSeq (mIfS (mTB (mBin gtD (mFrz (mBin ixD (mVarA 0) (mFrz (mC (.int 2))))) (mFrz (mC (.int 0))))) (mSeq (mAsg 2 (mBin modD (mFrz (mCB intD (mArgs [mFrz (mBin ixD (mVarA 0) (mFrz (mC (.int 2))))]))) (mVarA 1)))
  (mSeq (mSetX 0 (mC (.int 2)) (mBin fdivD (mFrz (mCB intD (mArgs [mFrz (mBin ixD (mVarA 0) (mFrz (mC (.int 2))))]))) (mVarA 1)))
  (mRet (mVarM 2 2)))) (mNext))
  (mSeq (mAsg 3 (mBin ixD (mVarA 0) (mFrz (mC (.int 0)))))
  (mSeq (mAsg 4 (mC (.int 0)))
  (mSeq (mIfS (mTB (mBin gtD (mFrz (mCB lenD (mArgs [mVarA 3]))) (mFrz (mC (.int 0))))) (mAsg 4 (mBin ixD (mVarA 3) (mFrz (mBin modD (mFrz (mCB intD (mArgs [mFrz (mBin ixD (mVarA 0) (mFrz (mC (.int 1))))]))) (mFrz (mCB lenD (mArgs [mVarA 3]))))))) (mNext))
  (mSeq (mSetX 0 (mC (.int 1)) (mBin addD (mFrz (mBin ixD (mVarA 0) (mFrz (mC (.int 1))))) (mFrz (mC (.int 1)))))
  (mSeq (mIfS (mAndT (mTB (mBin geD (mVarA 4) (mFrz (mBin powD (mFrz (mC (.int 10))) (mFrz (mC (.int 18))))))) (mTB (mBin leD (mFrz (mBin ixD (mVarA 0) (mFrz (mC (.int 1))))) (mFrz (mCB lenD (mArgs [mVarA 3])))))) (mSeq (mSetX 0 (mC (.int 2)) (mBin fdivD (mFrz (mCB intD (mArgs [mVarA 4]))) (mVarA 1)))
  (mRet (mBin modD (mFrz (mCB intD (mArgs [mVarA 4]))) (mVarA 1)))) (mNext))
  (mSeq (mAsg 5 (mBin modD (mFrz (mBin mulD (mFrz (mCB intD (mArgs [mFrz (mBin addD (mFrz (mBin addD (mVarA 4) (mFrz (mBin mulD (mFrz (mC (.int 7919))) (mFrz (mBin ixD (mVarA 0) (mFrz (mC (.int 3))))))))) (mFrz (mC (.int 1))))]))) (mFrz (mC (.int 48271))))) (mFrz (mC (.int 2147483647)))))
  (mSeq (mAsg 5 (mBin modD (mFrz (mBin mulD (mVarA 5) (mFrz (mBin addD (mFrz (mBin fdivD (mVarA 5) (mFrz (mC (.int 1009))))) (mFrz (mC (.int 69621))))))) (mFrz (mC (.int 2147483647)))))
  (mSeq (mAsg 5 (mBin modD (mFrz (mBin mulD (mVarA 5) (mFrz (mBin addD (mFrz (mBin fdivD (mVarA 5) (mFrz (mC (.int 2003))))) (mFrz (mC (.int 40692))))))) (mFrz (mC (.int 2147483399)))))
  (mRet (mBin modD (mVarA 5) (mVarA 1))))))))))))
def g__law_pick : List D → Res (D × EnvD) := runD 2 6 [0, 1] m__law_pick
def m__law_tables : EM FlowD :=
  mSeq (mAsg 2 (mDic0))
  (mSeq (mFor (mIt (mArgs [mFrz (mBin addD (mFrz (mC (.int 1))) (mFrz (mCall g__law_pick (mArgs [mVarA 0, mFrz (mC (.int 3))]))))]) rng1) (.nm 3) (mSetX 2 (mBin ixD (mFrz (mC (.str "abcdefghijklmnopqrstuvwxyz"))) (mFrz (mCall g__law_pick (mArgs [mVarA 0, mFrz (mC (.int 26))])))) (mCall g__law_pick (mArgs [mVarA 0, mFrz (mC (.int 3))]))))
  (mSeq (mAsg 4 (mCB sortX (mArgs [mFrz (mCB listY (mArgs [mVarA 2]))])))
  (mSeq (mIfS (mTru (mVarA 1)) (mSetX 2 (mBin ixD (mVarA 4) (mFrz (mCall g__law_pick (mArgs [mVarA 0, mFrz (mCB lenD (mArgs [mVarA 4]))])))) (mC (.int 3))) (mNext))
  (mRet (mCB tupleD (mArgs [mFrz (mLc (mIt1 (mFrz (mVarE 4))) (.nm 5) (mYes) (mTup (mArgs [mFrz (mVarE 5), mFrz (mBin ixD (mVarA 2) (mVarA 5))])) [5])]))))))
def g__law_tables : List D → Res (D × EnvD) := runD 2 6 [0, 1] m__law_tables
def m__law_name : EM FlowD :=
  mSeq (mAsg 1 (mC (.str "ABCDEFGHIJKLMNOPQRSTUVWXYZ")))
  (mRet (mUn (joinD "") (mFrz (mLc (mIt (mArgs [mFrz (mBin addD (mFrz (mC (.int 1))) (mFrz (mCall g__law_pick (mArgs [mVarA 0, mFrz (mC (.int 8))]))))]) rng1) (.nm 2) (mYes) (mBin ixD (mVarA 1) (mFrz (mCall g__law_pick (mArgs [mVarA 0, mFrz (mC (.int 26))])))) [2]))))
def g__law_name : List D → Res (D × EnvD) := runD 1 3 [0] m__law_name
def m__law_folk : EM FlowD :=
  mSeq (mAsg 1 (mLst (mArgs [])))
  (mSeq (mFor (mIt (mArgs [mFrz (mCall g__law_pick (mArgs [mVarA 0, mFrz (mC (.int 7))]))]) rng1) (.nm 2) (mSeq (mAsg 3 (mBin ixD (mFrz (mC (.str "0123456789"))) (mFrz (mCall g__law_pick (mArgs [mVarA 0, mFrz (mC (.int 10))])))))
  (mSeq (mIfS (mTB (mBin eqD (mFrz (mCall g__law_pick (mArgs [mVarA 0, mFrz (mC (.int 2))]))) (mFrz (mC (.int 1))))) (mAsg 3 (mCall g__law_name (mArgs [mVarA 0]))) (mNext))
  (mIfS (mTB (mBin ninD (mVarA 3) (mVarA 1))) (mDrop (mMet 1 (mArgs [mFrz (mCall g__law_pick (mArgs [mVarA 0, mFrz (mBin addD (mFrz (mCB lenD (mArgs [mVarA 1]))) (mFrz (mC (.int 1))))])), mFrz (mVarE 3)]) insF)) (mNext)))))
  (mRet (mVarM 1 1)))
def g__law_folk : List D → Res (D × EnvD) := runD 1 4 [0] m__law_folk
def m_is_integer : EM FlowD :=
  mRet (mAndV (mIsi .tInt (mVarA 0)) (mNotV (mIsi .tBool (mVarA 0))))
def g_is_integer : List D → Res (D × EnvD) := runD 1 1 [0] m_is_integer
def m_is_within : EM FlowD :=
  mRet (mAndV (mCall g_is_integer (mArgs [mVarA 0])) (mChain leD leD (mVarA 1) (mVarA 0) (mVarA 2)))
def g_is_within : List D → Res (D × EnvD) := runD 3 3 [0, 1, 2] m_is_within
def m_is_world : EM FlowD :=
  mRet (mCall g_is_within (mArgs [mVarA 0, mFrz (mC (.int 0)), mFrz (mC (.int 1000))]))
def g_is_world : List D → Res (D × EnvD) := runD 1 1 [0] m_is_world
def m_are_unlike : EM FlowD :=
  mRet (mBin eqD (mFrz (mCB lenD (mArgs [mFrz (mDc (mIt1 (mFrz (mVarE 0))) (.nm 1) (mYes) (mVarA 1) (mC (.bl true)) [1])]))) (mFrz (mCB lenD (mArgs [mVarA 0]))))
def g_are_unlike : List D → Res (D × EnvD) := runD 1 2 [0] m_are_unlike
def m_is_pair : EM FlowD :=
  mRet (mAndV (mIsi .tTup (mVarA 0)) (mBin eqD (mFrz (mCB lenD (mArgs [mVarA 0]))) (mFrz (mC (.int 2)))))
def g_is_pair : List D → Res (D × EnvD) := runD 1 1 [0] m_is_pair
def m_is_of : EM FlowD :=
  mRet (mAndV (mIsi .tStr (mVarA 0)) (mAndV (mChain leD leD (mFrz (mC (.int 1))) (mFrz (mCB lenD (mArgs [mVarA 0]))) (mFrz (mC (.int 8)))) (mCB allD (mArgs [mFrz (mLc (mIt1 (mFrz (mVarE 0))) (.nm 2) (mYes) (mBin inD (mVarA 2) (mVarA 1)) [2])]))))
def g_is_of : List D → Res (D × EnvD) := runD 2 3 [0, 1] m_is_of
def m_is_label : EM FlowD :=
  mRet (mCall g_is_of (mArgs [mVarA 0, mFrz (mC (.str "abcdefghijklmnopqrstuvwxyz"))]))
def g_is_label : List D → Res (D × EnvD) := runD 1 1 [0] m_is_label
def m_is_table : EM FlowD :=
  mRet (mAndV (mCall g_is_pair (mArgs [mVarA 0])) (mAndV (mCall g_is_label (mArgs [mFrz (mBin ixD (mVarA 0) (mFrz (mC (.int 0))))])) (mCall g_is_within (mArgs [mFrz (mBin ixD (mVarA 0) (mFrz (mC (.int 1)))), mFrz (mC (.int 0)), mFrz (mC (.int 3))]))))
def g_is_table : List D → Res (D × EnvD) := runD 1 1 [0] m_is_table
def m_are_tables : EM FlowD :=
  mSeq (mIfS (mOrT (mNotT (mTB (mIsi .tTup (mVarA 0)))) (mOrT (mNotT (mTB (mChain leD leD (mFrz (mC (.int 1))) (mFrz (mCB lenD (mArgs [mVarA 0]))) (mFrz (mC (.int 4)))))) (mNotT (mTB (mCB allD (mArgs [mFrz (mLc (mIt1 (mFrz (mVarE 0))) (.nm 1) (mYes) (mCall g_is_table (mArgs [mVarA 1])) [1])])))))) (mRet (mC (.bl false))) (mNext))
  (mSeq (mAsg 2 (mLc (mIt1 (mFrz (mVarE 0))) (.nm 1) (mYes) (mBin ixD (mVarA 1) (mFrz (mC (.int 0)))) [1]))
  (mSeq (mIfS (mOrT (mTB (mBin neD (mVarA 2) (mFrz (mCB sortX (mArgs [mVarA 2]))))) (mNotT (mTB (mCall g_are_unlike (mArgs [mVarA 2]))))) (mRet (mC (.bl false))) (mNext))
  (mRet (mBin leD (mFrz (mCB lenD (mArgs [mFrz (mLc (mIt1 (mFrz (mVarE 0))) (.nm 1) (mTB (mBin eqD (mFrz (mBin ixD (mVarA 1) (mFrz (mC (.int 1))))) (mFrz (mC (.int 3))))) (mVarE 1) [1])]))) (mFrz (mC (.int 1)))))))
def g_are_tables : List D → Res (D × EnvD) := runD 1 3 [0] m_are_tables
def m_is_term : EM FlowD :=
  mSeq (mIfS (mOrT (mNotT (mTB (mIsi .tTup (mVarA 1)))) (mOrT (mTB (mBin neD (mFrz (mCB lenD (mArgs [mVarA 1]))) (mFrz (mC (.int 3))))) (mNotT (mTB (mCall g_is_within (mArgs [mFrz (mBin ixD (mVarA 1) (mFrz (mC (.int 0)))), mFrz (mUn negD (mFrz (mC (.int 99)))), mFrz (mC (.int 99))])))))) (mRet (mC (.bl false))) (mNext))
  (mSeq (mIfS (mOrT (mTB (mBin eqD (mFrz (mBin ixD (mVarA 1) (mFrz (mC (.int 0))))) (mFrz (mC (.int 0))))) (mOrT (mNotT (mTB (mIsi .tStr (mFrz (mBin ixD (mVarA 1) (mFrz (mC (.int 1)))))))) (mOrT (mTB (mBin ninD (mFrz (mBin ixD (mVarA 1) (mFrz (mC (.int 1))))) (mVarA 0))) (mNotT (mTB (mIsi .tStr (mFrz (mBin ixD (mVarA 1) (mFrz (mC (.int 2))))))))))) (mRet (mC (.bl false))) (mNext))
  (mSeq (mIfS (mOrT (mTB (mBin neD (mFrz (mCB lenD (mArgs [mFrz (mBin ixD (mVarA 1) (mFrz (mC (.int 2))))]))) (mFrz (mBin ixD (mVarA 0) (mFrz (mBin ixD (mVarA 1) (mFrz (mC (.int 1))))))))) (mNotT (mTB (mCall g_are_unlike (mArgs [mFrz (mBin ixD (mVarA 1) (mFrz (mC (.int 2))))]))))) (mRet (mC (.bl false))) (mNext))
  (mRet (mCB allD (mArgs [mFrz (mLc (mIt1 (mFrz (mBin ixD (mVarA 1) (mFrz (mC (.int 2)))))) (.nm 2) (mYes) (mBin inD (mVarA 2) (mFrz (mC (.str "abcd")))) [2])])))))
def g_is_term : List D → Res (D × EnvD) := runD 2 3 [0, 1] m_is_term
def m_is_demand : EM FlowD :=
  mSeq (mIfS (mOrT (mNotT (mTB (mCall g_is_pair (mArgs [mVarA 1])))) (mOrT (mNotT (mTB (mIsi .tTup (mFrz (mBin ixD (mVarA 1) (mFrz (mC (.int 0)))))))) (mNotT (mTB (mChain leD leD (mFrz (mC (.int 1))) (mFrz (mCB lenD (mArgs [mFrz (mBin ixD (mVarA 1) (mFrz (mC (.int 0))))]))) (mFrz (mC (.int 8)))))))) (mRet (mC (.bl false))) (mNext))
  (mRet (mAndV (mCB allD (mArgs [mFrz (mLc (mIt1 (mFrz (mBin ixD (mVarA 1) (mFrz (mC (.int 0)))))) (.nm 2) (mYes) (mCall g_is_term (mArgs [mVarA 0, mVarA 2])) [2])])) (mCall g_is_within (mArgs [mFrz (mBin ixD (mVarA 1) (mFrz (mC (.int 1)))), mFrz (mUn negD (mFrz (mC (.int 999)))), mFrz (mC (.int 999))]))))
def g_is_demand : List D → Res (D × EnvD) := runD 2 3 [0, 1] m_is_demand
def m_Book__init : EM FlowD :=
  mSeq (mIfS (mNotT (mTB (mCall g_is_world (mArgs [mVarA 1])))) (mBad) (mNext))
  (mSeq (mIfS (mNotT (mTB (mCall g_are_tables (mArgs [mVarA 2])))) (mBad) (mNext))
  (mSeq (mIfS (mOrT (mNotT (mTB (mIsi .tTup (mVarA 3)))) (mTB (mBin gtD (mFrz (mCB lenD (mArgs [mVarA 3]))) (mFrz (mC (.int 6)))))) (mBad) (mNext))
  (mSeq (mIfS (mNotT (mTB (mCB allD (mArgs [mFrz (mLc (mIt1 (mFrz (mVarE 3))) (.nm 4) (mYes) (mCall g_is_demand (mArgs [mFrz (mCB dictD (mArgs [mVarA 2])), mVarA 4])) [4])])))) (mBad) (mNext))
  (mSeq (mFSet 0 cs_world "world" (mVarE 1))
  (mSeq (mFSet 0 cs_tables "tables" (mVarE 2))
  (mFSet 0 cs_demands "demands" (mVarE 3)))))))
def g_Book__init : List D → Res (D × EnvD) := runD 4 5 [0, 1, 2, 3] m_Book__init
def m__law_rows : EM FlowD :=
  mSeq (mAsg 2 (mLst (mArgs [mFrz (mTup (mArgs []))])))
  (mSeq (mFor (mIt (mArgs [mVarA 1]) rng1) (.nm 3) (mSeq (mAsg 4 (mLst (mArgs [])))
  (mSeq (mFor (mIt1 (mFrz (mVarE 2))) (.nm 5) (mDrop (mMet 4 (mArgs [mFrz (mLc (mIt1 (mFrz (mVarE 0))) (.nm 6) (mTB (mBin ninD (mVarA 6) (mVarA 5))) (mBin addD (mVarA 5) (mFrz (mTup (mArgs [mFrz (mVarE 6)])))) [6])]) extF)))
  (mAsg 2 (mVarE 4)))))
  (mRet (mVarM 2 2)))
def g__law_rows : List D → Res (D × EnvD) := runD 2 7 [0, 1] m__law_rows
def m__law_letters : EM FlowD :=
  mSeq (mAsg 1 (mC (.str "")))
  (mSeq (mFor (mIt1 (mFrz (mBin ixD (mVarA 0) (mFrz (mC (.int 0)))))) (.nm 2) (mAsg 1 (mBin addD (mVarA 1) (mFrz (mBin ixD (mVarA 2) (mFrz (mC (.int 2))))))))
  (mRet (mUn (joinD "") (mFrz (mLc (mIt1 (mFrz (mC (.str "abcd")))) (.nm 3) (mTB (mBin inD (mVarA 3) (mVarA 1))) (mVarE 3) [3])))))
def g__law_letters : List D → Res (D × EnvD) := runD 1 4 [0] m__law_letters
def m__law_due : EM FlowD :=
  mSeq (mAsg 2 (mLst (mArgs [])))
  (mSeq (mFor (mIt (mArgs [mFrz (mCB lenD (mArgs [mVarA 0]))]) rng1) (.nm 3) (mDrop (mMet 2 (mArgs [mFrz (mLc (mIt1 (mFrz (mCall g__law_rows (mArgs [mFrz (mCB sortX (mArgs [mVarA 1])), mFrz (mCB lenD (mArgs [mFrz (mCall g__law_letters (mArgs [mFrz (mBin ixD (mVarA 0) (mVarA 3))]))]))])))) (.nm 4) (mYes) (mTup (mArgs [mFrz (mVarE 3), mFrz (mVarE 4)])) [4])]) extF)))
  (mRet (mVarM 2 2)))
def g__law_due : List D → Res (D × EnvD) := runD 2 5 [0, 1] m__law_due
def m_arrangements : EM FlowD :=
  mSeq (mAsg 2 (mLst (mArgs [mFrz (mTup (mArgs []))])))
  (mSeq (mFor (mIt (mArgs [mVarA 1]) rng1) (.nm 3) (mAsg 2 (mLc2 (mIt1 (mFrz (mVarE 2))) (.nm 4) (mYes) (mFrz (mVarE 0)) (.nm 5) (mTB (mBin ninD (mVarA 5) (mVarA 4))) (mBin addD (mVarA 4) (mFrz (mTup (mArgs [mFrz (mVarE 5)])))) [4, 5] [5])))
  (mRet (mVarM 2 2)))
def g_arrangements : List D → Res (D × EnvD) := runD 2 6 [0, 1] m_arrangements
def m_letters_in : EM FlowD :=
  mSeq (mAsg 1 (mDic0))
  (mSeq (mFor (mIt1 (mFrz (mBin ixD (mVarA 0) (mFrz (mC (.int 0)))))) (.tp [(.nm 2), (.nm 3), (.nm 4)]) (mFor (mIt1 (mFrz (mVarE 4))) (.nm 5) (mSetX 1 (mVarE 5) (mC (.bl true)))))
  (mRet (mUn (joinD "") (mFrz (mCB sortX (mArgs [mFrz (mCB listY (mArgs [mVarA 1]))]))))))
def g_letters_in : List D → Res (D × EnvD) := runD 1 6 [0] m_letters_in
def m_instances_of : EM FlowD :=
  mSeq (mAsg 2 (mLst (mArgs [])))
  (mSeq (mFor (mIt (mArgs [mFrz (mUn (fldG cs_demands "demands") (mVarA 0))]) enumF) (.tp [(.nm 3), (.nm 4)]) (mDrop (mMet 2 (mArgs [mFrz (mLc (mIt1 (mFrz (mCall g_arrangements (mArgs [mVarA 1, mFrz (mCB lenD (mArgs [mFrz (mCall g_letters_in (mArgs [mVarA 4]))]))])))) (.nm 5) (mYes) (mTup (mArgs [mFrz (mVarE 3), mFrz (mVarE 5)])) [5])]) extF)))
  (mRet (mVarM 2 2)))
def g_instances_of : List D → Res (D × EnvD) := runD 2 6 [0, 1] m_instances_of
def m_is_listed : EM FlowD :=
  mRet (mUn (isK2 .tLst .tTup) (mVarA 0))
def g_is_listed : List D → Res (D × EnvD) := runD 1 1 [0] m_is_listed
def m_is_name : EM FlowD :=
  mRet (mCall g_is_of (mArgs [mVarA 0, mFrz (mC (.str "ABCDEFGHIJKLMNOPQRSTUVWXYZ"))]))
def g_is_name : List D → Res (D × EnvD) := runD 1 1 [0] m_is_name
def m_is_comer : EM FlowD :=
  mRet (mAndV (mIsi .tStr (mVarA 0)) (mAndV (mBin eqD (mFrz (mCB lenD (mArgs [mVarA 0]))) (mFrz (mC (.int 1)))) (mBin inD (mVarA 0) (mFrz (mC (.str "0123456789"))))))
def g_is_comer : List D → Res (D × EnvD) := runD 1 1 [0] m_is_comer
def m_is_folk : EM FlowD :=
  mRet (mOrV (mCall g_is_name (mArgs [mVarA 0])) (mCall g_is_comer (mArgs [mVarA 0])))
def g_is_folk : List D → Res (D × EnvD) := runD 1 1 [0] m_is_folk
def m_instances : EM FlowD :=
  mSeq (mIfS (mOrT (mNotT (mTB (mCall g_is_listed (mArgs [mVarA 1])))) (mOrT (mNotT (mTB (mCB allD (mArgs [mFrz (mLc (mIt1 (mFrz (mVarE 1))) (.nm 2) (mYes) (mCall g_is_folk (mArgs [mVarA 2])) [2])])))) (mNotT (mTB (mCall g_are_unlike (mArgs [mVarA 1])))))) (mExc "NoFolk") (mNext))
  (mRet (mCall g_instances_of (mArgs [mVarA 0, mFrz (mCB sortX (mArgs [mVarA 1]))])))
def g_instances : List D → Res (D × EnvD) := runD 2 3 [0, 1] m_instances
def m__law_bad : EM FlowD :=
  mSeq (mAsg 2 (mLst (mArgs [mFrz (mC (.str "10")), mFrz (mC (.str "a")), mFrz (mC (.str "")), mFrz (mC (.str "AAAAAAAAA")), mFrz (mC (.str "A1")), mFrz (mC (.str " ")), mFrz (mC .non), mFrz (mC (.bl true)), mFrz (mC (.int 0)), mFrz (mTup (mArgs [mFrz (mC (.str "A"))])), mFrz (mLst (mArgs [mFrz (mC (.str "0"))])), mFrz (mC (.str "-")), mFrz (mC (.str "Aa")), mFrz (mDic0)])))
  (mSeq (mAsg 3 (mCall g__law_pick (mArgs [mVarA 0, mFrz (mBin addD (mFrz (mCB lenD (mArgs [mVarA 1]))) (mFrz (mC (.int 1))))])))
  (mSeq (mAsg 4 (mBin addD (mFrz (mBin addD (mFrz (mSl (mVarA 1) (mNoP) (mPart (mVarE 3)))) (mFrz (mLst (mArgs [mFrz (mBin ixD (mVarA 2) (mFrz (mCall g__law_pick (mArgs [mVarA 0, mFrz (mC (.int 14))]))))]))))) (mFrz (mSl (mVarA 1) (mPart (mVarE 3)) (mNoP)))))
  (mSeq (mAsg 5 (mLst (mArgs [mFrz (mBin addD (mFrz (mBin addD (mVarA 1) (mVarA 1))) (mFrz (mLst (mArgs [mFrz (mC (.str "5")), mFrz (mC (.str "5"))])))), mFrz (mC (.str "0")), mFrz (mC (.str "")), mFrz (mC .non), mFrz (mDic0), mFrz (mC (.int 0)), mFrz (mC (.bl true)), mFrz (mDic1 (mFrz (mC (.str "0"))) (mFrz (mC (.int 1)))), mFrz (mLst (mArgs [mFrz (mVarE 1)]))])))
  (mRet (mLst (mArgs [mFrz (mVarE 4), mFrz (mCB tupleD (mArgs [mVarA 4])), mFrz (mBin ixD (mVarA 5) (mFrz (mCall g__law_pick (mArgs [mVarA 0, mFrz (mC (.int 9))]))))]))))))
def g__law_bad : List D → Res (D × EnvD) := runD 2 6 [0, 1] m__law_bad
def m__law_is_told : EM FlowD :=
  mSeq (mIfS (mOrT (mNotT (mTB (mIsi .tLst (mVarA 0)))) (mTB (mBin neD (mFrz (mCB lenD (mArgs [mVarA 0]))) (mFrz (mCB lenD (mArgs [mVarA 1])))))) (mRet (mC (.bl false))) (mNext))
  (mSeq (mFor (mIt (mArgs [mFrz (mCB lenD (mArgs [mVarA 1]))]) rng1) (.nm 2) (mIfS (mOrT (mNotT (mTB (mIsi .tTup (mFrz (mBin ixD (mVarA 0) (mVarA 2)))))) (mOrT (mTB (mBin neD (mFrz (mBin ixD (mVarA 0) (mVarA 2))) (mFrz (mBin ixD (mVarA 1) (mVarA 2))))) (mTB (mIsi .tBool (mFrz (mBin ixD (mFrz (mBin ixD (mVarA 0) (mVarA 2))) (mFrz (mC (.int 0))))))))) (mRet (mC (.bl false))) (mNext)))
  (mRet (mC (.bl true))))
def g__law_is_told : List D → Res (D × EnvD) := runD 2 3 [0, 1] m__law_is_told
def m__law_term : EM FlowD :=
  mSeq (mAsgT (.tp [(.nm 2), (.nm 3)]) (mBin ixD (mVarA 1) (mFrz (mCall g__law_pick (mArgs [mVarA 0, mFrz (mCB lenD (mArgs [mVarA 1]))])))))
  (mSeq (mAsg 4 (mLst (mArgs [mFrz (mC (.str "a")), mFrz (mC (.str "b")), mFrz (mC (.str "c")), mFrz (mC (.str "d"))])))
  (mSeq (mAsg 5 (mC (.str "")))
  (mSeq (mFor (mIt (mArgs [mVarA 3]) rng1) (.nm 6) (mAsg 5 (mBin addD (mVarA 5) (mFrz (mMet 4 (mArgs [mFrz (mCall g__law_pick (mArgs [mVarA 0, mFrz (mCB lenD (mArgs [mVarA 4]))]))]) popF)))))
  (mRet (mTup (mArgs [mFrz (mBin addD (mFrz (mC (.int 1))) (mFrz (mCall g__law_pick (mArgs [mVarA 0, mFrz (mC (.int 99))])))), mFrz (mVarE 2), mFrz (mVarE 5)]))))))
def g__law_term : List D → Res (D × EnvD) := runD 2 7 [0, 1] m__law_term
def m__law_demand : EM FlowD :=
  mSeq (mAsg 2 (mLc (mIt (mArgs [mFrz (mBin addD (mFrz (mC (.int 1))) (mFrz (mCall g__law_pick (mArgs [mVarA 0, mFrz (mC (.int 3))]))))]) rng1) (.nm 3) (mYes) (mCall g__law_term (mArgs [mVarA 0, mVarA 1])) [3]))
  (mRet (mTup (mArgs [mFrz (mCB tupleD (mArgs [mVarA 2])), mFrz (mBin subD (mFrz (mCall g__law_pick (mArgs [mVarA 0, mFrz (mC (.int 1999))]))) (mFrz (mC (.int 999))))])))
def g__law_demand : List D → Res (D × EnvD) := runD 2 4 [0, 1] m__law_demand
def m__law_refused : EM FlowD :=
  mSeq (mAsg 2 (mC (.bl false)))
  (mSeq (mTry yes_NoFolk no_NoFolk (mDrop (mCall g_instances (mArgs [mVarA 0, mVarA 1]))) (mAsg 2 (mC (.bl true))))
  (mRet (mVarM 2 2)))
def g__law_refused : List D → Res (D × EnvD) := runD 2 3 [0, 1] m__law_refused
def m_law : EM FlowD :=
  mSeq (mAsg 1 (mCall g__law_deck (mArgs [mVarA 0])))
  (mSeq (mAsg 2 (mCall g__law_fold (mArgs [mVarA 0])))
  (mSeq (mAsg 3 (mCall g__law_tables (mArgs [mVarA 1, mFrz (mBin eqD (mFrz (mBin modD (mVarA 2) (mFrz (mC (.int 8))))) (mFrz (mC (.int 1))))])))
  (mSeq (mAsg 4 (mCall g__law_folk (mArgs [mVarA 1])))
  (mSeq (mAsg 5 (mCB tupleD (mArgs [mFrz (mLc (mIt (mArgs [mFrz (mCall g__law_pick (mArgs [mVarA 1, mFrz (mC (.int 5))]))]) rng1) (.nm 6) (mYes) (mCall g__law_demand (mArgs [mVarA 1, mVarA 3])) [6])])))
  (mSeq (mIfS (mTB (mBin eqD (mFrz (mBin modD (mFrz (mBin fdivD (mVarA 2) (mFrz (mC (.int 8))))) (mFrz (mC (.int 8))))) (mFrz (mC (.int 1))))) (mSeq (mAsg 4 (mBin addD (mFrz (mCB listY (mArgs [mFrz (mC (.str "3104798265"))]))) (mFrz (mLst (mArgs [mFrz (mC (.str "QZ")), mFrz (mC (.str "A")), mFrz (mC (.str "ZZZZZZZZ"))])))))
  (mSeq (mAsg 4 (mSl (mVarA 4) (mNoP) (mPart (mBin addD (mFrz (mC (.int 7))) (mFrz (mCall g__law_pick (mArgs [mVarA 1, mFrz (mC (.int 7))])))))))
  (mAsg 5 (mCB tupleD (mArgs [mFrz (mLc (mIt1 (mFrz (mVarE 5))) (.nm 7) (mTB (mBin ltD (mFrz (mCB lenD (mArgs [mFrz (mCall g__law_letters (mArgs [mVarA 7]))]))) (mFrz (mC (.int 4))))) (mVarE 7) [7])]))))) (mNext))
  (mSeq (mAsg 8 (mMake "Book" g_Book__init (mArgs [mFrz (mBin ixD (mFrz (mLst (mArgs [mFrz (mC (.int 0)), mFrz (mC (.int 1)), mFrz (mC (.int 2)), mFrz (mC (.int 1000))]))) (mFrz (mCall g__law_pick (mArgs [mVarA 1, mFrz (mC (.int 4))])))), mVarA 3, mVarA 5])))
  (mSeq (mAsg 9 (mCall g__law_due (mArgs [mVarA 5, mVarA 4])))
  (mSeq (mAsg 10 (mCB listY (mArgs [mVarA 4])))
  (mSeq (mAsg 11 (mCall g_instances (mArgs [mVarA 8, mVarA 10])))
  (mSeq (mIfS (mOrT (mNotT (mTB (mCall g__law_is_told (mArgs [mVarA 11, mVarA 9])))) (mTB (mBin neD (mVarA 10) (mVarA 4)))) (mRet (mC (.bl false))) (mNext))
  (mSeq (mDrop (mMet 11 (mArgs []) revF))
  (mSeq (mDrop (mMet 11 (mArgs [mFrz (mTup (mArgs [mFrz (mC (.int 0)), mFrz (mTup (mArgs []))]))]) appF))
  (mSeq (mIfS (mNotT (mTB (mCall g__law_is_told (mArgs [mFrz (mCall g_instances (mArgs [mVarA 8, mFrz (mCB tupleD (mArgs [mFrz (mUn revD (mVarA 4))]))])), mVarA 9])))) (mRet (mC (.bl false))) (mNext))
  (mSeq (mFor (mIt1 (mFrz (mCall g__law_bad (mArgs [mVarA 1, mVarA 4])))) (.nm 12) (mIfS (mNotT (mTB (mCall g__law_refused (mArgs [mVarA 8, mVarA 12])))) (mRet (mC (.bl false))) (mNext)))
  (mRet (mCall g__law_is_told (mArgs [mFrz (mCall g_instances (mArgs [mVarA 8, mVarA 10])), mVarA 9])))))))))))))))))
def g_law : List D → Res (D × EnvD) := runD 1 13 [0] m_law
end Mi
namespace Mi
open PySem PySem.Spec PyProof.Rows L2
@[simp] theorem sortX_l {o : Bool} {l : List D} : sortX [.lst o l] = sortD [.lst o l] := rfl
@[simp] theorem listY_d {o : Bool} {ks ws : List D} : listY [.dic o ks ws] = listX [.dic o ks ws] := rfl
@[simp] theorem listY_g {ds : List (Key × D)} : listY [dicG ds] = listX [dicG ds] := rfl
@[simp] theorem listY_l {o : Bool} {l : List D} : listY [.lst o l] = listX [.lst o l] := rfl
def isInt : D → Bool
  | .int _ => true
  | _ => false
theorem s_is_integer {d : D} {t : String} (h : tyD d = some t) (z : fz d = true) : g_is_integer [d] = .ok (.bl (isInt d), [some d]) := by
  cases d <;> simp [tyD] at h <;> simp_all [g_is_integer, runD, ownOk, m_is_integer, isK, outsD, isInt, List.range, List.range.loop]
def dk (cells : List Int) (a b c : Int) : D := .lst true [.lst false (cells.map .int), .int a, .int b, .int c]
@[simp] theorem fzL_mapint (l : List Int) : fzL (l.map D.int) = true := fzL_ints l
@[simp] theorem fz_dk {cells a b c} : fz (dk cells a b c) = false := by simp [dk]
theorem pow_18 : powD (.int 10) (.int 18) = some (.int 1000000000000000000) := by simp [powD]
@[simp] theorem ixD_dk0 {cells a b c} : ixD (dk cells a b c) (.int 0) = some (.lst false (cells.map .int)) := by
  unfold dk; simp [ixD, atI, ixN, pick]
@[simp] theorem ixD_dk1 {cells a b c} : ixD (dk cells a b c) (.int 1) = some (.int a) := by
  unfold dk; simp [ixD, atI, ixN, pick]
@[simp] theorem ixD_dk2 {cells a b c} : ixD (dk cells a b c) (.int 2) = some (.int b) := by
  unfold dk; simp [ixD, atI, ixN, pick]
@[simp] theorem ixD_dk3 {cells a b c} : ixD (dk cells a b c) (.int 3) = some (.int c) := by
  unfold dk; simp [ixD, atI, ixN, pick]
@[simp] theorem setX_dk1 {cells a b c z} : setX (dk cells a b c) (.int 1) (.int z) = some (dk cells z b c) := by
  unfold dk; simp [setX, ixN]
@[simp] theorem setX_dk2 {cells a b c z} : setX (dk cells a b c) (.int 2) (.int z) = some (dk cells a z c) := by
  unfold dk; simp [setX, ixN]
@[simp] theorem setX_dk3 {cells a b c z} : setX (dk cells a b c) (.int 3) (.int z) = some (dk cells a b z) := by
  unfold dk; simp [setX, ixN]
theorem ixD_cells {b : Bool} {cells : List Int} {i : Int} (h : 0 ≤ i) (h2 : i < cells.length) : ∃ z, ixD (.lst b (cells.map .int)) (.int i) = some (.int z) := by
  have e : i.toNat < cells.length := by omega
  refine ⟨cells[i.toNat], ?_⟩
  simp [ixD, atI, ixN, h, h2, pick, e]
theorem deck_loop (s : D) : ∀ (l : List Int) (acc : List D) (x : Option D), ∃ y, loopL (.nm 1) mYes (mCB intD (mArgs [mVarA 1])) [1] (l.map .int) acc [some s, x] = .ok (acc ++ l.map .int, [some s, y])
  | [], acc, x => ⟨x, by simp [loopL]⟩
  | z :: l, acc, x => by
    obtain ⟨y, h⟩ := deck_loop s l (acc ++ [.int z]) (some (.int z))
    refine ⟨y, ?_⟩
    simp [loopL, mTg, wipeE] at h ⊢
    exact h
theorem cut_len (l : List Int) (lo hi : Option Int) : (cutD l lo hi).length ≤ l.length := by
  unfold cutD
  rw [List.length_take, List.length_drop]; omega
theorem s_law_deck {ns : List Int} (h : ns.length ≤ 63) : ∃ cells, g__law_deck [.scr ns] = .ok (dk cells 0 0 0, [some (.scr ns)]) := by
  refine ⟨cutD ns none (some 63), ?_⟩
  have hl := cut_len ns none (some 63)
  obtain ⟨y, hy⟩ := deck_loop (.scr ns) (cutD ns none (some 63)) [] none
  have hs : seqI [.lst false ((cutD ns none (some 63)).map D.int)] = some ((cutD ns none (some 63)).map D.int) := by simp [seqI]
  simp [g__law_deck, runD, ownOk, m__law_deck, slD, frz_lstt, sqV_ok hs, kLc_ok (fzL_mapint _) (show ((cutD ns none (some 63)).map D.int).length ≤ 1000 by rw [List.length_map]; omega), hy, restE, restV, outsD, List.range, List.range.loop, dk]
theorem mul_48 (x : Int) : mulD (.int x) (.int 48271) = some (.int (x * 48271)) := mulD_i (.inl (by decide))
theorem mul_79 (x : Int) : mulD (.int 7919) (.int x) = some (.int (7919 * x)) := mulD_i (.inr (by decide))
theorem mul_a (x : Int) : mulD (.int (x % 2147483647)) (.int (x % 2147483647 / 1009 + 69621)) = some (.int (x % 2147483647 * (x % 2147483647 / 1009 + 69621))) := mulD_i (.inr (by omega))
theorem mul_b (x : Int) : mulD (.int (x % 2147483647)) (.int (x % 2147483647 / 2003 + 40692)) = some (.int (x % 2147483647 * (x % 2147483647 / 2003 + 40692))) := mulD_i (.inr (by omega))
theorem mod_a (x : Int) : modD (.int x) (.int 2147483647) = some (.int (x % 2147483647)) := modD_i (by decide)
theorem mod_b (x : Int) : modD (.int x) (.int 2147483399) = some (.int (x % 2147483399)) := modD_i (by decide)
theorem div_a (x : Int) : fdivD (.int x) (.int 1009) = some (.int (x / 1009)) := fdivD_i (by decide) (by decide)
theorem div_b (x : Int) : fdivD (.int x) (.int 2003) = some (.int (x / 2003)) := fdivD_i (by decide) (by decide)
def rnd (z c : Int) : Int := ((z + 7919 * (c + 1) + 1) * 48271 % 2147483647 * ((z + 7919 * (c + 1) + 1) * 48271 % 2147483647 / 1009 + 69621) % 2147483647 * ((z + 7919 * (c + 1) + 1) * 48271 % 2147483647 * ((z + 7919 * (c + 1) + 1) * 48271 % 2147483647 / 1009 + 69621) % 2147483647 / 2003 + 40692)) % 2147483399
theorem s_law_pick (cells : List Int) (a b c : Int) {m : Int} (hm : 0 < m) (hm2 : m.natAbs.log2 < 9000) : ∃ r a' b' c', g__law_pick [dk cells a b c, .int m] = .ok (.int r, [some (dk cells a' b' c'), some (.int m)]) ∧ 0 ≤ r ∧ r < m := by
  by_cases hb : 0 < b
  · refine ⟨b % m, a, b / m, c + 1, ?_, Int.emod_nonneg _ (by omega), Int.emod_lt_of_pos _ hm⟩
    simp [g__law_pick, runD, ownOk, m__law_pick, hb, modD_i hm, fdivD_i hm hm2, outsD, List.range, List.range.loop]
  · have tail : ∀ x : Int, 0 ≤ x % m ∧ x % m < m := fun x => ⟨Int.emod_nonneg _ (by omega), Int.emod_lt_of_pos _ hm⟩
    by_cases h0 : 0 < cells.length
    · have h0' : (0 : Int) < cells.length := by omega
      obtain ⟨z, hz⟩ := ixD_cells (b := false) (Int.emod_nonneg a (show (cells.length : Int) ≠ 0 by omega)) (Int.emod_lt_of_pos a h0')
      by_cases h1 : 1000000000000000000 ≤ z
      · by_cases h2 : a + 1 ≤ cells.length
        · refine ⟨z % m, a + 1, z / m, c + 1, ?_, tail _⟩
          simp [g__law_pick, runD, ownOk, m__law_pick, hb, h0, hz, h1, h2, pow_18, modD_i hm, modD_i h0', fdivD_i hm hm2, outsD, List.range, List.range.loop]
        · refine ⟨rnd z c % m, a + 1, b, c + 1, ?_, tail _⟩
          · simp [rnd, g__law_pick, runD, ownOk, m__law_pick, hb, h0, hz, h1, h2, pow_18, modD_i hm, modD_i h0', fdivD_i hm hm2, outsD, List.range, List.range.loop, mul_48, mul_79, mul_a, mul_b, mod_a, mod_b, div_a, div_b]
      · refine ⟨rnd z c % m, a + 1, b, c + 1, ?_, tail _⟩
        · simp [rnd, g__law_pick, runD, ownOk, m__law_pick, hb, h0, hz, h1, pow_18, modD_i hm, modD_i h0', fdivD_i hm hm2, outsD, List.range, List.range.loop, mul_48, mul_79, mul_a, mul_b, mod_a, mod_b, div_a, div_b]
    · have h0' : cells.length = 0 := by omega
      refine ⟨rnd 0 c % m, a + 1, b, c + 1, ?_, tail _⟩
      · simp [rnd, g__law_pick, runD, ownOk, m__law_pick, hb, h0', pow_18, modD_i hm, fdivD_i hm hm2, outsD, List.range, List.range.loop, mul_48, mul_79, mul_a, mul_b, mod_a, mod_b, div_a, div_b]
end Mi
namespace Mi
open PySem PySem.Spec PyProof.Rows L2
/-! ### texts of signs -/
def one (c : Nat) : Str := ⟨#[c]⟩
def txt (l : List Nat) : Str := ⟨l.toArray⟩
theorem txt_cps (l : List Nat) : (txt l).cps.toList = l := by simp [txt]
theorem txt_len (l : List Nat) : (txt l).length = l.length := by simp [txt, Str.length]
theorem str_txt (s : Str) : s = txt s.cps.toList := by
  obtain ⟨⟨l⟩⟩ := s; rfl
theorem strsOf_ones : ∀ l : List Nat, strsOf (l.map fun c => .str (one c)) = some (l.map one)
  | [] => rfl
  | c :: l => by
    rw [List.map_cons, strsOf, strsOf_ones l]; rfl
theorem strsOf_map : ∀ l : List Str, strsOf (l.map .str) = some l
  | [] => rfl
  | c :: l => by rw [List.map_cons, strsOf, strsOf_map l]; rfl
theorem joinL_ones : ∀ l : List Nat, TL.joinL [] (l.map fun c => [c]) = l
  | [] => rfl
  | [c] => rfl
  | c :: d :: l => by
    show [c] ++ ([] ++ TL.joinL [] ((d :: l).map fun c => [c])) = _
    rw [joinL_ones (d :: l)]; rfl
theorem join_ones (l : List Nat) : Txt.join "" (l.map one) = txt l := by
  have h1 : Txt.join "" (l.map one) = Str.join "" (l.map one) := by
    have := join_plain_closes (sep := "") (l := l.map one)
    simpa using this
  rw [h1]
  apply str_ext
  rw [txt_cps]
  have := TL.tl_join "" (l.map one)
  show TL.tl (Str.join "" (l.map one)) = l
  rw [this, List.map_map]
  exact joinL_ones l
theorem sum_ones (l : List Nat) : ((l.map one).map (·.length)).sum = l.length := by
  induction l with
  | nil => rfl
  | cons c l ih => simp only [List.map_cons, List.sum_cons, ih, List.length_cons]; show 1 + l.length = _; omega
theorem joinD_ones (b : Bool) (l : List Nat) (h : l.length ≤ 1000) : joinD "" (.lst b (l.map fun c => .str (one c))) = some (.str (txt l)) := by
  simp only [joinD, strsOf_ones]
  rw [if_pos (by rw [sum_ones, List.length_map]; show l.length + l.length * 0 ≤ _; omega), join_ones]
/-! ### labels -/
def sm : Str := "abcdefghijklmnopqrstuvwxyz"
def okLab (s : Str) : Prop := 1 ≤ s.length ∧ s.length ≤ 8 ∧ ∀ c ∈ s.cps.toList, c ∈ sm.cps.toList
theorem ix_sm {r : Int} (h : 0 ≤ r) (h2 : r < 26) : ∃ c ∈ sm.cps.toList, ixD (.str sm) (.int r) = some (.str (one c)) := by
  have hl : sm.cps.toList.length = 26 := by decide +kernel
  have hs : sm.length ≤ sizeLine := by rw [szl]; show sm.cps.size ≤ _; rw [← Array.length_toList, hl]; decide
  have e : r.toNat < sm.cps.toList.length := by rw [hl]; omega
  have h3 : r < (sm.cps.toList.length : Int) := by rw [hl]; exact h2
  refine ⟨sm.cps.toList[r.toNat], List.getElem_mem e, ?_⟩
  simp only [ixD, hs, if_true, atI, ixN, h, h3, Option.bind_some, List.getElem?_eq_getElem e, Option.map_some, one]
end Mi
namespace Mi
open PySem PySem.Spec PyProof.Rows L2
/- a thing: frozen, of a type that isinstance knows -/
def okT (d : D) : Prop := fz d = true ∧ (tyD d).isSome = true
theorem s_is_int {d : D} (h : okT d) : g_is_integer [d] = .ok (.bl (isInt d), [some d]) := by
  obtain ⟨z, h⟩ := h
  cases e : tyD d with
  | none => rw [e] at h; cases h
  | some t => exact s_is_integer e z
theorem fz_int' (z : Int) : okT (.int z) := ⟨by simp, rfl⟩
def within (d : D) (lo hi : Int) : Bool := match d with
  | .int i => decide (lo ≤ i) && decide (i ≤ hi)
  | _ => false
theorem s_is_within {d : D} (h : okT d) (lo hi : Int) : g_is_within [d, .int lo, .int hi] = .ok (.bl (within d lo hi), [some d, some (.int lo), some (.int hi)]) := by
  have hz := h.1
  have hs := s_is_int h
  cases e : isInt d with
  | false =>
    have e2 : within d lo hi = false := by cases d <;> first | rfl | simp [isInt] at e
    rw [e] at hs
    simp [g_is_within, runD, ownOk, m_is_within, outsD, List.range, List.range.loop, ownVars, putBack, hz, hs, e2]
  | true =>
    cases d <;> simp [isInt] at e
    rename_i i
    simp [isInt] at hs
    by_cases h1 : lo ≤ i <;> simp [g_is_within, runD, ownOk, m_is_within, outsD, List.range, List.range.loop, ownVars, putBack, hs, within, h1]
theorem s_is_world {d : D} (h : okT d) : g_is_world [d] = .ok (.bl (within d 0 1000), [some d]) := by
  have hz := h.1
  simp [g_is_world, runD, ownOk, m_is_world, outsD, List.range, List.range.loop, ownVars, putBack, hz, s_is_within h]
/-! ### divisors -/
end Mi
namespace Mi
open PySem PySem.Spec PyProof.Rows L2
def chs (s : Str) : List D := s.cps.toList.map fun c => .str (one c)
theorem seqI_str (s : Str) : seqI [.str s] = some (chs s) := rfl
theorem fz_chs (s : Str) : fzL (chs s) = true := fzL_map _ (fun _ => by simp) _
theorem len_chs (s : Str) : (chs s).length = s.length := by simp [chs, Str.length]
theorem inD_one (c : Nat) (t : Str) : inD (.str (one c)) (.str t) = some (.bl (decide (c ∈ t.cps.toList))) := by
  simp [inD, inQ, one]
theorem lenD_s {s : Str} (h : s.length ≤ 1000) : lenD [.str s] = some (.int s.length) := by
  simp only [lenD]
  rw [if_pos (by rw [szl]; omega)]
theorem s_is_of {s t : Str} (h1 : 1 ≤ s.length) (h2 : s.length ≤ 8) (h3 : ∀ c ∈ s.cps.toList, c ∈ t.cps.toList) : g_is_of [.str s, .str t] = .ok (.bl true, [some (.str s), some (.str t)]) := by
  have hlc := lc_pure (k := 2) (elt := mBin inD (mVarA 2) (mVarA 1)) (fun _ => .bl true) (e := [some (.str s), some (.str t), none]) (ds := chs s) (fz_chs s) (by rw [len_chs]; omega) (fun d hd => by
    obtain ⟨c, hc, rfl⟩ := List.mem_map.mp hd
    simp [inD_one, h3 c hc])
  have hall : allD [.lst false ((chs s).map fun _ => .bl true)] = some (.bl true) := allD_true fun d hd => by
    obtain ⟨_, _, rfl⟩ := List.mem_map.mp hd; rfl
  have hfl : fzL ((chs s).map fun _ => D.bl true) = true := fzL_map _ (fun _ => by simp) _
  have l1 : (1 : Int) ≤ s.length := by omega
  have l2 : (s.length : Int) ≤ 8 := by omega
  simp only [frzQ_bl] at hlc
  simp [g_is_of, m_is_of, runD, ownOk, outsD, List.range, List.range.loop, isK, lenD_s (show s.length ≤ 1000 by omega), l1, l2, sqV_ok (seqI_str s), hlc, restV, frz_lstt hfl, hall]
theorem s_is_label {s : Str} (h : okLab s) : g_is_label [.str s] = .ok (.bl true, [some (.str s)]) := by
  have := s_is_of h.1 h.2.1 h.2.2
  simp only [sm] at this
  simp [g_is_label, m_is_label, runD, ownOk, outsD, List.range, List.range.loop, ownVars, putBack, this]
theorem dic_len (ds : List (Key × D)) : lenD [.dic false (ds.map fun p => unkD p.1) (ds.map (·.2))] = some (.int ds.length) := by simp
theorem frz_dicG {ds : List (Key × D)} (h : fzL (ds.map (·.2)) = true) : frzQ (dicG ds) = .dic false (ds.map fun p => unkD p.1) (ds.map (·.2)) := by
  unfold frzQ dicG
  simp [frz, frzL_fz _ h]
/- unlike texts, of a frozen list or of a text -/
theorem s_are_unlike {d : D} {l : List Str} (z : fz d = true) (hs : seqI [d] = some (l.map .str)) (hl : l.length ≤ 1000) (hn : lenD [d] = some (.int l.length)) (hu : l.Nodup) : g_are_unlike [d] = .ok (.bl true, [some d]) := by
  have hfl : fzL (l.map D.str) = true := fzL_strs l
  have hdc := dc_pure (k := 1) (ek := mVarA 1) (ev := mC (.bl true)) (fun x => match x with | .str s => .inr s | _ => .inl 0) (fun _ => .bl true) (e := [some d, none]) (ds := l.map D.str) hfl (by rw [List.length_map]; exact hl) (fun x hx => by
    obtain ⟨s, _, rfl⟩ := List.mem_map.mp hx
    exact ⟨.var 1, by simp, by simp [keyD]⟩) (fun x _ => by simp)
  have hm : mergeG ((l.map D.str).map fun x => ((match x with | .str s => Sum.inr s | _ => Sum.inl 0 : Key), frzQ (.bl true))) [] = l.map fun s => ((Sum.inr s : Key), D.bl true) := by
    rw [mergeG_new]
    · simp
    · simp only [List.map_nil, List.nil_append, List.map_map]
      unfold List.Nodup
      rw [List.pairwise_map]
      exact List.Pairwise.imp (fun h e => h (Sum.inr.inj e)) hu
  rw [hm] at hdc
  have hfz : fzL ((l.map fun s => ((Sum.inr s : Key), D.bl true)).map (·.2)) = true := by rw [List.map_map]; exact fzL_map _ (fun _ => by simp) _
  simp [g_are_unlike, m_are_unlike, runD, ownOk, outsD, List.range, List.range.loop, z, frzQ_fz, sqV_ok hs, hdc, restV, frz_dicG hfz, hn]
end Mi
namespace Mi
open PySem PySem.Spec PyProof.Rows L2
@[simp] theorem ixD_t0 {x y : D} (h : fz x = true) : ixD (.tup [x, y]) (.int 0) = some x := by simp [ixD, atI, ixN, pick, h]
@[simp] theorem ixD_t1 {x y : D} (h : fz y = true) : ixD (.tup [x, y]) (.int 1) = some y := by simp [ixD, atI, ixN, pick, h]
theorem s_is_pair {l : List D} (z : fzL l = true) : g_is_pair [.tup l] = .ok (.bl (decide ((l.length : Int) = 2)), [some (.tup l)]) := by
  simp [g_is_pair, runD, ownOk, m_is_pair, isK, outsD, List.range, List.range.loop, z]
/-! ### tables -/
def tabD (p : Str × Int) : D := .tup [.str p.1, .int p.2]
def tabsD (l : List (Str × Int)) : D := .tup (l.map tabD)
def okTab (p : Str × Int) : Prop := okLab p.1 ∧ 0 ≤ p.2 ∧ p.2 ≤ 3
theorem fz_tab (p : Str × Int) : fz (tabD p) = true := by simp [tabD]
theorem fz_tabs (l : List (Str × Int)) : fzL (l.map tabD) = true := fzL_map _ fz_tab l
def labs (l : List (Str × Int)) : List Str := l.map (·.1)
theorem labs_len (l : List (Str × Int)) : (labs l).length = l.length := List.length_map _
structure okTabs (l : List (Str × Int)) : Prop where
  n1 : 1 ≤ l.length
  n4 : l.length ≤ 4
  tab : ∀ p ∈ l, okTab p
  srt : sortS (labs l) = labs l
  nd : (labs l).Nodup
  big : (l.filter fun p => decide (p.2 = 3)).length ≤ 1
theorem s_is_table {p : Str × Int} (h : okTab p) : g_is_table [tabD p] = .ok (.bl true, [some (tabD p)]) := by
  have hp := s_is_pair (l := [.str p.1, .int p.2]) (by simp)
  have hl := s_is_label h.1
  have hw := s_is_within (fz_int' p.2) 0 3
  simp [within, h.2.1, h.2.2] at hw hp
  simp [g_is_table, m_is_table, runD, ownOk, outsD, List.range, List.range.loop, ownVars, putBack, tabD, hp, hl, hw]
theorem strOk_lab {s : Str} (h : okLab s) : PyData.strOk s = true := by
  have hs : ∀ c ∈ sm.cps.toList, c < 0x110000 := by decide +kernel
  unfold PyData.strOk
  rw [← Array.all_toList, List.all_eq_true]
  exact fun c hc => by simpa using hs c (h.2.2 c hc)
theorem okPL_strs : ∀ (l : List Str) (n : Nat), (∀ s ∈ l, PyData.strOk s = true) → okPL n (l.map .str) = true
  | [], n, _ => by simp [okPL]
  | s :: l, n, h => by
    rw [List.map_cons]
    simp only [okPL, Bool.and_eq_true]
    exact ⟨by cases n <;> simp [okP, h s List.mem_cons_self], okPL_strs l n fun x hx => h x (List.mem_cons_of_mem _ hx)⟩
theorem eqv_strs : ∀ l : List Str, PyData.eqvAll (toPL (l.map .str)) (toPL (l.map .str)) = true
  | [] => rfl
  | s :: l => by
    rw [List.map_cons]
    simp only [toPL, toP, PyData.eqvAll, PyData.eqv, eqv_strs l]
    simp
theorem neD_strs {a b : Bool} {l : List Str} (h : ∀ s ∈ l, PyData.strOk s = true) : neD (.lst a (l.map .str)) (.lst b (l.map .str)) = some (.bl false) := by
  have h1 := okPL_strs l 63 h
  simp [neD, eqQ, scalD, okP, h1, eqB, toP, PyData.eqv, eqv_strs]
theorem vE_own (i : Nat) (env : EnvD) {l : List D} (z : fzL l = true) : vE i env (some (some (.lst true l))) = .ok (.lst false l, env.set i (some (.lst false l))) := by
  simp [vE, frz, frzL_fz l z]
theorem s_are_unlikeO {l : List Str} (hl : l.length ≤ 1000) (hu : l.Nodup) : g_are_unlike [.lst true (l.map .str)] = .ok (.bl true, [some (.lst false (l.map .str))]) := by
  have hfl : fzL (l.map D.str) = true := fzL_strs l
  have h1 := s_are_unlike (d := .lst false (l.map .str)) (l := l) (by simp [hfl]) (by simp [seqI, hfl]) hl (by simp) hu
  have hs : seqI [.lst false (l.map .str)] = some (l.map .str) := by simp [seqI, hfl]
  have hv := vE_own 0 [some (.lst true (l.map .str)), none] hfl
  simp only [List.set_cons_zero] at hv
  simp [g_are_unlike, m_are_unlike, runD, ownOk, outsD, List.range, List.range.loop, hfl, frzQ_fz, sqV_ok hs] at h1 ⊢
  simp [hv, hfl, frzQ_fz, sqV_ok hs]
  exact h1
theorem s_are_tables {l : List (Str × Int)} (h : okTabs l) : g_are_tables [tabsD l] = .ok (.bl true, [some (tabsD l)]) := by
  have hf := fz_tabs l
  have hlen : (l.map tabD).length ≤ 1000 := by rw [List.length_map]; have := h.n4; omega
  have hsq : seqI [tabsD l] = some (l.map tabD) := by simp [tabsD, seqI, hf]
  have z : fz (tabsD l) = true := by simp [tabsD, hf]
  have e1 := lc_pure (k := 1) (elt := mCall g_is_table (mArgs [mVarA 1])) (fun _ => .bl true) (e := [some (tabsD l), none, none]) (ds := l.map tabD) hf hlen (fun d hd => by
    obtain ⟨p, hp, rfl⟩ := List.mem_map.mp hd
    simp [ownVars, putBack, fz_tab, s_is_table (h.tab p hp)])
  have e1' : ((l.map tabD).map fun _ => frzQ (.bl true)) = l.map fun _ => D.bl true := by rw [List.map_map]; rfl
  rw [e1'] at e1
  have hall : allD [.lst false (l.map fun _ => D.bl true)] = some (.bl true) := allD_true fun d hd => by
    obtain ⟨_, _, rfl⟩ := List.mem_map.mp hd; rfl
  have hfl : fzL (l.map fun _ => D.bl true) = true := fzL_map _ (fun _ => by simp) _
  have e2 := lc_pure (k := 1) (elt := mBin ixD (mVarA 1) (mFrz (mC (.int 0)))) (fun x => match x with | .tup (y :: _) => y | _ => .non) (e := [some (tabsD l), none, none]) (ds := l.map tabD) hf hlen (fun d hd => by
    obtain ⟨p, hp, rfl⟩ := List.mem_map.mp hd
    simp [tabD])
  have e2' : ((l.map tabD).map fun d => frzQ ((fun x => match x with | .tup (y :: _) => y | _ => .non) d)) = (labs l).map D.str := by
    unfold labs
    rw [List.map_map, List.map_map]; rfl
  rw [e2'] at e2
  have hs : ∀ s ∈ labs l, PyData.strOk s = true := fun s hs => by
    obtain ⟨p, hp, rfl⟩ := List.mem_map.mp hs
    exact strOk_lab (h.tab p hp).1
  have hfs := fzL_strs (labs l)
  have hsort : sortD [.lst true ((labs l).map .str)] = some (.lst true ((labs l).map .str)) := by
    simp only [sortD, strsOf_map]
    rw [if_pos (by rw [labs_len]; have := h.n4; omega), h.srt]
  have hsort2 : sortD [.lst false ((labs l).map .str)] = some (.lst true ((labs l).map .str)) := hsort
  have hne := neD_strs (a := true) (b := false) hs
  have hu := s_are_unlikeO (l := labs l) (by rw [labs_len]; have := h.n4; omega) h.nd
  have e3 := lc_filter (k := 1) (cond := mTB (mBin eqD (mFrz (mBin ixD (mVarA 1) (mFrz (mC (.int 1))))) (mFrz (mC (.int 3))))) (elt := mVarE 1) (fun x => x) (fun x => match x with | .tup [_, .int i] => decide (i = 3) | _ => false)
    (e := [some (tabsD l), none, some (.lst false ((labs l).map .str))]) (ds := l.map tabD) hf hlen (fun d hd => by
      obtain ⟨p, hp, rfl⟩ := List.mem_map.mp hd
      simp [tabD]) (fun d hd _ => by
      obtain ⟨p, hp, rfl⟩ := List.mem_map.mp hd
      simp [fz_tab])
  have l1 : (1 : Int) ≤ l.length := by have := h.n1; omega
  have l2 : (l.length : Int) ≤ 4 := by have := h.n4; omega
  have e3' : (((l.map tabD).filter fun x => match x with | .tup [_, .int i] => decide (i = 3) | _ => false).map fun d => frzQ d) = (l.filter fun p => decide (p.2 = 3)).map tabD := by
    rw [List.filter_map, List.map_map]
    have : (fun x => match x with | .tup [_, .int i] => decide (i = 3) | _ => false) ∘ tabD = fun p : Str × Int => decide (p.2 = 3) := rfl
    rw [this]
    exact List.map_congr_left fun p _ => frzQ_fz (fz_tab p)
  rw [e3'] at e3
  have hff := fz_tabs (l.filter fun p => decide (p.2 = 3))
  have l3 : ((l.filter fun p => decide (p.2 = 3)).length : Int) ≤ 1 := by have := h.big; omega
  have hlen2 : lenD [tabsD l] = some (.int l.length) := by simp [tabsD]
  have hk : isK .tTup (tabsD l) = some true := rfl
  simp [g_are_tables, m_are_tables, runD, ownOk, outsD, List.range, List.range.loop, ownVars, putBack, z, hk, hlen2, l1, l2, frzQ_fz, sqV_ok hsq, e1, restV, frz_lstt hfl, hall, e2, hsort, frz_lstt hfs, hne, hfs, hu, e3, frz_lstt hff, l3]
end Mi
namespace Mi
open PySem PySem.Spec PyProof.Rows L2
/-! ### the tables as a dict -/
def knG (l : List (Str × Int)) : List (Key × D) := l.map fun p => (.inr p.1, .int p.2)
def knD (l : List (Str × Int)) : D := .dic false (l.map fun p => .str p.1) (l.map fun p => .int p.2)
theorem pairs_tabs : ∀ l : List (Str × Int), pairsD (l.map tabD) = some (knG l)
  | [] => rfl
  | p :: l => by
    rw [List.map_cons]
    show (match keyD (D.str p.1), pairsD (l.map tabD) with | some x, some ds => if fz (D.int p.2) = true then some ((x, D.int p.2) :: ds) else none | _, _ => none) = _
    rw [pairs_tabs l]
    simp [keyD, knG]
theorem dict_tabs {l : List (Str × Int)} (h : (labs l).Nodup) : dictD [tabsD l] = some (dicG (knG l)) := by
  have hm : mergeG (knG l) [] = knG l := by
    rw [mergeG_new]
    · simp
    · simp only [List.map_nil, List.nil_append, knG, List.map_map]
      unfold List.Nodup labs at *
      rw [List.pairwise_map] at h ⊢
      exact List.Pairwise.imp (fun h e => h (Sum.inr.inj e)) h
  simp only [dictD, tabsD, pairs_tabs, Option.map_some, hm]
theorem frz_kn (l : List (Str × Int)) : frzQ (dicG (knG l)) = knD l := by
  rw [frz_dicG (by rw [knG, List.map_map]; exact fzL_map _ (fun _ => by simp) _)]
  simp only [knG, knD, List.map_map]
  rfl
theorem fz_kn (l : List (Str × Int)) : fz (knD l) = true := by
  have h1 : fzL (l.map fun p => D.str p.1) = true := fzL_map _ (fun _ => by simp) _
  have h2 : fzL (l.map fun p => D.int p.2) = true := fzL_map _ (fun _ => by simp) _
  simp [knD, h1, h2]
theorem getK_kn : ∀ {l : List (Str × Int)} {s : Str} {n : Int}, (labs l).Nodup → (s, n) ∈ l → getK (l.map fun p => .str p.1) (l.map fun p => .int p.2) (.inr s) = some (.int n)
  | p :: l, s, n, nd, h => by
    rw [List.map_cons, List.map_cons, getK]
    rcases List.mem_cons.mp h with e | h
    · subst e
      simp [keyD]
    · have nd' : (labs l).Nodup := (List.nodup_cons.mp nd).2
      have hn : ¬ p.1 = s := by
        rintro rfl
        exact (List.nodup_cons.mp nd).1 (List.mem_map.mpr ⟨(p.1, n), h, rfl⟩)
      rw [if_neg (by simp [keyD, hn])]
      exact getK_kn nd' h
theorem ix_kn {l : List (Str × Int)} {s : Str} {n : Int} (nd : (labs l).Nodup) (h : (s, n) ∈ l) : ixD (knD l) (.str s) = some (.int n) := by
  simp only [knD, ixD, keyD, getK_kn nd h, pick, fz_int, if_true]
theorem nin_kn {l : List (Str × Int)} {s : Str} {n : Int} (nd : (labs l).Nodup) (h : (s, n) ∈ l) : ninD (.str s) (knD l) = some (.bl false) := by
  simp only [knD, ninD, inQ, keyD, getK_kn nd h]
  rfl
/-! ### terms, demands -/
structure Trm where
  f : Int
  s : Str
  n : Int
  t : Str
def trmD (x : Trm) : D := .tup [.int x.f, .str x.s, .str x.t]
structure okTrm (l : List (Str × Int)) (x : Trm) : Prop where
  f1 : -99 ≤ x.f
  f2 : x.f ≤ 99
  f0 : x.f ≠ 0
  kn : (x.s, x.n) ∈ l
  ln : (x.t.length : Int) = x.n
  l4 : x.t.length ≤ 4
  nd : x.t.cps.toList.Nodup
  ab : ∀ c ∈ x.t.cps.toList, c ∈ ("abcd" : Str).cps.toList
theorem fz_trm (x : Trm) : fz (trmD x) = true := by simp [trmD]
theorem s_unlike_txt {t : Str} (h : t.length ≤ 1000) (nd : t.cps.toList.Nodup) : g_are_unlike [.str t] = .ok (.bl true, [some (.str t)]) := by
  refine s_are_unlike (l := t.cps.toList.map one) (by simp) ?_ (by simpa [Str.length] using h) ?_ ?_
  · rw [seqI_str, chs, List.map_map]; rfl
  · rw [lenD_s h]; simp [Str.length]
  · unfold List.Nodup
    rw [List.pairwise_map]
    refine List.Pairwise.imp (fun h e => h ?_) nd
    have := congrArg (fun s : Str => s.cps.toList) e
    simpa [one] using this
theorem ix3 {x y z : D} (hx : fz x = true) (hy : fz y = true) (hz : fz z = true) : ixD (.tup [x, y, z]) (.int 0) = some x ∧ ixD (.tup [x, y, z]) (.int 1) = some y ∧ ixD (.tup [x, y, z]) (.int 2) = some z := by
  refine ⟨?_, ?_, ?_⟩ <;> simp [ixD, atI, ixN, pick, hx, hy, hz]
theorem s_is_term {l : List (Str × Int)} {x : Trm} (nd : (labs l).Nodup) (h : okTrm l x) : g_is_term [knD l, trmD x] = .ok (.bl true, [some (knD l), some (trmD x)]) := by
  obtain ⟨i0, i1, i2⟩ := ix3 (x := .int x.f) (y := .str x.s) (z := .str x.t) (by simp) (by simp) (by simp)
  have hw := s_is_within (fz_int' x.f) (-99) 99
  have w1 := h.f1
  have w2 := h.f2
  simp [within, w1, w2] at hw
  have hk := nin_kn nd h.kn
  have hi := ix_kn nd h.kn
  have hu := s_unlike_txt (t := x.t) (by have := h.l4; omega) h.nd
  have hn := lenD_s (s := x.t) (by have := h.l4; omega)
  have hlc := lc_pure (k := 2) (elt := mBin inD (mVarA 2) (mFrz (mC (.str "abcd")))) (fun _ => .bl true) (e := [some (knD l), some (.tup [.int x.f, .str x.s, .str x.t]), none]) (ds := chs x.t) (fz_chs x.t) (by rw [len_chs]; have := h.l4; omega) (fun d hd => by
    obtain ⟨c, hc, rfl⟩ := List.mem_map.mp hd
    simp [inD_one, h.ab c hc])
  have hall : allD [.lst false ((chs x.t).map fun _ => .bl true)] = some (.bl true) := allD_true fun d hd => by
    obtain ⟨_, _, rfl⟩ := List.mem_map.mp hd; rfl
  have hfl : fzL ((chs x.t).map fun _ => D.bl true) = true := fzL_map _ (fun _ => by simp) _
  simp only [frzQ_bl] at hlc
  have f0 := h.f0
  have ln := h.ln
  have kz := fz_kn l
  simp [g_is_term, m_is_term, runD, ownOk, outsD, List.range, List.range.loop, ownVars, putBack, isK, trmD, kz, i0, i1, i2, hw, f0, hk, hi, hn, ln, hu, sqV_ok (seqI_str x.t), hlc, restV, frz_lstt hfl, hall]
end Mi
namespace Mi
open PySem PySem.Spec PyProof.Rows L2
structure Dmd where
  ts : List Trm
  k : Int
def dmdD (x : Dmd) : D := .tup [.tup (x.ts.map trmD), .int x.k]
structure okDmd (l : List (Str × Int)) (x : Dmd) : Prop where
  n1 : 1 ≤ x.ts.length
  n8 : x.ts.length ≤ 8
  tr : ∀ t ∈ x.ts, okTrm l t
  k1 : -999 ≤ x.k
  k2 : x.k ≤ 999
theorem fz_trms (l : List Trm) : fzL (l.map trmD) = true := fzL_map _ fz_trm l
theorem fz_dmd (x : Dmd) : fz (dmdD x) = true := by simp [dmdD, fz_trms]
theorem fz_dmds (l : List Dmd) : fzL (l.map dmdD) = true := fzL_map _ fz_dmd l
theorem s_is_demand {l : List (Str × Int)} {x : Dmd} (nd : (labs l).Nodup) (h : okDmd l x) : g_is_demand [knD l, dmdD x] = .ok (.bl true, [some (knD l), some (dmdD x)]) := by
  have hf := fz_trms x.ts
  have hlen : (x.ts.map trmD).length ≤ 1000 := by rw [List.length_map]; have := h.n8; omega
  have kz := fz_kn l
  have z : fz (dmdD x) = true := fz_dmd x
  have hp : g_is_pair [dmdD x] = .ok (.bl true, [some (dmdD x)]) := s_is_pair (l := [.tup (x.ts.map trmD), .int x.k]) (by simp [hf])
  have i0 : ixD (dmdD x) (.int 0) = some (.tup (x.ts.map trmD)) := ixD_t0 (by simp [hf])
  have i1 : ixD (dmdD x) (.int 1) = some (.int x.k) := ixD_t1 (by simp)
  have hw := s_is_within (fz_int' x.k) (-999) 999
  have w1 := h.k1
  have w2 := h.k2
  simp [within, w1, w2] at hw
  have l1 : (1 : Int) ≤ x.ts.length := by have := h.n1; omega
  have l2 : (x.ts.length : Int) ≤ 8 := by have := h.n8; omega
  have hsq : seqI [.tup (x.ts.map trmD)] = some (x.ts.map trmD) := by simp [seqI, hf]
  have e1 := lc_pure (k := 2) (elt := mCall g_is_term (mArgs [mVarA 0, mVarA 2])) (fun _ => .bl true) (e := [some (knD l), some (dmdD x), none]) (ds := x.ts.map trmD) hf hlen (fun d hd => by
    obtain ⟨p, hp, rfl⟩ := List.mem_map.mp hd
    simp [ownVars, putBack, fz_trm, kz, s_is_term nd (h.tr p hp)])
  have e1' : ((x.ts.map trmD).map fun _ => frzQ (.bl true)) = x.ts.map fun _ => D.bl true := by rw [List.map_map]; rfl
  rw [e1'] at e1
  have hall : allD [.lst false (x.ts.map fun _ => D.bl true)] = some (.bl true) := allD_true fun d hd => by
    obtain ⟨_, _, rfl⟩ := List.mem_map.mp hd; rfl
  have hfl : fzL (x.ts.map fun _ => D.bl true) = true := fzL_map _ (fun _ => by simp) _
  have hk : isK .tTup (.tup (x.ts.map trmD)) = some true := rfl
  have hq : frzQ (.tup (x.ts.map trmD)) = .tup (x.ts.map trmD) := frzQ_fz (by simp [hf])
  simp [hq, g_is_demand, m_is_demand, runD, ownOk, outsD, List.range, List.range.loop, ownVars, putBack, kz, z, hp, i0, i1, hk, l1, l2, hf, sqV_ok hsq, e1, restV, frz_lstt hfl, hall, hw]
/-! ### the book -/
structure Bk where
  w : Int
  ts : List (Str × Int)
  ds : List Dmd
def bkD (o : Bool) (b : Bk) : D := .ins o "Book" ["world", "tables", "demands"] [.int b.w, tabsD b.ts, .tup (b.ds.map dmdD)]
structure okBk (b : Bk) : Prop where
  w0 : 0 ≤ b.w
  w1 : b.w ≤ 1000
  ts : okTabs b.ts
  n6 : b.ds.length ≤ 6
  ds : ∀ d ∈ b.ds, okDmd b.ts d
theorem s_Book {b : Bk} (h : okBk b) : g_Book__init [.ins true "Book" [] [], .int b.w, tabsD b.ts, .tup (b.ds.map dmdD)] = .ok (.non, [some (bkD true b), some (.int b.w), some (tabsD b.ts), some (.tup (b.ds.map dmdD))]) := by
  have hw : g_is_world [.int b.w] = .ok (.bl true, [some (.int b.w)]) := by
    have := s_is_world (fz_int' b.w)
    simp [within, h.w0, h.w1] at this
    exact this
  have ht := s_are_tables h.ts
  have hf := fz_tabs b.ts
  have hfd := fz_dmds b.ds
  have hlen : (b.ds.map dmdD).length ≤ 1000 := by rw [List.length_map]; have := h.n6; omega
  have z : fz (tabsD b.ts) = true := by simp [tabsD, hf]
  have hsq : seqI [.tup (b.ds.map dmdD)] = some (b.ds.map dmdD) := by simp [seqI, hfd]
  have hdt := dict_tabs h.ts.nd
  have e1 := lc_pure (k := 4) (elt := mCall g_is_demand (mArgs [mFrz (mCB dictD (mArgs [mVarA 2])), mVarA 4])) (fun _ => .bl true) (e := [some (.ins true "Book" [] []), some (.int b.w), some (tabsD b.ts), some (.tup (b.ds.map dmdD)), none]) (ds := b.ds.map dmdD) hfd hlen (fun d hd => by
    obtain ⟨p, hp, rfl⟩ := List.mem_map.mp hd
    simp [ownVars, putBack, fz_dmd, fz_kn, hdt, frz_kn, z, s_is_demand h.ts.nd (h.ds p hp)])
  have e1' : ((b.ds.map dmdD).map fun _ => frzQ (.bl true)) = b.ds.map fun _ => D.bl true := by rw [List.map_map]; rfl
  rw [e1'] at e1
  have hall : allD [.lst false (b.ds.map fun _ => D.bl true)] = some (.bl true) := allD_true fun d hd => by
    obtain ⟨_, _, rfl⟩ := List.mem_map.mp hd; rfl
  have hfl : fzL (b.ds.map fun _ => D.bl true) = true := fzL_map _ (fun _ => by simp) _
  have hk : isK .tTup (.tup (b.ds.map dmdD)) = some true := rfl
  have l2 : ¬ (6 : Int) < b.ds.length := by have := h.n6; omega
  have n1 : ¬ ("world" : Str) = "tables" := by decide
  have n2 : ¬ ("world" : Str) = "demands" := by decide
  have n3 : ¬ ("tables" : Str) = "demands" := by decide
  have hq : frzQ (.tup (b.ds.map dmdD)) = .tup (b.ds.map dmdD) := frzQ_fz (by simp [hfd])
  simp [n1, n2, n3, hq, g_Book__init, m_Book__init, runD, ownOk, outsD, List.range, List.range.loop, ownVars, putBack, z, hw, ht, hk, l2, hfd, sqV_ok hsq, e1, restV, frz_lstt hfl, hall, fsetG, cs_world, cs_tables, cs_demands, putW, frzQ_fz, bkD]
end Mi
namespace Mi
open PySem PySem.Spec PyProof.Rows L2
/-! ### reading the book -/
@[simp] theorem fld_tables (o : Bool) (b : Bk) : fldG cs_tables "tables" (bkD o b) = some (tabsD b.ts) := by
  have z : fz (tabsD b.ts) = true := by simp [tabsD, fz_tabs]
  have n1 : ¬ ("tables" : Str) = "world" := by decide
  simp [bkD, fldG, fldD, cs_tables, pick, z, n1]
@[simp] theorem fld_demands (o : Bool) (b : Bk) : fldG cs_demands "demands" (bkD o b) = some (.tup (b.ds.map dmdD)) := by
  have n1 : ¬ ("demands" : Str) = "world" := by decide
  have n2 : ¬ ("demands" : Str) = "tables" := by decide
  simp [bkD, fldG, fldD, cs_demands, pick, n1, n2, fz_dmds]
/-! ### sets of letters -/
def addL (acc : List Nat) (c : Nat) : List Nat := if c ∈ acc then acc else acc ++ [c]
def setG (acc : List Nat) : List (Key × D) := acc.map fun c => (.inr (one c), .bl true)
theorem kds_of : ∀ ds : List (Key × D), kds (ds.map fun p => unkD p.1) (ds.map (·.2)) = some ds
  | [] => rfl
  | (k, d) :: ds => by
    simp only [List.map_cons, kds, kds_of ds]
    cases k <;> rfl
theorem fz_setG (acc : List Nat) : fzL ((setG acc).map (·.2)) = true := by
  rw [setG, List.map_map]; exact fzL_map _ (fun _ => by simp) _
theorem one_inj {a b : Nat} (h : one a = one b) : a = b := by
  have := congrArg (fun s : Str => s.cps.toList) h
  simpa [one] using this
theorem put_setG (acc : List Nat) (c : Nat) : putG (setG acc) (.inr (one c)) (.bl true) = setG (addL acc c) := by
  unfold addL
  by_cases h : c ∈ acc
  · rw [if_pos h]
    have h1 : ((setG acc).any fun p => decide (p.1 = .inr (one c))) = true := by
      rw [List.any_eq_true]
      exact ⟨_, List.mem_map.mpr ⟨c, h, rfl⟩, by simp⟩
    unfold putG
    rw [if_pos h1]
    conv => rhs; rw [← List.map_id (setG acc)]
    refine List.map_congr_left fun p hp => ?_
    obtain ⟨x, _, rfl⟩ := List.mem_map.mp hp
    split <;> rfl
  · rw [if_neg h, putG_new]
    · simp [setG]
    · intro z
      obtain ⟨p, hp, e⟩ := List.mem_map.mp z
      obtain ⟨x, hx, rfl⟩ := List.mem_map.mp hp
      exact h (one_inj (Sum.inr.inj e) ▸ hx)
theorem setX_set {acc : List Nat} {c : Nat} (h : acc.length < 16000000) : setX (dicG (setG acc)) (.str (one c)) (.bl true) = some (dicG (setG (addL acc c))) := by
  simp only [dicG, setX, kds_of, keyD]
  rw [if_pos ⟨fz_setG acc, by simp [setG]; exact h⟩, put_setG]
theorem addL_len (acc : List Nat) (c : Nat) : (addL acc c).length ≤ acc.length + 1 := by
  unfold addL; split <;> simp
theorem let_in (a b c d : Option D) : ∀ (l acc : List Nat) (x : Option D), acc.length + l.length ≤ 1000 → ∃ y, loopF (.nm 5) (mSetX 1 (mVarE 5) (mC (.bl true))) (l.map fun c => .str (one c)) [a, some (dicG (setG acc)), b, c, d, x] = .ok (.next, [a, some (dicG (setG (l.foldl addL acc))), b, c, d, y])
  | [], acc, x, _ => ⟨x, by simp [e_lp0]⟩
  | n :: l, acc, x, h => by
    simp only [List.length_cons] at h
    have h1 := addL_len acc n
    obtain ⟨y, hy⟩ := let_in a b c d l (addL acc n) (some (.str (one n))) (by omega)
    refine ⟨y, ?_⟩
    rw [List.map_cons, e_lp]
    simp [setX_set (show acc.length < 16000000 by omega)]
    exact hy
theorem fold_len : ∀ (l acc : List Nat), (l.foldl addL acc).length ≤ acc.length + l.length
  | [], acc => by simp
  | n :: l, acc => by
    have h1 := addL_len acc n
    have h2 := fold_len l (addL acc n)
    simp only [List.foldl_cons, List.length_cons]; omega
def allLet (ts : List Trm) (acc : List Nat) : List Nat := ts.foldl (fun acc t => t.t.cps.toList.foldl addL acc) acc
theorem ter_in (a : Option D) : ∀ (ts : List Trm) (acc : List Nat) (b c d x : Option D), (∀ t ∈ ts, t.t.length ≤ 4) → acc.length + 4 * ts.length ≤ 1000 → ∃ b' c' d' y, loopF (.tp [(.nm 2), (.nm 3), (.nm 4)]) (mFor (mIt1 (mFrz (mVarE 4))) (.nm 5) (mSetX 1 (mVarE 5) (mC (.bl true)))) (ts.map trmD) [a, some (dicG (setG acc)), b, c, d, x] = .ok (.next, [a, some (dicG (setG (allLet ts acc))), b', c', d', y])
  | [], acc, b, c, d, x, _, _ => ⟨b, c, d, x, by simp [e_lp0, allLet]⟩
  | t :: ts, acc, b, c, d, x, h4, h => by
    simp only [List.length_cons] at h
    have h1 := h4 t List.mem_cons_self
    have e1 : t.t.cps.toList.length = t.t.length := by simp [Str.length]
    obtain ⟨y, hy⟩ := let_in a (some (.int t.f)) (some (.str t.s)) (some (.str t.t)) t.t.cps.toList acc x (by omega)
    have h2 := fold_len t.t.cps.toList acc
    obtain ⟨b', c', d', y', hz⟩ := ter_in a ts (t.t.cps.toList.foldl addL acc) (some (.int t.f)) (some (.str t.s)) (some (.str t.t)) y (fun x hx => h4 x (List.mem_cons_of_mem _ hx)) (by omega)
    refine ⟨b', c', d', y', ?_⟩
    rw [List.map_cons, e_lp]
    have hz1 := fz_chs t.t
    simp [mTg, mTgs, trmD, sqV_ok (seqI_str t.t), kFor_ok hz1]
    rw [show chs t.t = t.t.cps.toList.map (fun c => .str (one c)) from rfl, hy]
    simp only [bind_ok, kLp_next]
    exact hz
end Mi
namespace Mi
open PySem PySem.Spec PyProof.Rows L2
theorem addL_mem (acc : List Nat) (c x : Nat) : x ∈ addL acc c ↔ x ∈ acc ∨ x = c := by
  unfold addL
  split
  · rename_i h
    exact ⟨.inl, fun z => z.elim id fun e => e ▸ h⟩
  · simp
theorem addL_nd {acc : List Nat} {c : Nat} (h : acc.Nodup) : (addL acc c).Nodup := by
  unfold addL
  split
  · exact h
  · rename_i q
    rw [List.nodup_append]
    exact ⟨h, by simp, fun a ha b hb e => q (by simp at hb; rw [← hb, ← e]; exact ha)⟩
theorem foldL_mem (x : Nat) : ∀ (l acc : List Nat), x ∈ l.foldl addL acc ↔ x ∈ acc ∨ x ∈ l
  | [], acc => by simp
  | c :: l, acc => by
    rw [List.foldl_cons, foldL_mem x l, addL_mem, List.mem_cons, or_assoc]
theorem foldL_nd : ∀ (l acc : List Nat), acc.Nodup → (l.foldl addL acc).Nodup
  | [], acc, h => h
  | c :: l, acc, h => foldL_nd l _ (addL_nd h)
def catL (ts : List Trm) : List Nat := ts.flatMap fun t => t.t.cps.toList
theorem allLet_mem (x : Nat) : ∀ (ts : List Trm) (acc : List Nat), x ∈ allLet ts acc ↔ x ∈ acc ∨ x ∈ catL ts
  | [], acc => by simp [allLet, catL]
  | t :: ts, acc => by
    show x ∈ allLet ts (t.t.cps.toList.foldl addL acc) ↔ _
    rw [allLet_mem x ts, foldL_mem, or_assoc]
    simp [catL]
theorem allLet_nd : ∀ (ts : List Trm) (acc : List Nat), acc.Nodup → (allLet ts acc).Nodup
  | [], acc, h => h
  | t :: ts, acc, h => allLet_nd ts _ (foldL_nd _ _ h)
theorem allLet_len (l : List (Str × Int)) : ∀ (ts : List Trm) (acc : List Nat), (∀ t ∈ ts, t.t.length ≤ 4) → (allLet ts acc).length ≤ acc.length + 4 * ts.length
  | [], acc, _ => by simp [allLet]
  | t :: ts, acc, h => by
    have h1 := allLet_len l ts (t.t.cps.toList.foldl addL acc) fun x hx => h x (List.mem_cons_of_mem _ hx)
    have h2 := fold_len t.t.cps.toList acc
    have h3 := h t List.mem_cons_self
    have e1 : t.t.cps.toList.length = t.t.length := by simp [Str.length]
    show (allLet ts _).length ≤ _
    simp only [List.length_cons]; omega
def abcd : List Nat := [97, 98, 99, 100]
theorem abcd_eq : ("abcd" : Str).cps.toList = abcd := by decide +kernel
def due (ts : List Trm) : List Nat := abcd.filter fun c => decide (c ∈ catL ts)
theorem due_len (ts : List Trm) : (due ts).length ≤ 4 := List.length_filter_le _ abcd
theorem sort_due (p : Nat → Bool) : sortedS ((abcd.filter p).map one) = true := by
  unfold abcd
  cases h1 : p 97 <;> cases h2 : p 98 <;> cases h3 : p 99 <;> cases h4 : p 100 <;> simp only [List.filter, h1, h2, h3, h4] <;> decide
theorem sort_set {acc : List Nat} {p : Nat → Bool} (nd : acc.Nodup) (h : ∀ c, c ∈ acc ↔ c ∈ abcd.filter p) : sortS (acc.map one) = (abcd.filter p).map one := by
  refine (sort_one ?_ (sort_due p)).symm
  refine List.Perm.map one ?_
  refine (List.perm_ext_iff_of_nodup (List.Pairwise.filter _ (by decide)) nd).mpr fun c => (h c).symm
end Mi
namespace Mi
open PySem PySem.Spec PyProof.Rows L2
def dueD (x : Dmd) : D := .str (txt (due x.ts))
theorem list_set (acc : List Nat) : listX [dicG (setG acc)] = some (.lst true (acc.map fun c => .str (one c))) := by
  have hz : fzL (acc.map fun c => D.str (one c)) = true := fzL_map _ (fun _ => by simp) _
  have he : (setG acc).map (fun p => unkD p.1) = acc.map fun c => D.str (one c) := by rw [setG, List.map_map]; rfl
  simp only [listX, dicG, he, hz, if_true]
theorem s_letters_in {l : List (Str × Int)} {x : Dmd} (h : okDmd l x) : g_letters_in [dmdD x] = .ok (dueD x, [some (dmdD x)]) := by
  have h4 : ∀ t ∈ x.ts, t.t.length ≤ 4 := fun t ht => (h.tr t ht).l4
  have h8 := h.n8
  obtain ⟨b', c', d', y', hz⟩ := ter_in (some (dmdD x)) x.ts [] none none none none h4 (by simp; omega)
  have hm : sortS ((allLet x.ts []).map one) = (due x.ts).map one := sort_set (allLet_nd _ _ .nil) fun c => by
    rw [allLet_mem, List.mem_filter]
    constructor
    · rintro (h1 | h1)
      · cases h1
      · refine ⟨?_, by simpa using h1⟩
        obtain ⟨t, ht, hc⟩ := List.mem_flatMap.mp h1
        rw [← abcd_eq]
        exact (h.tr t ht).ab c hc
    · rintro ⟨h1, h2⟩
      exact .inr (by simpa using h2)
  have hl := allLet_len l x.ts [] h4
  have hsort : sortD [.lst false ((allLet x.ts []).map fun c => .str (one c))] = some (.lst true ((due x.ts).map (fun c => .str (one c)))) := by
    simp only [sortD, strsOf_ones]
    rw [if_pos (by rw [List.length_map]; simp at hl; omega), hm, List.map_map]
    rfl
  have hj := joinD_ones false (due x.ts) (by have := due_len x.ts; omega)
  have z : fz (dmdD x) = true := fz_dmd x
  have i0 : ixD (dmdD x) (.int 0) = some (.tup (x.ts.map trmD)) := ixD_t0 (by simp [fz_trms])
  have hq : frzQ (.tup (x.ts.map trmD)) = .tup (x.ts.map trmD) := frzQ_fz (by simp [fz_trms])
  have hsq : seqI [.tup (x.ts.map trmD)] = some (x.ts.map trmD) := by simp [seqI, fz_trms]
  have hf1 : fzL ((allLet x.ts []).map fun c => D.str (one c)) = true := fzL_map _ (fun _ => by simp) _
  have hf2 : fzL ((due x.ts).map fun c => .str (one c)) = true := fzL_map _ (fun _ => by simp) _
  have e0 : D.dic true [] [] = dicG (setG []) := rfl
  simp only [g_letters_in, m_letters_in, runD, ownOk, outsD, List.range, List.range.loop, e_seq, e_asg, e_dic0, bind_ok, kAsg_ok, e0, kSeq_next, e_for, e_it1]
  simp [i0, hq, sqV_ok hsq, kFor_ok (fz_trms x.ts), hz, list_set, frz_lstt hf1, hsort, frz_lstt hf2, hj, z, dueD]
end Mi
namespace Mi
open PySem PySem.Spec PyProof.Rows L2
theorem fz_bk (b : Bk) : fz (bkD true b) = false := by rw [bkD, fz]; rfl
theorem ix_tup {l : List D} (z : fzL l = true) {i : Nat} (h : i < l.length) : ixD (.tup l) (.int i) = some l[i] := by
  have h2 : (i : Int) < l.length := by omega
  have h0 : (0 : Int) ≤ i := by omega
  simp [ixD, atI, ixN, h, h0, pick, fzL_mem z _ (List.getElem_mem h)]
/-! the most letters -/
theorem intsOf_ints : ∀ l : List Int, intsOf (l.map .int) = some l
  | [] => rfl
  | i :: l => by rw [List.map_cons, intsOf, intsOf_ints l]; rfl
theorem len_due (x : Dmd) : lenD [dueD x] = some (.int (due x.ts).length) := by
  have := due_len x.ts
  rw [dueD, lenD_s (by rw [txt_len]; omega), txt_len]
end Mi
namespace Mi
open PySem PySem.Spec PyProof.Rows L2
theorem due_loop (a c : Option D) : ∀ (ts : List Trm) (acc : List Nat) (x : Option D), (∀ t ∈ ts, t.t.length ≤ 4) → acc.length + 4 * ts.length ≤ 1000 → ∃ y, loopF (.nm 2) (mAsg 1 (mBin addD (mVarA 1) (mFrz (mBin ixD (mVarA 2) (mFrz (mC (.int 2))))))) (ts.map trmD) [a, some (.str (txt acc)), x, c] = .ok (.next, [a, some (.str (txt (acc ++ catL ts))), y, c])
  | [], acc, x, _, _ => ⟨x, by simp [e_lp0, catL]⟩
  | t :: ts, acc, x, h4, h => by
    simp only [List.length_cons] at h
    have h1 := h4 t List.mem_cons_self
    have e1 : t.t.cps.toList.length = t.t.length := by simp [Str.length]
    obtain ⟨y, hy⟩ := due_loop a c ts (acc ++ t.t.cps.toList) (some (trmD t)) (fun x hx => h4 x (List.mem_cons_of_mem _ hx)) (by rw [List.length_append]; omega)
    refine ⟨y, ?_⟩
    have i2 : ixD (trmD t) (.int 2) = some (.str t.t) := (ix3 (by simp) (by simp) (by simp)).2.2
    have ha : addD (.str (txt acc)) (.str t.t) = some (.str (txt (acc ++ t.t.cps.toList))) := by
      have e : txt acc ++ t.t = txt (acc ++ t.t.cps.toList) := by
        apply str_ext
        rw [txt_cps]
        show (Array.mk acc ++ t.t.cps).toList = _
        simp
      simp only [addD]
      rw [if_pos (by rw [szl, txt_len]; omega), e]
    rw [List.map_cons, e_lp]
    simp only [List.append_assoc] at hy
    simp [fz_trm, i2, ha]
    rw [show catL (t :: ts) = t.t.cps.toList ++ catL ts from rfl]
    exact hy
theorem s_law_letters {l : List (Str × Int)} {x : Dmd} (h : okDmd l x) : g__law_letters [dmdD x] = .ok (dueD x, [some (dmdD x)]) := by
  have h4 : ∀ t ∈ x.ts, t.t.length ≤ 4 := fun t ht => (h.tr t ht).l4
  have h8 := h.n8
  obtain ⟨y, hy⟩ := due_loop (some (dmdD x)) none x.ts [] none h4 (by simp; omega)
  have z : fz (dmdD x) = true := fz_dmd x
  have i0 : ixD (dmdD x) (.int 0) = some (.tup (x.ts.map trmD)) := ixD_t0 (by simp [fz_trms])
  have hq : frzQ (.tup (x.ts.map trmD)) = .tup (x.ts.map trmD) := frzQ_fz (by simp [fz_trms])
  have hsq : seqI [.tup (x.ts.map trmD)] = some (x.ts.map trmD) := by simp [seqI, fz_trms]
  have e3 := lc_filter (k := 3) (cond := mTB (mBin inD (mVarA 3) (mVarA 1))) (elt := mVarE 3) (fun x => x) (fun d => match d with | .str s => s.cps.toList.all fun c => decide (c ∈ catL x.ts) | _ => false)
    (e := [some (dmdD x), some (.str (txt (catL x.ts))), y, none]) (ds := chs "abcd") (fz_chs _) (by rw [len_chs]; decide) (fun d hd => by
      obtain ⟨c, hc, rfl⟩ := List.mem_map.mp hd
      have hi := inD_one c (txt (catL x.ts))
      rw [txt_cps] at hi
      simp [hi]
      simp [one]) (fun d hd _ => by
      obtain ⟨c, hc, rfl⟩ := List.mem_map.mp hd
      simp)
  have e3' : (((chs "abcd").filter fun d => match d with | .str s => s.cps.toList.all fun c => decide (c ∈ catL x.ts) | _ => false).map fun d => frzQ d) = (due x.ts).map fun c => .str (one c) := by
    rw [chs, abcd_eq, List.filter_map, List.map_map, due]
    have : ((fun d => match d with | .str s => s.cps.toList.all fun c => decide (c ∈ catL x.ts) | _ => false) ∘ fun c => D.str (one c)) = fun c => decide (c ∈ catL x.ts) := by
      funext c
      simp [one]
    rw [this]
    exact List.map_congr_left fun p _ => by simp
  rw [e3'] at e3
  have hj := joinD_ones false (due x.ts) (by have := due_len x.ts; omega)
  have hf2 : fzL ((due x.ts).map fun c => .str (one c)) = true := fzL_map _ (fun _ => by simp) _
  rw [show (.str (txt []) : D) = .str "" from rfl, List.nil_append] at hy
  simp [g__law_letters, m__law_letters, runD, ownOk, outsD, List.range, List.range.loop, z, i0, hq, sqV_ok hsq, kFor_ok (fz_trms x.ts), hy, sqV_ok (seqI_str "abcd"), e3, restV, frz_lstt hf2, hj, dueD]
end Mi
namespace Mi
open PySem PySem.Spec PyProof.Rows L2
def ownT (l : List (Str × Int)) : D := dicG (knG l)
theorem ownT_eq (l : List (Str × Int)) : ownT l = .dic true (l.map fun p => .str p.1) (l.map fun p => .int p.2) := by
  simp only [ownT, dicG, knG, List.map_map]; rfl
theorem fzL_keysT (l : List (Str × Int)) : fzL (l.map fun p => D.str p.1) = true := fzL_map _ (fun _ => by simp) _
theorem fzL_valsT (l : List (Str × Int)) : fzL (l.map fun p => D.int p.2) = true := fzL_map _ (fun _ => by simp) _
theorem fz_ownT (l : List (Str × Int)) : fz (ownT l) = false := by rw [ownT_eq, fz]; rfl
theorem ix_own {l : List (Str × Int)} {s : Str} {n : Int} (nd : (labs l).Nodup) (h : (s, n) ∈ l) : ixD (ownT l) (.str s) = some (.int n) := by
  rw [ownT_eq]
  simp only [ixD, keyD, getK_kn nd h, pick, fz_int, if_true]
theorem nin_own {l : List (Str × Int)} {s : Str} {n : Int} (nd : (labs l).Nodup) (h : (s, n) ∈ l) : ninD (.str s) (ownT l) = some (.bl false) := by
  rw [ownT_eq]
  simp only [ninD, inQ, keyD, getK_kn nd h]
  rfl
theorem ks_own (l : List (Str × Int)) : isK .tDic (ownT l) = some true := by rw [ownT_eq]; rfl
theorem len_own (l : List (Str × Int)) : lenD [ownT l] = some (.int l.length) := by rw [ownT_eq]; simp
/-! the owned table takes any text as key -/
theorem setX_own {b : Bool} {ds : List (Key × D)} {s : Str} {n : Int} (h : fzL (ds.map (·.2)) = true) (h2 : ds.length < 16000000) : setX (dicG ds) (.str s) (.int n) = some (dicG (putG ds (.inr s) (.int n))) := by
  simp only [dicG, setX, kds_of, keyD]
  rw [if_pos ⟨h, h2⟩]
theorem fz_putG {ds : List (Key × D)} {k : Key} {d : D} (h : fzL (ds.map (·.2)) = true) (hd : fz d = true) : fzL ((putG ds k d).map (·.2)) = true := by
  refine fzL_all fun x hx => ?_
  obtain ⟨p, hp, rfl⟩ := List.mem_map.mp hx
  unfold putG at hp
  split at hp
  · obtain ⟨q, hq, rfl⟩ := List.mem_map.mp hp
    split
    · exact hd
    · exact fzL_mem h _ (List.mem_map.mpr ⟨q, hq, rfl⟩)
  · rcases List.mem_append.mp hp with hp | hp
    · exact fzL_mem h _ (List.mem_map.mpr ⟨p, hp, rfl⟩)
    · rw [List.mem_singleton] at hp
      subst hp; exact hd
end Mi
namespace Mi
open PySem PySem.Spec PyProof.Rows L2
/-! ### the law's own drawing: fold, tables -/
def foE : EM FlowD := (mAsg 1 (mBin modD (mFrz (mCB intD (mArgs [mFrz (mBin addD (mFrz (mBin addD (mFrz (mBin mulD (mVarA 1) (mFrz (mC (.int 48271))))) (mFrz (mBin mulD (mFrz (mCB intD (mArgs [mVarA 2]))) (mFrz (mC (.int 69621))))))) (mFrz (mC (.int 1))))]))) (mFrz (mC (.int 2147483647)))))
theorem mul_c (x : Int) : mulD (.int x) (.int 69621) = some (.int (x * 69621)) := mulD_i (.inl (by decide))
theorem fold_loop (s : D) : ∀ (l : List Int) (k : Int) (x : Option D), 0 ≤ k → k < 2147483647 → ∃ k' y, loopF (.nm 2) foE (l.map .int) [some s, some (.int k), x] = .ok (.next, [some s, some (.int k'), y]) ∧ 0 ≤ k' ∧ k' < 2147483647
  | [], k, x, h1, h2 => ⟨k, x, by simp [e_lp0], h1, h2⟩
  | z :: l, k, x, h1, h2 => by
    obtain ⟨k', y, hr, h3, h4⟩ := fold_loop s l ((k * 48271 + z * 69621 + 1) % 2147483647) (some (.int z)) (Int.emod_nonneg _ (by decide)) (Int.emod_lt_of_pos _ (by decide))
    refine ⟨k', y, ?_, h3, h4⟩
    rw [List.map_cons, e_lp]
    simp only [foE] at hr ⊢
    simp [mul_48, mul_c, mod_a]
    exact hr
theorem s_law_fold {ns : List Int} (h : ns.length ≤ 63) : ∃ z, g__law_fold [.scr ns] = .ok (.int z, [some (.scr ns)]) := by
  obtain ⟨k, y, hy, h1, h2⟩ := fold_loop (.scr ns) (cutD ns none (some 63)) ns.length none (by omega) (by omega)
  have hs : seqI [.lst false ((cutD ns none (some 63)).map D.int)] = some ((cutD ns none (some 63)).map D.int) := by simp [seqI]
  have hm : mulD (.int k) (.int (k / 1009 + 40692)) = some (.int (k * (k / 1009 + 40692))) := mulD_i (.inr (by omega))
  simp only [foE] at hy
  refine ⟨k * (k / 1009 + 40692) % 2147483399, ?_⟩
  simp (implicitDefEqProofs := false) [g__law_fold, runD, ownOk, m__law_fold, slD, frz_lstt, sqV_ok hs, kFor_ok (fzL_mapint _), hy, div_a, hm, mod_b, outsD, List.range, List.range.loop]
/-! tables -/
def putL (l : List (Str × Int)) (s : Str) (n : Int) : List (Str × Int) := if s ∈ labs l then l.map (fun p => if p.1 = s then (p.1, n) else p) else l ++ [(s, n)]
theorem putL_kn (l : List (Str × Int)) (s : Str) (n : Int) : putG (knG l) (.inr s) (.int n) = knG (putL l s n) := by
  have e : ((knG l).any fun p => decide (p.1 = .inr s)) = true ↔ s ∈ labs l := by
    rw [List.any_eq_true]
    constructor
    · rintro ⟨x, hx, hk⟩
      obtain ⟨p, hp, rfl⟩ := List.mem_map.mp hx
      have : p.1 = s := by simpa using hk
      exact List.mem_map.mpr ⟨p, hp, this⟩
    · intro h
      obtain ⟨p, hp, rfl⟩ := List.mem_map.mp h
      exact ⟨_, List.mem_map.mpr ⟨p, hp, rfl⟩, by simp⟩
  unfold putG putL
  by_cases h : s ∈ labs l
  · rw [if_pos (e.mpr h), if_pos h]
    simp only [knG, List.map_map]
    refine List.map_congr_left fun p _ => ?_
    simp only [Function.comp]
    by_cases hp : p.1 = s
    · rw [if_pos (by rw [hp]), if_pos hp]
    · rw [if_neg (fun e => hp (Sum.inr.inj e)), if_neg hp]
  · rw [if_neg (fun x => h (e.mp x)), if_neg h]
    simp [knG]
theorem labs_put (l : List (Str × Int)) (s : Str) (n : Int) : labs (putL l s n) = if s ∈ labs l then labs l else labs l ++ [s] := by
  unfold putL
  split
  · simp only [labs, List.map_map]
    refine List.map_congr_left fun p _ => ?_
    simp only [Function.comp]
    split <;> rfl
  · simp [labs]
theorem put_nd {l : List (Str × Int)} {s : Str} {n : Int} (h : (labs l).Nodup) : (labs (putL l s n)).Nodup := by
  rw [labs_put]
  split
  · exact h
  · rename_i hn
    rw [List.nodup_append]
    exact ⟨h, by simp, fun a ha b hb => by rw [List.mem_singleton] at hb; subst hb; rintro rfl; exact hn ha⟩
theorem put_mem {l : List (Str × Int)} {s : Str} {n : Int} {p : Str × Int} (h : p ∈ putL l s n) : p = (s, n) ∨ p ∈ l := by
  unfold putL at h
  split at h
  · obtain ⟨q, hq, rfl⟩ := List.mem_map.mp h
    split
    · rename_i e; rw [e]; exact .inl rfl
    · exact .inr hq
  · rcases List.mem_append.mp h with h | h
    · exact .inr h
    · exact .inl (List.mem_singleton.mp h)
theorem put_len (l : List (Str × Int)) (s : Str) (n : Int) : (putL l s n).length ≤ l.length + 1 ∧ l.length ≤ (putL l s n).length ∧ 1 ≤ (putL l s n).length := by
  unfold putL
  split
  · rename_i h
    have : l ≠ [] := by rintro rfl; simp [labs] at h
    have := List.length_pos_iff.mpr this
    rw [List.length_map]; omega
  · simp
theorem setX_kn {l : List (Str × Int)} {s : Str} {n : Int} (h : l.length < 16000000) : setX (dicG (knG l)) (.str s) (.int n) = some (dicG (knG (putL l s n))) := by
  rw [← putL_kn]
  refine setX_own (b := true) ?_ (by simpa [knG] using h)
  rw [show ((knG l).map (·.2)) = l.map fun p => D.int p.2 by simp only [knG, List.map_map]; rfl]
  exact fzL_valsT _
def tbE : EM FlowD := (mSetX 2 (mBin ixD (mFrz (mC (.str "abcdefghijklmnopqrstuvwxyz"))) (mFrz (mCall g__law_pick (mArgs [mVarA 0, mFrz (mC (.int 26))])))) (mCall g__law_pick (mArgs [mVarA 0, mFrz (mC (.int 3))])))
theorem tupleD_l {o : Bool} {l : List D} (h : fzL l = true) : tupleD [.lst o l] = some (.tup l) := by simp [tupleD, h]
@[simp] theorem truD_bl (b : Bool) : truD (.bl b) = some b := rfl
theorem fz_knG (l : List (Str × Int)) : fz (dicG (knG l)) = false := fz_ownT l
theorem okLab_one {c : Nat} (h : c ∈ sm.cps.toList) : okLab (one c) := ⟨by simp [one, Str.length], by simp [one, Str.length], by simpa [one] using h⟩
theorem tb_loop (cells : List Int) (i : Option D) (u v : Option D) : ∀ (ds : List D) (l : List (Str × Int)) (a b c : Int) (x : Option D), l.length + ds.length ≤ 1000 → (labs l).Nodup → (∀ p ∈ l, okLab p.1 ∧ 0 ≤ p.2 ∧ p.2 ≤ 2) → ∃ (l' : List (Str × Int)) (a' b' c' : Int) (y : Option D),
    loopF (.nm 3) tbE ds [some (dk cells a b c), i, some (dicG (knG l)), x, u, v] = .ok (.next, [some (dk cells a' b' c'), i, some (dicG (knG l')), y, u, v]) ∧ (labs l').Nodup ∧ (∀ p ∈ l', okLab p.1 ∧ 0 ≤ p.2 ∧ p.2 ≤ 2) ∧ l'.length ≤ l.length + ds.length ∧ (1 ≤ l.length + ds.length → 1 ≤ l'.length)
  | [], l, a, b, c, x, _, h1, h2 => ⟨l, a, b, c, x, by simp [e_lp0], h1, h2, by simp, by simp⟩
  | d :: ds, l, a, b, c, x, hl, h1, h2 => by
    obtain ⟨r, a1, b1, c1, k1, k2, k3⟩ := s_law_pick cells a b c (m := 3) (by decide) (by decide)
    obtain ⟨z, a2, b2, c2, k4, k5, k6⟩ := s_law_pick cells a1 b1 c1 (m := 26) (by decide) (by decide)
    obtain ⟨ch, hch, hi⟩ := ix_sm k5 k6
    simp only [List.length_cons] at hl
    obtain ⟨p1, p2, p3⟩ := put_len l (one ch) r
    obtain ⟨l', a3, b3, c3, y, j1, j2, j3, j4, j5⟩ := tb_loop cells i u v ds (putL l (one ch) r) a2 b2 c2 (some d) (by omega) (put_nd h1) (fun p hp => by
      rcases put_mem hp with rfl | hp
      · exact ⟨okLab_one hch, k2, by show r ≤ 2; omega⟩
      · exact h2 p hp)
    refine ⟨l', a3, b3, c3, y, ?_, j2, j3, by simp only [List.length_cons]; omega, fun _ => j5 (by omega)⟩
    rw [e_lp]
    simp only [tbE] at j1 ⊢
    simp only [sm] at hi
    have hx := setX_kn (l := l) (s := one ch) (n := r) (by omega)
    simp (implicitDefEqProofs := false) [ownVars, putBack, k1, k4, hi, hx]
    exact j1
theorem kn_one {l : List (Str × Int)} {s : Str} {n m : Int} (nd : (labs l).Nodup) (h : (s, n) ∈ l) (g : (s, m) ∈ l) : n = m := by
  have h1 := getK_kn nd h
  rw [getK_kn nd g] at h1
  cases h1; rfl
def vl (l : List (Str × Int)) (s : Str) : Int := ((l.find? fun p => decide (p.1 = s)).map (·.2)).getD 0
theorem vl_mem {l : List (Str × Int)} {s : Str} (h : s ∈ labs l) : (s, vl l s) ∈ l := by
  unfold vl
  cases e : l.find? fun p => decide (p.1 = s) with
  | none =>
    obtain ⟨p, hp, rfl⟩ := List.mem_map.mp h
    have := List.find?_eq_none.mp e p hp
    simp at this
  | some p =>
    have h1 := List.mem_of_find?_eq_some e
    have h2 := List.find?_some e
    have h3 : p.1 = s := by simpa using h2
    rw [← h3]
    exact h1
theorem vl_all {l : List (Str × Int)} (nd : (labs l).Nodup) : ((labs l).map fun s => (s, vl l s)) = l := by
  unfold labs
  rw [List.map_map]
  conv => rhs; rw [← List.map_id l]
  refine List.map_congr_left fun p hp => ?_
  have := vl_mem (l := l) (s := p.1) (List.mem_map.mpr ⟨p, hp, rfl⟩)
  have e := kn_one nd this (n := vl l p.1) (m := p.2) hp
  simp only [Function.comp, id]
  rw [e]
def srtT (l : List (Str × Int)) : List (Str × Int) := (sortS (labs l)).map fun s => (s, vl l s)
theorem srtT_perm {l : List (Str × Int)} (nd : (labs l).Nodup) : (srtT l).Perm l := by
  have h : (srtT l).Perm ((labs l).map fun s => (s, vl l s)) := (List.mergeSort_perm (labs l) leS).map _
  rw [vl_all nd] at h
  exact h
theorem srtT_labs (l : List (Str × Int)) : labs (srtT l) = sortS (labs l) := by
  unfold srtT labs
  rw [List.map_map]
  exact (List.map_congr_left fun _ _ => rfl).trans (List.map_id _)
theorem one3 {l : List (Str × Int)} {s : Str} (nd : (labs l).Nodup) (h : ∀ p ∈ l, p.2 = 3 → p.1 = s) : (l.filter fun p => decide (p.2 = 3)).length ≤ 1 := by
  have hs : (l.filter fun p => decide (p.2 = 3)).Sublist l := List.filter_sublist
  have hn : (labs (l.filter fun p => decide (p.2 = 3))).Nodup := List.Nodup.sublist (hs.map _) nd
  have hm : ∀ p ∈ l.filter fun p => decide (p.2 = 3), p.1 = s := fun p hp => by
    obtain ⟨h1, h2⟩ := List.mem_filter.mp hp
    exact h p h1 (by simpa using h2)
  generalize (l.filter fun p => decide (p.2 = 3)) = m at hn hm
  match m, hn, hm with
  | [], _, _ => simp
  | [_], _, _ => simp
  | p :: q :: m, hn, hm =>
    have h1 := hm p (by simp)
    have h2 := hm q (by simp)
    have := (List.nodup_cons.mp hn).1
    exact absurd (List.mem_map.mpr ⟨q, by simp, h2.trans h1.symm⟩) this
theorem okTabs_srt {l : List (Str × Int)} (nd : (labs l).Nodup) (h1 : 1 ≤ l.length) (h4 : l.length ≤ 4) (ht : ∀ p ∈ l, okTab p) (hb : (l.filter fun p => decide (p.2 = 3)).length ≤ 1) : okTabs (srtT l) := by
  have hp := srtT_perm nd
  refine ⟨by rw [hp.length_eq]; exact h1, by rw [hp.length_eq]; exact h4, fun p h => ht p (hp.mem_iff.mp h), ?_, ?_, ?_⟩
  · rw [srtT_labs]
    exact List.mergeSort_of_pairwise (sortS_pw (labs l))
  · rw [srtT_labs]
    exact (List.mergeSort_perm (labs l) leS).nodup_iff.mpr nd
  · rw [(hp.filter _).length_eq]; exact hb
theorem listX_kn (l : List (Str × Int)) : listX [dicG (knG l)] = some (.lst true ((labs l).map .str)) := by
  rw [show dicG (knG l) = ownT l from rfl, ownT_eq]
  simp only [listX, fzL_keysT, if_true, labs, List.map_map]; rfl
theorem sortD_labs (o : Bool) {l : List Str} (h : l.length < 64) : sortD [.lst o (l.map .str)] = some (.lst true ((sortS l).map .str)) := by
  simp only [sortD, strsOf_map]
  rw [if_pos h]
def tsF (l : List (Str × Int)) : D → D := fun d => match d with
  | .str s => tabD (s, vl l s)
  | _ => .non
theorem ts_lc {l : List (Str × Int)} (nd : (labs l).Nodup) (h : l.length ≤ 1000) (p q x y : Option D) : kLc (.nm 5) mYes (mTup (mArgs [mFrz (mVarE 5), mFrz (mBin ixD (mVarA 2) (mVarA 5))])) [5] ((sortS (labs l)).map .str, [p, q, some (dicG (knG l)), x, y, none]) = .ok (.lst true ((srtT l).map tabD), [p, q, some (dicG (knG l)), x, y, none]) := by
  have hl : (sortS (labs l)).length = l.length := by rw [sortS, List.length_mergeSort, labs_len]
  have e1 := lc_pure (k := 5) (elt := mTup (mArgs [mFrz (mVarE 5), mFrz (mBin ixD (mVarA 2) (mVarA 5))])) (tsF l) (e := [p, q, some (dicG (knG l)), x, y, none]) (ds := (sortS (labs l)).map .str) (fzL_strs _) (by rw [List.length_map]; omega) (fun d hd => by
    obtain ⟨s, hs, rfl⟩ := List.mem_map.mp hd
    have hs' : s ∈ labs l := (List.mergeSort_perm (labs l) leS).mem_iff.mp hs
    have hi := ix_own nd (vl_mem hs')
    rw [show ownT l = dicG (knG l) from rfl] at hi
    simp [hi, tsF, tabD])
  rw [e1]
  simp only [srtT, List.map_map]
  refine congrArg Res.ok (Prod.ext ?_ (by simp [restV]))
  refine congrArg (D.lst true) (List.map_congr_left fun s _ => ?_)
  simp only [Function.comp, tsF]
  exact frzQ_fz (fz_tab _)
theorem s_law_tables (cells : List Int) (a b c : Int) (i : Bool) : ∃ (l : List (Str × Int)) (a' b' c' : Int), g__law_tables [dk cells a b c, .bl i] = .ok (tabsD l, [some (dk cells a' b' c'), some (.bl i)]) ∧ okTabs l := by
  obtain ⟨r, a1, b1, c1, h1, h2, h3⟩ := s_law_pick cells a b c (m := 3) (by decide) (by decide)
  have hz : fzL (rngD 0 (1 + r).toNat) = true := fzL_map _ (fun _ => by simp) _
  have hr : rng1 [.int (1 + r)] = some (rngD 0 (1 + r).toNat) := by
    show (if _ then _ else _) = _
    rw [if_pos (by omega)]
  have hlen : (rngD 0 (1 + r).toNat).length = (1 + r).toNat := by simp [rngD]
  obtain ⟨l, a2, b2, c2, y, k1, k2, k3, k4, k5⟩ := tb_loop cells (some (.bl i)) none none (rngD 0 (1 + r).toNat) [] a1 b1 c1 none (by rw [hlen]; simp; omega) (by simp [labs]) (by simp)
  rw [hlen] at k4 k5
  simp only [List.length_nil, Nat.zero_add] at k4 k5
  have l1 : 1 ≤ l.length := k5 (by omega)
  have l4 : l.length ≤ 4 := by omega
  have hs := sortD_labs false (l := labs l) (by rw [labs_len]; omega)
  have hL := listX_kn l
  have hfs : fzL ((labs l).map D.str) = true := fzL_strs _
  have hfS : fzL ((sortS (labs l)).map D.str) = true := fzL_strs _
  have hff : frzQ (.lst false ((sortS (labs l)).map D.str)) = .lst false ((sortS (labs l)).map D.str) := frzQ_fz (by simp [hfS])
  have hsl : (sortS (labs l)).length = l.length := by rw [sortS, List.length_mergeSort, labs_len]
  have hsq : seqI [.lst false ((sortS (labs l)).map D.str)] = some ((sortS (labs l)).map D.str) := by simp [seqI, hfS]
  have hft := fz_tabs (srtT l)
  simp only [tbE] at k1
  rw [show dicG (knG []) = .dic true [] [] from rfl] at k1
  have hfk := fz_knG l
  cases i with
  | false =>
    refine ⟨srtT l, a2, b2, c2, ?_, okTabs_srt k2 l1 l4 (fun p hp => ⟨(k3 p hp).1, (k3 p hp).2.1, by have := (k3 p hp).2.2; omega⟩) ?_⟩
    · have hlc := ts_lc k2 (by omega) (some (dk cells a2 b2 c2)) (some (.bl false)) y (some (.lst false ((sortS (labs l)).map .str)))
      simp (implicitDefEqProofs := false) [g__law_tables, m__law_tables, runD, ownOk, outsD, List.range, List.range.loop, ownVars, putBack, h1, rV_ok hr, kFor_ok hz, k1, hL, hs, hfk, vE_own _ _ hfS, hff, frz_lstt hfs, frz_lstt hfS, frz_lstt hft, hft, sqV_ok hsq, hlc, tupleD_l hft, tabsD]
    · exact one3 (s := "") k2 fun p hp e => by have := (k3 p hp).2.2; omega
  | true =>
    obtain ⟨r2, a3, b3, c3, j1, j2, j3⟩ := s_law_pick cells a2 b2 c2 (m := (l.length : Int)) (by omega) (Nat.lt_of_le_of_lt (Nat.log2_le_self _) (by omega))
    obtain ⟨d, hd, hi⟩ := ixD_lst (l := (sortS (labs l)).map D.str) (o := true) j2 (by rw [List.length_map, hsl]; exact j3) hfS
    obtain ⟨s, hs1, rfl⟩ := List.mem_map.mp hd
    have hs2 : s ∈ labs l := (List.mergeSort_perm (labs l) leS).mem_iff.mp hs1
    have hx := setX_kn (l := l) (s := s) (n := 3) (by omega)
    have lp : labs (putL l s 3) = labs l := by rw [labs_put, if_pos hs2]
    have nd2 : (labs (putL l s 3)).Nodup := by rw [lp]; exact k2
    have len2 : (putL l s 3).length = l.length := by rw [← labs_len, lp, labs_len]
    refine ⟨srtT (putL l s 3), a3, b3, c3, ?_, okTabs_srt nd2 (by omega) (by omega) (fun p hp => ?_) ?_⟩
    · have hlc := ts_lc nd2 (by omega) (some (dk cells a3 b3 c3)) (some (.bl true)) y (some (.lst false ((sortS (labs l)).map .str)))
      rw [lp] at hlc
      have hft := fz_tabs (srtT (putL l s 3))
      have hfk2 := fz_knG (putL l s 3)
      simp (implicitDefEqProofs := false) [g__law_tables, m__law_tables, runD, ownOk, outsD, List.range, List.range.loop, ownVars, putBack, h1, rV_ok hr, kFor_ok hz, k1, hL, hs, hfk, vE_own _ _ hfS, hff, frz_lstt hfs, frz_lstt hfS, frz_lstt hft, hft, sqV_ok hsq, hlc, tupleD_l hft, tabsD, hsl, j1, hi, hx, hft, hfk2]
    · rcases put_mem hp with rfl | hp
      · refine ⟨?_, by show (0 : Int) ≤ 3; decide, by show (3 : Int) ≤ 3; decide⟩
        obtain ⟨q, hq, rfl⟩ := List.mem_map.mp hs2
        exact (k3 q hq).1
      · exact ⟨(k3 p hp).1, (k3 p hp).2.1, by have := (k3 p hp).2.2; omega⟩
    · refine one3 (s := s) nd2 fun p hp e => ?_
      rcases put_mem hp with rfl | hp
      · rfl
      · have := (k3 p hp).2.2; omega
end Mi
namespace Mi
open PySem PySem.Spec PyProof.Rows L2
/-! ### a comprehension that draws -/
theorem draw {α : Type} {k : Nat} {elt : EM D} (E : Int → Int → Int → Option D → EnvD) (out : α → D) (ok : α → Prop) (hw : ∀ a b c x y, (E a b c x).set k y = E a b c y) (hz : ∀ z, fz (out z) = true)
    (hs : ∀ a b c d, ∃ z a' b' c', elt (E a b c (some d)) = .ok (out z, E a' b' c' (some d)) ∧ ok z) : ∀ (ds : List D) (acc : List D) (a b c : Int) (x : Option D), ∃ (l : List α) (a' b' c' : Int) (y : Option D),
    loopL (.nm k) mYes elt [k] ds acc (E a b c x) = .ok (acc ++ l.map out, E a' b' c' y) ∧ l.length = ds.length ∧ ∀ z ∈ l, ok z
  | [], acc, a, b, c, x => ⟨[], a, b, c, x, by simp [loopL], rfl, by simp⟩
  | d :: ds, acc, a, b, c, x => by
    obtain ⟨z, a1, b1, c1, h1, h2⟩ := hs a b c d
    obtain ⟨l, a2, b2, c2, y, k1, k2, k3⟩ := draw E out ok hw hz hs ds (acc ++ [out z]) a1 b1 c1 (some d)
    refine ⟨z :: l, a2, b2, c2, y, ?_, by simp [k2], fun w hw' => ?_⟩
    · simp only [loopL, wipeE, hw, tg_nm, e_yes, h1]
      rw [frzQ_fz (hz z), k1]
      simp
    · rcases List.mem_cons.mp hw' with rfl | hw'
      · exact h2
      · exact k3 w hw'
/-! ### terms and demands drawn -/
theorem er_map {α β : Type} (f : α → β) : ∀ (l : List α) (k : Nat), (l.map f).eraseIdx k = (l.eraseIdx k).map f
  | [], k => by simp
  | x :: l, 0 => by simp
  | x :: l, k + 1 => by simp [er_map f l k]
theorem er_perm {α : Type} : ∀ (l : List α) (k : Nat) (h : k < l.length), (l[k] :: l.eraseIdx k).Perm l
  | x :: l, 0, h => by simp
  | x :: l, k + 1, h => by
    have := er_perm l k (by simpa using h)
    simp only [List.getElem_cons_succ, List.eraseIdx_cons_succ]
    exact (List.Perm.swap _ _ _).trans (this.cons x)
theorem pop_at {rs : List Nat} {r : Int} (h : 0 ≤ r) (h2 : r < rs.length) (h4 : rs.length ≤ 1000) : ∃ c rs', popF (rs.map fun c => .str (one c)) [.int r] = some (.str (one c), rs'.map fun c => .str (one c)) ∧ (c :: rs').Perm rs ∧ rs'.length + 1 = rs.length := by
  have hk : r.toNat < rs.length := by omega
  refine ⟨rs[r.toNat], rs.eraseIdx r.toNat, ?_, ?_, ?_⟩
  · have hz : fzL (rs.map fun c => D.str (one c)) = true := fzL_map _ (fun _ => by simp) _
    have hi : seqIndex? r (rs.map fun c => D.str (one c)).length = some r.toNat := by
      rw [List.length_map]
      unfold seqIndex?
      have : ¬ r < 0 := by omega
      simp [this, h, h2]
    simp only [popF]
    rw [if_pos ⟨hz, by omega, by omega⟩, hi]
    simp [hk, er_map]
  · exact er_perm rs r.toNat hk
  · rw [List.length_eraseIdx_of_lt hk]; omega
def plE : EM FlowD := (mAsg 5 (mBin addD (mVarA 5) (mFrz (mMet 4 (mArgs [mFrz (mCall g__law_pick (mArgs [mVarA 0, mFrz (mCB lenD (mArgs [mVarA 4]))]))]) popF))))
theorem add_one (acc : List Nat) (c : Nat) (h : acc.length ≤ 1000) : addD (.str (txt acc)) (.str (one c)) = some (.str (txt (acc ++ [c]))) := by
  have e : txt acc ++ one c = txt (acc ++ [c]) := by
    apply str_ext
    rw [txt_cps]
    show (Array.mk acc ++ #[c]).toList = _
    simp
  simp only [addD]
  rw [if_pos (by rw [szl, txt_len]; show acc.length + 1 ≤ _; omega), e]
theorem pl_loop (cells : List Int) (p q r : Option D) : ∀ (ds : List D) (rs acc : List Nat) (a b c : Int) (x : Option D), ds.length ≤ rs.length → rs.length + acc.length ≤ 1000 → ∃ (rs' acc' : List Nat) (a' b' c' : Int) (y : Option D),
    loopF (.nm 6) plE ds [some (dk cells a b c), p, q, r, some (.lst true (rs.map fun c => .str (one c))), some (.str (txt acc)), x] = .ok (.next, [some (dk cells a' b' c'), p, q, r, some (.lst true (rs'.map fun c => .str (one c))), some (.str (txt acc')), y]) ∧ (acc' ++ rs').Perm (acc ++ rs) ∧ acc'.length = acc.length + ds.length
  | [], rs, acc, a, b, c, x, _, _ => ⟨rs, acc, a, b, c, x, by simp [e_lp0], List.Perm.refl _, by simp⟩
  | d :: ds, rs, acc, a, b, c, x, hl, h4 => by
    simp only [List.length_cons] at hl
    obtain ⟨z, a1, b1, c1, k1, k2, k3⟩ := s_law_pick cells a b c (m := (rs.length : Int)) (by omega) (Nat.lt_of_le_of_lt (Nat.log2_le_self _) (by omega))
    obtain ⟨ch, rs1, g1, g2, g3⟩ := pop_at k2 k3 (by omega)
    obtain ⟨rs', acc', a2, b2, c2, y, j1, j2, j3⟩ := pl_loop cells p q r ds rs1 (acc ++ [ch]) a1 b1 c1 (some d) (by omega) (by rw [List.length_append]; simp; omega)
    refine ⟨rs', acc', a2, b2, c2, y, ?_, ?_, by rw [j3]; simp; omega⟩
    · rw [e_lp]
      have ha := add_one acc ch (by omega)
      simp only [plE] at j1 ⊢
      simp [ownVars, putBack, k1, g1, ha]
      exact j1
    · refine j2.trans ?_
      rw [List.append_assoc]
      exact List.Perm.append_left acc g2
theorem s_law_term {l : List (Str × Int)} (h : okTabs l) (cells : List Int) (a b c : Int) : ∃ (x : Trm) (a' b' c' : Int), g__law_term [dk cells a b c, tabsD l] = .ok (trmD x, [some (dk cells a' b' c'), some (tabsD l)]) ∧ okTrm l x := by
  have n1 := h.n1
  have n4 := h.n4
  obtain ⟨r, a1, b1, c1, h1, h2, h3⟩ := s_law_pick cells a b c (m := (l.length : Int)) (by omega) (Nat.lt_of_le_of_lt (Nat.log2_le_self _) (by omega))
  have hr : r.toNat < l.length := by omega
  have hp : l[r.toNat] ∈ l := List.getElem_mem hr
  have hx := ix_tup (fz_tabs l) (i := r.toNat) (by rw [List.length_map]; exact hr)
  rw [List.getElem_map, show ((r.toNat : Nat) : Int) = r by omega] at hx
  rw [show D.tup (l.map tabD) = tabsD l from rfl] at hx
  generalize l[r.toNat] = p at hp hx
  obtain ⟨o1, o2, o3⟩ := h.tab p hp
  have zt : fz (tabsD l) = true := by simp [tabsD, fz_tabs]
  have hlt : lenD [tabsD l] = some (.int l.length) := by simp [tabsD]
  have hrg : rng1 [.int p.2] = some (rngD 0 p.2.toNat) := by
    show (if _ then _ else _) = _
    rw [if_pos (by omega)]
  have hzr : fzL (rngD 0 p.2.toNat) = true := fzL_map _ (fun _ => by simp) _
  have hlr : (rngD 0 p.2.toNat).length = p.2.toNat := by simp [rngD]
  obtain ⟨rs, acc, a2, b2, c2, y, j1, j2, j3⟩ := pl_loop cells (some (tabsD l)) (some (.str p.1)) (some (.int p.2)) (rngD 0 p.2.toNat) [97, 98, 99, 100] [] a1 b1 c1 none (by rw [hlr]; simp; omega) (by simp)
  rw [hlr] at j3
  simp only [List.length_nil, Nat.zero_add] at j3
  obtain ⟨f, a3, b3, c3, k1, k2, k3⟩ := s_law_pick cells a2 b2 c2 (m := 99) (by decide) (by decide)
  have hsub : acc.Sublist (acc ++ rs) := List.sublist_append_left acc rs
  have hj : (acc ++ rs).Perm [97, 98, 99, 100] := j2
  have hnd : (acc ++ rs).Nodup := hj.nodup_iff.mpr (by decide)
  refine ⟨⟨1 + f, p.1, p.2, txt acc⟩, a3, b3, c3, ?_, ?_⟩
  · simp only [plE] at j1
    rw [show ([97, 98, 99, 100].map fun c => D.str (one c)) = [.str "a", .str "b", .str "c", .str "d"] from rfl, show (.str (txt []) : D) = .str "" from rfl] at j1
    have zp : fz (tabD p) = true := fz_tab p
    have hq : frzQ (.tup [.str p.1, .int p.2]) = .tup [.str p.1, .int p.2] := frzQ_fz (by simp)
    simp (implicitDefEqProofs := false) [g__law_term, m__law_term, runD, ownOk, outsD, List.range, List.range.loop, ownVars, putBack, zt, hlt, h1, hx, mTg, mTgs, hq, tabD, rV_ok hrg, kFor_ok hzr, j1, k1, trmD]
  · refine ⟨?_, ?_, ?_, hp, ?_, ?_, ?_, ?_⟩
    · show _ ≤ 1 + f; omega
    · show 1 + f ≤ _; omega
    · show 1 + f ≠ _; omega
    · show ((txt acc).length : Int) = p.2
      rw [txt_len]; omega
    · show (txt acc).length ≤ 4
      rw [txt_len]; omega
    · show (txt acc).cps.toList.Nodup
      rw [txt_cps]; exact hnd.sublist hsub
    · show ∀ c ∈ (txt acc).cps.toList, _
      rw [txt_cps]
      intro c hc
      have : c ∈ [97, 98, 99, 100] := hj.mem_iff.mp (hsub.subset hc)
      exact this
theorem s_law_demand {l : List (Str × Int)} (h : okTabs l) (cells : List Int) (a b c : Int) : ∃ (x : Dmd) (a' b' c' : Int), g__law_demand [dk cells a b c, tabsD l] = .ok (dmdD x, [some (dk cells a' b' c'), some (tabsD l)]) ∧ okDmd l x := by
  obtain ⟨r, a1, b1, c1, h1, h2, h3⟩ := s_law_pick cells a b c (m := 3) (by decide) (by decide)
  have hz : fzL (rngD 0 (1 + r).toNat) = true := fzL_map _ (fun _ => by simp) _
  have hr : rng1 [.int (1 + r)] = some (rngD 0 (1 + r).toNat) := by
    show (if _ then _ else _) = _
    rw [if_pos (by omega)]
  have hlen : (rngD 0 (1 + r).toNat).length = (1 + r).toNat := by simp [rngD]
  have zt : fz (tabsD l) = true := by simp [tabsD, fz_tabs]
  obtain ⟨ts, a2, b2, c2, y, k1, k2, k3⟩ := draw (k := 3) (elt := mCall g__law_term (mArgs [mVarA 0, mVarA 1])) (fun a b c x => [some (dk cells a b c), some (tabsD l), none, x]) trmD (okTrm l) (fun _ _ _ _ _ => rfl) fz_trm (fun a b c d => by
    obtain ⟨x, a', b', c', h1, h2⟩ := s_law_term h cells a b c
    exact ⟨x, a', b', c', by simp [ownVars, putBack, zt, h1], h2⟩) (rngD 0 (1 + r).toNat) [] a1 b1 c1 none
  obtain ⟨g, a3, b3, c3, m1, m2, m3⟩ := s_law_pick cells a2 b2 c2 (m := 1999) (by decide) (by decide)
  have hft := fz_trms ts
  have hq : frzQ (.tup (ts.map trmD)) = .tup (ts.map trmD) := frzQ_fz (by simp [hft])
  rw [hlen] at k2
  refine ⟨⟨ts, g - 999⟩, a3, b3, c3, ?_, ⟨by show 1 ≤ ts.length; omega, by show ts.length ≤ 8; omega, k3, by show _ ≤ g - 999; omega, by show g - 999 ≤ _; omega⟩⟩
  simp (implicitDefEqProofs := false) [g__law_demand, m__law_demand, runD, ownOk, outsD, List.range, List.range.loop, ownVars, putBack, zt, h1, rV_ok hr, kLc_ok hz (show (rngD 0 (1 + r).toNat).length ≤ 1000 by rw [hlen]; omega), k1, restE, restV, frz_lstt hft, tupleD_l hft, hft, hq, m1, dmdD]
end Mi
namespace Mi
open PySem PySem.Spec PyProof.Rows L2
/-! ### folk drawn -/
def gm : Str := "ABCDEFGHIJKLMNOPQRSTUVWXYZ"
def fg : Str := "0123456789"
def okNam (s : Str) : Prop := 1 ≤ s.length ∧ s.length ≤ 8 ∧ ∀ c ∈ s.cps.toList, c ∈ gm.cps.toList
def okFk (s : Str) : Prop := okNam s ∨ ∃ c ∈ fg.cps.toList, s = one c
theorem gm_len : gm.cps.toList.length = 26 := by decide +kernel
theorem fg_len : fg.cps.toList.length = 10 := by decide +kernel
theorem ix_s {t : Str} {r : Int} (h : 0 ≤ r) (h2 : r < t.cps.toList.length) (hs : t.cps.toList.length ≤ 1000) : ∃ c ∈ t.cps.toList, ixD (.str t) (.int r) = some (.str (one c)) := by
  have hz : t.length ≤ sizeLine := by rw [szl]; show t.cps.size ≤ _; rw [← Array.length_toList]; omega
  have e : r.toNat < t.cps.toList.length := by omega
  refine ⟨t.cps.toList[r.toNat], List.getElem_mem e, ?_⟩
  simp only [ixD, hz, if_true, atI, ixN, h, h2, Option.bind_some, List.getElem?_eq_getElem e, Option.map_some, one]
theorem s_law_name (cells : List Int) (a b c : Int) : ∃ (s : Str) (a' b' c' : Int), g__law_name [dk cells a b c] = .ok (.str s, [some (dk cells a' b' c')]) ∧ okNam s := by
  obtain ⟨r, a1, b1, c1, h1, h2, h3⟩ := s_law_pick cells a b c (m := 8) (by decide) (by decide)
  obtain ⟨l, a2, b2, c2, y, k1, k2, k3⟩ := draw (k := 2) (elt := mBin ixD (mVarA 1) (mFrz (mCall g__law_pick (mArgs [mVarA 0, mFrz (mC (.int 26))])))) (fun a b c x => [some (dk cells a b c), some (.str gm), x]) (fun (c : Nat) => D.str (one c)) (fun c => c ∈ gm.cps.toList) (fun _ _ _ _ _ => rfl) (fun _ => by simp) (fun a b c d => by
    obtain ⟨r, a1, b1, c1, h1, h2, h3⟩ := s_law_pick cells a b c (m := 26) (by decide) (by decide)
    obtain ⟨ch, hc, hi⟩ := ix_s h2 (by rw [gm_len]; exact h3) (by rw [gm_len]; decide)
    exact ⟨ch, a1, b1, c1, by simp [ownVars, putBack, h1, hi], hc⟩) (rngD 0 (1 + r).toNat) [] a1 b1 c1 none
  have hlen : (rngD 0 (1 + r).toNat).length = (1 + r).toNat := by simp [rngD]
  have hl : l.length = (1 + r).toNat := by rw [k2, hlen]
  have hz : fzL (rngD 0 (1 + r).toNat) = true := fzL_map _ (fun _ => by simp) _
  have hr : rng1 [.int (1 + r)] = some (rngD 0 (1 + r).toNat) := by
    show (if _ then _ else _) = _
    rw [if_pos (by omega)]
  have hfl : fzL (l.map fun c => .str (one c)) = true := fzL_map _ (fun _ => by simp) _
  refine ⟨txt l, a2, b2, c2, ?_, by rw [txt_len]; omega, by rw [txt_len]; omega, by rw [txt_cps]; exact k3⟩
  simp only [gm] at k1
  simp (implicitDefEqProofs := false) [g__law_name, m__law_name, runD, ownOk, outsD, List.range, List.range.loop, ownVars, putBack, h1, rV_ok hr, kLc_ok hz (show (rngD 0 (1 + r).toNat).length ≤ 1000 by rw [hlen]; omega), k1, restE, restV, frz_lstt hfl, joinD_ones false l (by omega)]
theorem any_strs (s : Str) (F : List Str) : ((F.map D.str).any fun y => eqF y (.str s)) = decide (s ∈ F) := by
  rw [List.any_map, Bool.eq_iff_iff, List.any_eq_true]
  simp only [Function.comp, eqF, beq_iff_eq, decide_eq_true_eq]
  exact ⟨fun ⟨x, h1, h2⟩ => h2 ▸ h1, fun h => ⟨s, h, rfl⟩⟩
theorem flat_strs (F : List Str) : (F.map D.str).all flatD = true := by
  rw [List.all_map, List.all_eq_true]; intro _ _; rfl
theorem nin_l (s : Str) (F : List Str) (o : Bool) : ninD (.str s) (.lst o (F.map .str)) = some (.bl (decide (s ∉ F))) := by
  have h : flatD (.str s) = true := rfl
  simp only [ninD, inQ, flat_strs, any_strs, h]
  simp
theorem nin_t (s : Str) (F : List Str) : ninD (.str s) (.tup (F.map .str)) = some (.bl (decide (s ∉ F))) := by
  have h : flatD (.str s) = true := rfl
  simp only [ninD, inQ, flat_strs, any_strs, h]
  simp
def insT (F : List Str) (r : Int) (s : Str) : List Str := F.take r.toNat ++ [s] ++ F.drop r.toNat
theorem ins_strs {F : List Str} {r : Int} {s : Str} (h : 0 ≤ r) (h2 : r < 2 ^ 63) (hl : F.length ≤ 1000) : insF (F.map .str) [.int r, .str s] = some (.non, (insT F r s).map .str) := by
  simp only [insF]
  rw [if_pos ⟨fzL_strs F, by simp, h, h2, by rw [List.length_map]; omega⟩]
  simp [insT, List.map_take, List.map_drop]
theorem insT_perm (F : List Str) (r : Int) (s : Str) : (insT F r s).Perm (s :: F) := by
  unfold insT
  rw [List.append_assoc]
  refine List.perm_middle.trans ?_
  show (s :: (F.take r.toNat ++ F.drop r.toNat)).Perm _
  rw [List.take_append_drop]
def fkE : EM FlowD := (mSeq (mAsg 3 (mBin ixD (mFrz (mC (.str "0123456789"))) (mFrz (mCall g__law_pick (mArgs [mVarA 0, mFrz (mC (.int 10))])))))
  (mSeq (mIfS (mTB (mBin eqD (mFrz (mCall g__law_pick (mArgs [mVarA 0, mFrz (mC (.int 2))]))) (mFrz (mC (.int 1))))) (mAsg 3 (mCall g__law_name (mArgs [mVarA 0]))) (mNext))
  (mIfS (mTB (mBin ninD (mVarA 3) (mVarA 1))) (mDrop (mMet 1 (mArgs [mFrz (mCall g__law_pick (mArgs [mVarA 0, mFrz (mBin addD (mFrz (mCB lenD (mArgs [mVarA 1]))) (mFrz (mC (.int 1))))])), mFrz (mVarE 3)]) insF)) (mNext))))
def fkT : EM FlowD := (mIfS (mTB (mBin ninD (mVarA 3) (mVarA 1))) (mDrop (mMet 1 (mArgs [mFrz (mCall g__law_pick (mArgs [mVarA 0, mFrz (mBin addD (mFrz (mCB lenD (mArgs [mVarA 1]))) (mFrz (mC (.int 1))))])), mFrz (mVarE 3)]) insF)) (mNext))
theorem fk_split : fkE = (mSeq (mAsg 3 (mBin ixD (mFrz (mC (.str "0123456789"))) (mFrz (mCall g__law_pick (mArgs [mVarA 0, mFrz (mC (.int 10))])))))
  (mSeq (mIfS (mTB (mBin eqD (mFrz (mCall g__law_pick (mArgs [mVarA 0, mFrz (mC (.int 2))]))) (mFrz (mC (.int 1))))) (mAsg 3 (mCall g__law_name (mArgs [mVarA 0]))) (mNext)) fkT)) := rfl
theorem fk_tail (cells : List Int) (a b c : Int) (F : List Str) (x : Option D) (s : Str) (hl : F.length ≤ 100) (nd : F.Nodup) (hf : ∀ s ∈ F, okFk s) (hs : okFk s) : ∃ (F' : List Str) (a' b' c' : Int), fkT [some (dk cells a b c), some (.lst true (F.map .str)), x, some (.str s)] = .ok (.next, [some (dk cells a' b' c'), some (.lst true (F'.map .str)), x, some (.str s)]) ∧ F'.Nodup ∧ (∀ s ∈ F', okFk s) ∧ F'.length ≤ F.length + 1 := by
  have hn := nin_l s F true
  have zf := fzL_strs F
  by_cases h : s ∈ F
  · refine ⟨F, a, b, c, ?_, nd, hf, by omega⟩
    simp (implicitDefEqProofs := false) [fkT, hn, h]
  · obtain ⟨r, a1, b1, c1, k1, k2, k3⟩ := s_law_pick cells a b c (m := (F.length : Int) + 1) (by omega) (Nat.lt_of_le_of_lt (Nat.log2_le_self _) (by omega))
    have hi := ins_strs (F := F) (r := r) (s := s) k2 (by omega) (by omega)
    have hp := insT_perm F r s
    refine ⟨insT F r s, a1, b1, c1, ?_, hp.nodup_iff.mpr (List.nodup_cons.mpr ⟨h, nd⟩), fun t ht => ?_, by rw [hp.length_eq]; simp⟩
    · simp (implicitDefEqProofs := false) [fkT, hn, h, ownVars, putBack, k1, hi]
    · rcases List.mem_cons.mp (hp.mem_iff.mp ht) with rfl | ht
      · exact hs
      · exact hf t ht
theorem fk_loop (cells : List Int) : ∀ (ds : List D) (F : List Str) (a b c : Int) (x y : Option D), F.length + ds.length ≤ 100 → F.Nodup → (∀ s ∈ F, okFk s) → ∃ (F' : List Str) (a' b' c' : Int) (x' y' : Option D),
    loopF (.nm 2) fkE ds [some (dk cells a b c), some (.lst true (F.map .str)), x, y] = .ok (.next, [some (dk cells a' b' c'), some (.lst true (F'.map .str)), x', y']) ∧ F'.Nodup ∧ (∀ s ∈ F', okFk s) ∧ F'.length ≤ F.length + ds.length
  | [], F, a, b, c, x, y, _, h1, h2 => ⟨F, a, b, c, x, y, by simp [e_lp0], h1, h2, by simp⟩
  | d :: ds, F, a, b, c, x, y, hl, h1, h2 => by
    simp only [List.length_cons] at hl
    obtain ⟨r, a1, b1, c1, k1, k2, k3⟩ := s_law_pick cells a b c (m := 10) (by decide) (by decide)
    obtain ⟨ch, hc, hi⟩ := ix_s (t := fg) k2 (by rw [fg_len]; exact k3) (by rw [fg_len]; decide)
    obtain ⟨z, a2, b2, c2, k4, k5, k6⟩ := s_law_pick cells a1 b1 c1 (m := 2) (by decide) (by decide)
    simp only [fg] at hi
    by_cases hz : z = 1
    · subst hz
      obtain ⟨s, a3, b3, c3, k7, k8⟩ := s_law_name cells a2 b2 c2
      obtain ⟨F1, a4, b4, c4, j1, j2, j3, j4⟩ := fk_tail cells a3 b3 c3 F (some d) s (by omega) h1 h2 (.inl k8)
      obtain ⟨F2, a5, b5, c5, x', y', i1, i2, i3, i4⟩ := fk_loop cells ds F1 a4 b4 c4 (some d) (some (.str s)) (by omega) j2 j3
      refine ⟨F2, a5, b5, c5, x', y', ?_, i2, i3, by simp only [List.length_cons]; omega⟩
      rw [e_lp]
      rw [fk_split] at i1 ⊢
      simp (implicitDefEqProofs := false) [ownVars, putBack, k1, hi, k4, k7, j1]
      exact i1
    · obtain ⟨F1, a4, b4, c4, j1, j2, j3, j4⟩ := fk_tail cells a2 b2 c2 F (some d) (one ch) (by omega) h1 h2 (.inr ⟨ch, hc, rfl⟩)
      obtain ⟨F2, a5, b5, c5, x', y', i1, i2, i3, i4⟩ := fk_loop cells ds F1 a4 b4 c4 (some d) (some (.str (one ch))) (by omega) j2 j3
      refine ⟨F2, a5, b5, c5, x', y', ?_, i2, i3, by simp only [List.length_cons]; omega⟩
      rw [e_lp]
      rw [fk_split] at i1 ⊢
      simp (implicitDefEqProofs := false) [ownVars, putBack, k1, hi, k4, hz, j1]
      exact i1
theorem s_law_folk (cells : List Int) (a b c : Int) : ∃ (F : List Str) (a' b' c' : Int), g__law_folk [dk cells a b c] = .ok (.lst true (F.map .str), [some (dk cells a' b' c')]) ∧ F.Nodup ∧ (∀ s ∈ F, okFk s) ∧ F.length ≤ 6 := by
  obtain ⟨r, a1, b1, c1, h1, h2, h3⟩ := s_law_pick cells a b c (m := 7) (by decide) (by decide)
  have hlen : (rngD 0 r.toNat).length = r.toNat := by simp [rngD]
  have hz : fzL (rngD 0 r.toNat) = true := fzL_map _ (fun _ => by simp) _
  have hr : rng1 [.int r] = some (rngD 0 r.toNat) := by
    show (if _ then _ else _) = _
    rw [if_pos (by omega)]
  obtain ⟨F, a2, b2, c2, x', y', i1, i2, i3, i4⟩ := fk_loop cells (rngD 0 r.toNat) [] a1 b1 c1 none none (by rw [hlen]; simp; omega) .nil (by simp)
  refine ⟨F, a2, b2, c2, ?_, i2, i3, by rw [hlen] at i4; simp at i4; omega⟩
  have hkf := kFor_ok (t := .nm 2) (ms := fkE) (e := [some (dk cells a1 b1 c1), some (.lst true []), none, none]) hz
  rw [show (.lst true [] : D) = .lst true (([] : List Str).map .str) from rfl, i1] at hkf
  simp only [fkE, List.map_nil] at hkf
  have hm : ∀ env, vM 1 1 env (some (some (.lst true (F.map .str)))) = .ok (.lst true (F.map .str), env.set 1 none) := fun env => vM_mv (by simp) (by omega)
  simp (implicitDefEqProofs := false) [g__law_folk, m__law_folk, runD, ownOk, outsD, List.range, List.range.loop, ownVars, putBack, h1, rV_ok hr, hkf, hm]
end Mi
namespace Mi
open PySem PySem.Spec PyProof.Rows L2
/-! ### rows of unlike folk -/
def rows (F : List Str) : Nat → List (List Str)
  | 0 => [[]]
  | n + 1 => (rows F n).flatMap fun r => (F.filter fun x => decide (x ∉ r)).map fun x => r ++ [x]
def rowD (r : List Str) : D := .tup (r.map .str)
theorem fz_row (r : List Str) : fz (rowD r) = true := by simp [rowD, fzL_strs]
theorem fz_rows (L : List (List Str)) : fzL (L.map rowD) = true := fzL_map _ fz_row L
theorem flat_le {α β : Type} {f : α → List β} {k : Nat} : ∀ {l : List α}, (∀ x ∈ l, (f x).length ≤ k) → (l.flatMap f).length ≤ l.length * k
  | [], _ => by simp
  | x :: l, h => by
    rw [List.flatMap_cons, List.length_append, List.length_cons, Nat.succ_mul]
    have h1 := h x List.mem_cons_self
    have h2 := flat_le (l := l) fun y hy => h y (List.mem_cons_of_mem _ hy)
    omega
theorem rows_len (F : List Str) : ∀ n, (rows F n).length ≤ F.length ^ n
  | 0 => by simp [rows]
  | n + 1 => by
    have h := rows_len F n
    have h2 : (rows F (n + 1)).length ≤ (rows F n).length * F.length := flat_le fun r _ => by
      rw [List.length_map]; exact List.length_filter_le _ _
    rw [Nat.pow_succ]
    exact Nat.le_trans h2 (Nat.mul_le_mul_right _ h)
theorem rows_item (F : List Str) : ∀ n, ∀ r ∈ rows F n, r.length = n ∧ ∀ s ∈ r, s ∈ F
  | 0, r, h => by
    simp only [rows, List.mem_singleton] at h
    subst h; simp
  | n + 1, r, h => by
    simp only [rows, List.mem_flatMap, List.mem_map, List.mem_filter] at h
    obtain ⟨r0, h0, x, ⟨hx, _⟩, rfl⟩ := h
    obtain ⟨i1, i2⟩ := rows_item F n r0 h0
    refine ⟨by rw [List.length_append, i1]; rfl, fun s hs => ?_⟩
    rcases List.mem_append.mp hs with hs | hs
    · exact i2 s hs
    · rw [List.mem_singleton] at hs; subst hs; exact hx
theorem flatMap_cg {α β : Type} {f g : α → List β} : ∀ {l : List α}, (∀ x ∈ l, f x = g x) → l.flatMap f = l.flatMap g
  | [], _ => rfl
  | x :: l, h => by rw [List.flatMap_cons, List.flatMap_cons, h x List.mem_cons_self, flatMap_cg fun y hy => h y (List.mem_cons_of_mem _ hy)]
def pR : D → D → Bool := fun d d1 => match ninD d1 d with
  | some (.bl b) => b
  | _ => false
def fR : D → D → D := fun d d1 => (addD d (.tup [d1])).getD .non
theorem pR_row (r : List Str) (s : Str) : pR (rowD r) (.str s) = decide (s ∉ r) := by
  unfold pR rowD
  rw [nin_t]
theorem addD_row {r : List Str} {s : Str} (h : r.length ≤ 1000) : addD (rowD r) (.tup [.str s]) = some (rowD (r ++ [s])) := by
  unfold rowD
  simp only [addD]
  have h1 : r.length + 1 ≤ 16777216 := by omega
  simp [szl, h1, fzL_strs]
theorem fR_row {r : List Str} {s : Str} (h : r.length ≤ 1000) : fR (rowD r) (.str s) = rowD (r ++ [s]) := by
  unfold fR
  rw [addD_row h]; rfl
theorem step_rows {F : List Str} {L : List (List Str)} (h : ∀ r ∈ L, r.length ≤ 1000) : ((L.map rowD).flatMap fun d => ((F.map D.str).filter (pR d)).map fun d1 => frzQ (fR d d1)) = (L.flatMap fun r => (F.filter fun x => decide (x ∉ r)).map fun x => r ++ [x]).map rowD := by
  rw [List.flatMap_map, List.map_flatMap]
  refine flatMap_cg fun r hr => ?_
  rw [List.filter_map, List.map_map, List.map_map]
  have : (pR (rowD r) ∘ D.str) = fun x => decide (x ∉ r) := by
    funext s; exact pR_row r s
  rw [this]
  refine List.map_congr_left fun s _ => ?_
  simp only [Function.comp]
  rw [fR_row (h r hr)]
  exact frzQ_fz (fz_row _)
def arE : EM FlowD := (mAsg 2 (mLc2 (mIt1 (mFrz (mVarE 2))) (.nm 4) (mYes) (mFrz (mVarE 0)) (.nm 5) (mTB (mBin ninD (mVarA 5) (mVarA 4))) (mBin addD (mVarA 4) (mFrz (mTup (mArgs [mFrz (mVarE 5)])))) [4, 5] [5]))
theorem ar_turn {F : List Str} (p x : Option D) {L : List (List Str)} (h : ∀ r ∈ L, r.length ≤ 1000) (hl : L.length * F.length ≤ 100000) : arE [some (.lst false (F.map .str)), p, some (.lst true (L.map rowD)), x, none, none] = .ok (.next, [some (.lst false (F.map .str)), p, some (.lst true ((L.flatMap fun r => (F.filter fun x => decide (x ∉ r)).map fun x => r ++ [x]).map rowD)), x, none, none]) := by
  have zF := fzL_strs F
  have zL := fz_rows L
  have hq : frzQ (.lst false (L.map rowD)) = .lst false (L.map rowD) := frzQ_fz (by simp [zL])
  have hqF : frzQ (.lst false (F.map D.str)) = .lst false (F.map .str) := frzQ_fz (by simp [zF])
  have hs : seqI [.lst false (L.map rowD)] = some (L.map rowD) := by simp [seqI, zL]
  have e1 := lc2_pure (k := 4) (k1 := 5) (by decide) (ma1 := mFrz (mVarE 0)) (cond1 := mTB (mBin ninD (mVarA 5) (mVarA 4))) (elt := mBin addD (mVarA 4) (mFrz (mTup (mArgs [mFrz (mVarE 5)])))) fR pR (F.map .str) (e := [some (.lst false (F.map .str)), p, some (.lst false (L.map rowD)), x, none, none]) (ds := L.map rowD) zL (by rw [List.length_map, List.length_map]; exact hl)
    (fun d hd => ⟨.val (.lst false (F.map .str)), by simp [zF, hqF], by simp [Arg.get, seq2, zF]⟩)
    (fun d hd d1 h1 => by
      obtain ⟨r, hr, rfl⟩ := List.mem_map.mp hd
      obtain ⟨s, hs, rfl⟩ := List.mem_map.mp h1
      rw [pR_row]
      have := nin_t s r
      rw [← rowD] at this
      simp [this])
    (fun d hd d1 h1 _ => by
      obtain ⟨r, hr, rfl⟩ := List.mem_map.mp hd
      obtain ⟨s, hs, rfl⟩ := List.mem_map.mp h1
      have ha := addD_row (s := s) (h r hr)
      have hq1 : frzQ (.tup [.str s]) = .tup [.str s] := frzQ_fz (by simp)
      rw [fR_row (h r hr)]
      simp [ha, hq1])
  rw [step_rows h] at e1
  have hvo := fun env => vE_own 2 env zL
  simp (implicitDefEqProofs := false) [arE, hvo, hq, sqV_ok hs, e1, restV]
theorem ar_loop {F : List Str} (p : Option D) : ∀ (ds : List D) (n : Nat) (x : Option D), n + ds.length ≤ 1000 → (∀ k, k < n + ds.length → F.length ^ k * F.length ≤ 100000) → ∃ y, loopF (.nm 3) arE ds [some (.lst false (F.map .str)), p, some (.lst true ((rows F n).map rowD)), x, none, none] = .ok (.next, [some (.lst false (F.map .str)), p, some (.lst true ((rows F (n + ds.length)).map rowD)), y, none, none])
  | [], n, x, _, _ => ⟨x, by simp [e_lp0]⟩
  | d :: ds, n, x, h, hk => by
    simp only [List.length_cons] at h hk
    have ht := ar_turn (F := F) p (some d) (L := rows F n) (fun r hr => by rw [(rows_item F n r hr).1]; omega) (Nat.le_trans (Nat.mul_le_mul_right _ (rows_len F n)) (hk n (by omega)))
    obtain ⟨y, hy⟩ := ar_loop p ds (n + 1) (some d) (by omega) (fun k h1 => hk k (by omega))
    refine ⟨y, ?_⟩
    rw [e_lp]
    simp only [lpV, tg_nm, List.set_cons_succ, List.set_cons_zero]
    rw [ht, show (rows F n).flatMap (fun r => (F.filter fun x => decide (x ∉ r)).map fun x => r ++ [x]) = rows F (n + 1) from rfl]
    simp only [bind_ok, kLp, List.length_cons]
    rw [show n + (ds.length + 1) = n + 1 + ds.length by omega]
    exact hy
theorem rng1_n {n : Nat} (h : n ≤ 1000000) : rng1 [.int n] = some (rngD 0 n) := by
  have : (n : Int) < 2 ^ 62 ∧ -(2 ^ 62) ≤ (n : Int) := by omega
  simp only [rng1]
  rw [if_pos this]
  simp
theorem s_arrangements {F : List Str} {n : Nat} {z : Int} (hzn : z = (n : Int)) (h : n ≤ 1000) (hk : ∀ k, k < n → F.length ^ k * F.length ≤ 100000) : g_arrangements [.lst false (F.map .str), .int z] = .ok (.lst true ((rows F n).map rowD), [some (.lst false (F.map .str)), some (.int z)]) := by
  have zF := fzL_strs F
  have hr : rng1 [.int z] = some (rngD 0 n) := by rw [hzn]; exact rng1_n (by omega)
  clear hzn
  have hlen : (rngD 0 n).length = n := by simp [rngD]
  have hz : fzL (rngD 0 n) = true := fzL_map _ (fun _ => by simp) _
  obtain ⟨y, hy⟩ := ar_loop (F := F) (some (.int z)) (rngD 0 n) 0 none (by rw [hlen]; omega) (fun k h1 => hk k (by rw [hlen] at h1; omega))
  rw [hlen, Nat.zero_add] at hy
  have hkf := kFor_ok (t := .nm 3) (ms := arE) (e := [some (.lst false (F.map .str)), some (.int z), some (.lst true [.tup []]), none, none, none]) hz
  rw [show (.lst true [.tup []] : D) = .lst true ((rows F 0).map rowD) from rfl, hy] at hkf
  simp (implicitDefEqProofs := false) only [arE] at hkf
  have h0 : (.lst true ((rows F 0).map rowD) : D) = .lst true [.tup []] := rfl
  rw [h0] at hkf
  have zR := fz_rows (rows F n)
  have hm : ∀ env, vM 2 2 env (some (some (.lst true ((rows F n).map rowD)))) = .ok (.lst true ((rows F n).map rowD), env.set 2 none) := fun env => vM_mv (by simp) (by omega)
  have hq0 : frzQ (.tup []) = .tup [] := frzQ_fz (by simp)
  simp (implicitDefEqProofs := false) [g_arrangements, m_arrangements, runD, ownOk, outsD, List.range, List.range.loop, zF, rV_ok hr, hq0, hkf, hm]
end Mi
namespace Mi
open PySem PySem.Spec PyProof.Rows L2
/-! ### the law's own rows -/
def stepR (F : List Str) (r : List Str) : List (List Str) := (F.filter fun x => decide (x ∉ r)).map fun x => r ++ [x]
theorem rows_succ (F : List Str) (n : Nat) : rows F (n + 1) = (rows F n).flatMap (stepR F) := rfl
def liE : EM FlowD := (mDrop (mMet 4 (mArgs [mFrz (mLc (mIt1 (mFrz (mVarE 0))) (.nm 6) (mTB (mBin ninD (mVarA 6) (mVarA 5))) (mBin addD (mVarA 5) (mFrz (mTup (mArgs [mFrz (mVarE 6)])))) [6])]) extF))
theorem li_turn {F : List Str} (p w x : Option D) {r : List Str} {acc : List (List Str)} (h : r.length ≤ 1000) (hF : F.length ≤ 1000) (hl : acc.length + F.length ≤ 1000000) : liE [some (.lst false (F.map .str)), p, w, x, some (.lst true (acc.map rowD)), some (rowD r), none] = .ok (.next, [some (.lst false (F.map .str)), p, w, x, some (.lst true ((acc ++ stepR F r).map rowD)), some (rowD r), none]) := by
  have zF := fzL_strs F
  have hqF : frzQ (.lst false (F.map D.str)) = .lst false (F.map .str) := frzQ_fz (by simp [zF])
  have hs : seqI [.lst false (F.map D.str)] = some (F.map .str) := by simp [seqI, zF]
  have e1 := lc_filter (k := 6) (cond := mTB (mBin ninD (mVarA 6) (mVarA 5))) (elt := mBin addD (mVarA 5) (mFrz (mTup (mArgs [mFrz (mVarE 6)])))) (fR (rowD r)) (pR (rowD r)) (e := [some (.lst false (F.map .str)), p, w, x, some (.lst true (acc.map rowD)), some (rowD r), none]) (ds := F.map .str) zF (by rw [List.length_map]; exact hF)
    (fun d hd => by
      obtain ⟨s, hs, rfl⟩ := List.mem_map.mp hd
      rw [pR_row]
      have := nin_t s r
      rw [← rowD] at this
      simp [this])
    (fun d hd _ => by
      obtain ⟨s, hs, rfl⟩ := List.mem_map.mp hd
      have ha := addD_row (s := s) h
      have hq1 : frzQ (.tup [.str s]) = .tup [.str s] := frzQ_fz (by simp)
      rw [fR_row h]
      simp [ha, hq1])
  have e2 : (((F.map D.str).filter (pR (rowD r))).map fun d => frzQ (fR (rowD r) d)) = (stepR F r).map rowD := by
    rw [List.filter_map, List.map_map, stepR, List.map_map]
    have : (pR (rowD r) ∘ D.str) = fun x => decide (x ∉ r) := by
      funext s; exact pR_row r s
    rw [this]
    refine List.map_congr_left fun s _ => ?_
    simp only [Function.comp]
    rw [fR_row h]
    exact frzQ_fz (fz_row _)
  rw [e2] at e1
  have z1 := fz_rows (stepR F r)
  have z2 := fz_rows acc
  have hsl : (stepR F r).length ≤ F.length := by rw [stepR, List.length_map]; exact List.length_filter_le _ _
  have hx : extF (acc.map rowD) [.lst false ((stepR F r).map rowD)] = some (.non, (acc ++ stepR F r).map rowD) := by
    simp only [extF]
    rw [if_pos ⟨z2, z1, by rw [List.length_map, List.length_map]; omega⟩, List.map_append]
  simp (implicitDefEqProofs := false) [liE, zF, hqF, sqV_ok hs, e1, restV, frz_lstt z1, hx]
theorem li_loop {F : List Str} (p w x : Option D) (hF : F.length ≤ 1000) : ∀ (L acc : List (List Str)) (y : Option D), (∀ r ∈ L, r.length ≤ 1000) → acc.length + L.length * F.length ≤ 100000 → ∃ y', loopF (.nm 5) liE (L.map rowD) [some (.lst false (F.map .str)), p, w, x, some (.lst true (acc.map rowD)), y, none] = .ok (.next, [some (.lst false (F.map .str)), p, w, x, some (.lst true ((acc ++ L.flatMap (stepR F)).map rowD)), y', none])
  | [], acc, y, _, _ => ⟨y, by simp [e_lp0]⟩
  | r :: L, acc, y, h, hl => by
    rw [List.length_cons, Nat.succ_mul] at hl
    have hsl : (stepR F r).length ≤ F.length := by rw [stepR, List.length_map]; exact List.length_filter_le _ _
    have ht := li_turn p w x (r := r) (acc := acc) (h r List.mem_cons_self) hF (by omega)
    obtain ⟨y', hy⟩ := li_loop p w x hF L (acc ++ stepR F r) (some (rowD r)) (fun q hq => h q (List.mem_cons_of_mem _ hq)) (by rw [List.length_append]; omega)
    refine ⟨y', ?_⟩
    rw [List.map_cons, e_lp]
    simp only [lpV, tg_nm, List.set_cons_succ, List.set_cons_zero]
    rw [ht]
    simp only [bind_ok, kLp]
    rw [hy, List.flatMap_cons, List.append_assoc]
def lrE : EM FlowD := (mSeq (mAsg 4 (mLst (mArgs []))) (mSeq (mFor (mIt1 (mFrz (mVarE 2))) (.nm 5) liE) (mAsg 2 (mVarE 4))))
theorem lr_turn {F : List Str} (p x u y : Option D) (o : Bool) {L : List (List Str)} (hF : F.length ≤ 1000) (h : ∀ r ∈ L, r.length ≤ 1000) (hl : L.length * F.length ≤ 100000) : ∃ u' y', lrE [some (.lst false (F.map .str)), p, some (.lst o (L.map rowD)), x, u, y, none] = .ok (.next, [some (.lst false (F.map .str)), p, some (.lst false ((L.flatMap (stepR F)).map rowD)), x, u', y', none]) := by
  have zF := fzL_strs F
  have zL := fz_rows L
  have hq : frzQ (.lst false (L.map rowD)) = .lst false (L.map rowD) := frzQ_fz (by simp [zL])
  have hs : seqI [.lst false (L.map rowD)] = some (L.map rowD) := by simp [seqI, zL]
  have zN := fz_rows (L.flatMap (stepR F))
  have hqN : frzQ (.lst false ((L.flatMap (stepR F)).map rowD)) = .lst false ((L.flatMap (stepR F)).map rowD) := frzQ_fz (by simp [zN])
  obtain ⟨y', hy⟩ := li_loop p (some (.lst false (L.map rowD))) x hF L [] y h (by simpa using hl)
  rw [List.nil_append, List.map_nil] at hy
  have hkf := kFor_ok (t := .nm 5) (ms := liE) (e := [some (.lst false (F.map .str)), p, some (.lst false (L.map rowD)), x, some (.lst true []), y, none]) zL
  rw [hy] at hkf
  have hv4 := fun env => vE_own 4 env zN
  have hvo := fun env => vE_own 2 env zL
  refine ⟨some (.lst false ((L.flatMap (stepR F)).map rowD)), y', ?_⟩
  cases o with
  | false => simp (implicitDefEqProofs := false) [lrE, zL, hq, sqV_ok hs, hkf, hv4, hqN]
  | true => simp (implicitDefEqProofs := false) [lrE, zL, hvo, hq, sqV_ok hs, hkf, hv4, hqN]
theorem lr_loop {F : List Str} (p : Option D) (hF : F.length ≤ 1000) : ∀ (ds : List D) (n : Nat) (o : Bool) (x u y : Option D), n + ds.length ≤ 1000 → (∀ k, k < n + ds.length → F.length ^ k * F.length ≤ 100000) → ∃ x' u' y' o', loopF (.nm 3) lrE ds [some (.lst false (F.map .str)), p, some (.lst o ((rows F n).map rowD)), x, u, y, none] = .ok (.next, [some (.lst false (F.map .str)), p, some (.lst o' ((rows F (n + ds.length)).map rowD)), x', u', y', none])
  | [], n, o, x, u, y, _, _ => ⟨x, u, y, o, by simp [e_lp0]⟩
  | d :: ds, n, o, x, u, y, h, hk => by
    simp only [List.length_cons] at h hk
    obtain ⟨u1, y1, ht⟩ := lr_turn (F := F) p (some d) u y o (L := rows F n) hF (fun r hr => by rw [(rows_item F n r hr).1]; omega) (Nat.le_trans (Nat.mul_le_mul_right _ (rows_len F n)) (hk n (by omega)))
    obtain ⟨x', u', y', o', hy⟩ := lr_loop p hF ds (n + 1) false (some d) u1 y1 (by omega) (fun k h1 => hk k (by omega))
    refine ⟨x', u', y', o', ?_⟩
    rw [e_lp]
    simp only [lpV, tg_nm, List.set_cons_succ, List.set_cons_zero]
    rw [ht, ← rows_succ]
    simp only [bind_ok, kLp, List.length_cons]
    rw [show n + (ds.length + 1) = n + 1 + ds.length by omega]
    exact hy
theorem s_law_rows {F : List Str} {n : Nat} {z : Int} (hzn : z = (n : Int)) (hF : F.length ≤ 1000) (h : n ≤ 1000) (hk : ∀ k, k < n → F.length ^ k * F.length ≤ 100000) : ∃ o, g__law_rows [.lst false (F.map .str), .int z] = .ok (.lst o ((rows F n).map rowD), [some (.lst false (F.map .str)), some (.int z)]) := by
  have zF := fzL_strs F
  have hr : rng1 [.int z] = some (rngD 0 n) := by rw [hzn]; exact rng1_n (by omega)
  clear hzn
  have hlen : (rngD 0 n).length = n := by simp [rngD]
  have hz : fzL (rngD 0 n) = true := fzL_map _ (fun _ => by simp) _
  obtain ⟨x', u', y', o', hy⟩ := lr_loop (F := F) (some (.int z)) hF (rngD 0 n) 0 true none none none (by rw [hlen]; omega) (fun k h1 => hk k (by rw [hlen] at h1; omega))
  rw [hlen, Nat.zero_add] at hy
  have hkf := kFor_ok (t := .nm 3) (ms := lrE) (e := [some (.lst false (F.map .str)), some (.int z), some (.lst true [.tup []]), none, none, none, none]) hz
  have h0 : (.lst true ((rows F 0).map rowD) : D) = .lst true [.tup []] := rfl
  rw [h0] at hy
  rw [hy] at hkf
  simp (implicitDefEqProofs := false) only [lrE, liE] at hkf
  have zR := fz_rows (rows F n)
  have hq0 : frzQ (.tup []) = .tup [] := frzQ_fz (by simp)
  refine ⟨o', ?_⟩
  cases o' with
  | true =>
    have hm : ∀ env, vM 2 2 env (some (some (.lst true ((rows F n).map rowD)))) = .ok (.lst true ((rows F n).map rowD), env.set 2 none) := fun env => vM_mv (by simp) (by omega)
    simp (implicitDefEqProofs := false) [g__law_rows, m__law_rows, runD, ownOk, outsD, List.range, List.range.loop, zF, rV_ok hr, hq0, hkf, hm]
  | false =>
    have hm : ∀ env, vM 2 2 env (some (some (.lst false ((rows F n).map rowD)))) = .ok (.lst false ((rows F n).map rowD), env) := fun env => by
      unfold vM; simp [zR]
    simp (implicitDefEqProofs := false) [g__law_rows, m__law_rows, runD, ownOk, outsD, List.range, List.range.loop, zF, rV_ok hr, hq0, hkf, hm]
end Mi
namespace Mi
open PySem PySem.Spec PyProof.Rows L2
/-! ### folk judged -/
theorem allD_bls {α : Type} {b : Bool} (p : α → Bool) : ∀ (l : List α), allD [.lst b (l.map fun x => .bl (p x))] = some (.bl (l.all p)) := by
  intro l
  have : blsOf (l.map fun x => .bl (p x)) = some (l.map p) := by
    induction l with
    | nil => rfl
    | cons x l ih => rw [List.map_cons, blsOf, ih]; rfl
  simp only [allD, this, Option.map_some, List.all_map]
  congr 2
def ofB (s t : Str) : Bool := decide (1 ≤ s.length) && decide (s.length ≤ 8) && s.cps.toList.all fun c => decide (c ∈ t.cps.toList)
theorem s_is_ofB {s t : Str} (hl : s.length ≤ 1000) : g_is_of [.str s, .str t] = .ok (.bl (ofB s t), [some (.str s), some (.str t)]) := by
  have hL := lenD_s hl
  by_cases h1 : 1 ≤ s.length
  · have l1 : (1 : Int) ≤ s.length := by omega
    by_cases h2 : s.length ≤ 8
    · have l2 : (s.length : Int) ≤ 8 := by omega
      have hlc := lc_pure (k := 2) (elt := mBin inD (mVarA 2) (mVarA 1)) (fun d => match d with | .str s => .bl (s.cps.toList.all fun c => decide (c ∈ t.cps.toList)) | _ => .non) (e := [some (.str s), some (.str t), none]) (ds := chs s) (fz_chs s) (by rw [len_chs]; omega) (fun d hd => by
        obtain ⟨c, hc, rfl⟩ := List.mem_map.mp hd
        simp [inD_one]
        simp [one])
      have e2 : ((chs s).map fun d => frzQ ((fun d => match d with | .str s => D.bl (s.cps.toList.all fun c => decide (c ∈ t.cps.toList)) | _ => .non) d)) = s.cps.toList.map fun c => D.bl (decide (c ∈ t.cps.toList)) := by
        rw [chs, List.map_map]
        refine List.map_congr_left fun c _ => ?_
        simp [one]
      rw [e2] at hlc
      have hall := allD_bls (b := false) (fun c => decide (c ∈ t.cps.toList)) s.cps.toList
      have hfl : fzL (s.cps.toList.map fun c => D.bl (decide (c ∈ t.cps.toList))) = true := fzL_map _ (fun _ => by simp) _
      have hb : ofB s t = s.cps.toList.all fun c => decide (c ∈ t.cps.toList) := by simp [ofB, h1, h2]
      rw [hb]
      generalize (s.cps.toList.map fun c => D.bl (decide (c ∈ t.cps.toList))) = X at hlc hall hfl
      generalize (s.cps.toList.all fun c => decide (c ∈ t.cps.toList)) = Y at hall
      simp (implicitDefEqProofs := false) [g_is_of, m_is_of, runD, ownOk, outsD, List.range, List.range.loop, isK, hL, l1, l2, sqV_ok (seqI_str s), hlc, restV, frz_lstt hfl, hall]
    · have l2 : ¬ (s.length : Int) ≤ 8 := by omega
      have hb : ofB s t = false := by simp [ofB, h2]
      rw [hb]
      simp (implicitDefEqProofs := false) [g_is_of, m_is_of, runD, ownOk, outsD, List.range, List.range.loop, isK, hL, l1, l2]
  · have l1 : ¬ (1 : Int) ≤ s.length := by omega
    have hb : ofB s t = false := by simp [ofB, h1]
    rw [hb]
    simp (implicitDefEqProofs := false) [g_is_of, m_is_of, runD, ownOk, outsD, List.range, List.range.loop, isK, hL, l1]
def isStr : D → Bool
  | .str _ => true
  | _ => false
theorem isK_str {d : D} (h : okT d) : isK .tStr d = some (isStr d) := by
  obtain ⟨_, h⟩ := h
  cases d <;> simp [tyD] at h <;> rfl
theorem s_is_ofN {d : D} {t : Str} (h : okT d) (hs : isStr d = false) : g_is_of [d, .str t] = .ok (.bl false, [some d, some (.str t)]) := by
  have hz := h.1
  have hk := isK_str h
  rw [hs] at hk
  simp (implicitDefEqProofs := false) [g_is_of, m_is_of, runD, ownOk, outsD, List.range, List.range.loop, hz, hk]
def comB (s : Str) : Bool := decide (s.length = 1) && s.cps.toList.all fun c => decide (c ∈ fg.cps.toList)
theorem s_is_comer {s : Str} (hl : s.length ≤ 1000) : g_is_comer [.str s] = .ok (.bl (comB s), [some (.str s)]) := by
  have hL := lenD_s hl
  by_cases h1 : s.length = 1
  · have l1 : (s.length : Int) = 1 := by omega
    obtain ⟨c, hc⟩ : ∃ c, s = one c := by
      have : s.cps.toList.length = 1 := by simpa [Str.length] using h1
      obtain ⟨c, hc⟩ := List.length_eq_one_iff.mp this
      exact ⟨c, str_ext (by simp [one, hc])⟩
    subst hc
    have hi := inD_one c fg
    have hb : comB (one c) = decide (c ∈ fg.cps.toList) := by simp [comB, one, Str.length]
    rw [hb]
    simp only [fg] at hi ⊢
    simp (implicitDefEqProofs := false) [g_is_comer, m_is_comer, runD, ownOk, outsD, List.range, List.range.loop, isK, hL, l1, hi]
  · have l1 : ¬ (s.length : Int) = 1 := by omega
    have hb : comB s = false := by simp [comB, h1]
    rw [hb]
    simp (implicitDefEqProofs := false) [g_is_comer, m_is_comer, runD, ownOk, outsD, List.range, List.range.loop, isK, hL, l1]
def folkB : D → Bool
  | .str s => ofB s gm || comB s
  | _ => false
def okF (d : D) : Prop := okT d ∧ ∀ s, d = .str s → s.length ≤ 1000
theorem s_is_folk {d : D} (h : okF d) : g_is_folk [d] = .ok (.bl (folkB d), [some d]) := by
  obtain ⟨h, hs⟩ := h
  have hz := h.1
  cases e : isStr d with
  | true =>
    cases d <;> simp [isStr] at e
    rename_i s
    have hl := hs s rfl
    have h1 := s_is_ofB (t := gm) hl
    have h2 := s_is_comer hl
    have h3 : g_is_name [.str s] = .ok (.bl (ofB s gm), [some (.str s)]) := by
      simp only [gm] at h1 ⊢
      simp (implicitDefEqProofs := false) [g_is_name, m_is_name, runD, ownOk, outsD, List.range, List.range.loop, ownVars, putBack, h1]
    cases e1 : ofB s gm with
    | true =>
      rw [e1] at h3
      simp (implicitDefEqProofs := false) [g_is_folk, m_is_folk, runD, ownOk, outsD, List.range, List.range.loop, ownVars, putBack, h3, folkB, e1]
    | false =>
      rw [e1] at h3
      simp (implicitDefEqProofs := false) [g_is_folk, m_is_folk, runD, ownOk, outsD, List.range, List.range.loop, ownVars, putBack, h3, h2, folkB, e1]
  | false =>
    have hb : folkB d = false := by cases d <;> first | rfl | simp [isStr] at e
    have h1 := s_is_ofN (t := gm) h e
    have hk := isK_str h
    rw [e] at hk
    have h2 : g_is_name [d] = .ok (.bl false, [some d]) := by
      simp only [gm] at h1 ⊢
      simp (implicitDefEqProofs := false) [g_is_name, m_is_name, runD, ownOk, outsD, List.range, List.range.loop, ownVars, putBack, hz, h1]
    have h3 : g_is_comer [d] = .ok (.bl false, [some d]) := by
      simp (implicitDefEqProofs := false) [g_is_comer, m_is_comer, runD, ownOk, outsD, List.range, List.range.loop, hz, hk]
    rw [hb]
    simp (implicitDefEqProofs := false) [g_is_folk, m_is_folk, runD, ownOk, outsD, List.range, List.range.loop, ownVars, putBack, hz, h2, h3]
theorem folkB_ok {s : Str} (h : okFk s) : folkB (.str s) = true := by
  rcases h with ⟨h1, h2, h3⟩ | ⟨c, hc, rfl⟩
  · have : ofB s gm = true := by
      simp only [ofB, h1, h2, decide_true, Bool.true_and, List.all_eq_true, decide_eq_true_eq]
      exact h3
    simp [folkB, this]
  · have : comB (one c) = true := by simpa [comB, one, Str.length] using hc
    simp [folkB, this]
theorem okFk_len {s : Str} (h : okFk s) : s.length ≤ 8 := by
  rcases h with ⟨_, h2, _⟩ | ⟨c, _, rfl⟩
  · exact h2
  · simp [one, Str.length]
theorem okF_str {s : Str} (h : s.length ≤ 1000) : okF (.str s) := ⟨⟨by simp, rfl⟩, fun t e => by cases e; exact h⟩
theorem all_folk_lc {d : D} {l : List D} (b : Option D) (hl : l.length ≤ 1000) (ho : ∀ x ∈ l, okF x) (zl : fzL l = true) :
    kLc (.nm 2) mYes (mCall g_is_folk (mArgs [mVarA 2])) [2] (l, [b, some d, none]) = .ok (.lst true (l.map fun x => .bl (folkB x)), [b, some d, none]) := by
  have e1 := lc_pure (k := 2) (elt := mCall g_is_folk (mArgs [mVarA 2])) (fun x => .bl (folkB x)) (e := [b, some d, none]) (ds := l) zl hl (fun x hx => by
    have := s_is_folk (ho x hx)
    have z := (ho x hx).1.1
    simp [ownVars, putBack, this, z])
  rw [e1]
  simp [restV]
/- no list or tuple of folk -/
theorem s_inst_no1 {bk d : D} (hb : fz bk = false) (z : fz d = true) (hk : isK2 .tLst .tTup d = some (.bl false)) : g_instances [bk, d] = .exc ⟨"NoFolk", [], []⟩ [some bk, some d] := by
  have h1 : g_is_listed [d] = .ok (.bl false, [some d]) := by
    simp (implicitDefEqProofs := false) [g_is_listed, m_is_listed, runD, ownOk, outsD, List.range, List.range.loop, z, hk]
  simp (implicitDefEqProofs := false) [g_instances, m_instances, runD, ownOk, outsD, List.range, List.range.loop, ownVars, putBack, z, h1, hb]
theorem s_inst_no2 {bk d : D} {l : List D} (hb : fz bk = false) (z : fz d = true) (hk : isK2 .tLst .tTup d = some (.bl true)) (hsq : seqI [d] = some l) (hl : l.length ≤ 1000) (ho : ∀ x ∈ l, okF x) (zl : fzL l = true) (hn : l.all folkB = false) : g_instances [bk, d] = .exc ⟨"NoFolk", [], []⟩ [some bk, some d] := by
  have h1 : g_is_listed [d] = .ok (.bl true, [some d]) := by
    simp (implicitDefEqProofs := false) [g_is_listed, m_is_listed, runD, ownOk, outsD, List.range, List.range.loop, z, hk]
  have e1 := all_folk_lc (d := d) (some bk) hl ho zl
  have ha := allD_bls (b := false) folkB l
  rw [hn] at ha
  have hf : fzL (l.map fun x => D.bl (folkB x)) = true := fzL_map _ (fun _ => by simp) _
  simp (implicitDefEqProofs := false) [g_instances, m_instances, runD, ownOk, outsD, List.range, List.range.loop, ownVars, putBack, z, h1, frzQ_fz, sqV_ok hsq, e1, frz_lstt hf, ha, hb]
theorem s_inst_no3 {bk d : D} {l : List D} (hb : fz bk = false) (z : fz d = true) (hk : isK2 .tLst .tTup d = some (.bl true)) (hsq : seqI [d] = some l) (hl : l.length ≤ 1000) (ho : ∀ x ∈ l, okF x) (zl : fzL l = true) (hn : l.all folkB = true) (hu : g_are_unlike [d] = .ok (.bl false, [some d])) : g_instances [bk, d] = .exc ⟨"NoFolk", [], []⟩ [some bk, some d] := by
  have h1 : g_is_listed [d] = .ok (.bl true, [some d]) := by
    simp (implicitDefEqProofs := false) [g_is_listed, m_is_listed, runD, ownOk, outsD, List.range, List.range.loop, z, hk]
  have e1 := all_folk_lc (d := d) (some bk) hl ho zl
  have ha := allD_bls (b := false) folkB l
  rw [hn] at ha
  have hf : fzL (l.map fun x => D.bl (folkB x)) = true := fzL_map _ (fun _ => by simp) _
  simp (implicitDefEqProofs := false) [g_instances, m_instances, runD, ownOk, outsD, List.range, List.range.loop, ownVars, putBack, z, h1, frzQ_fz, sqV_ok hsq, e1, frz_lstt hf, ha, hb, hu]
theorem s_refused {bk d : D} (hb : fz bk = false) (z : fz d = true) (h : g_instances [bk, d] = .exc ⟨"NoFolk", [], []⟩ [some bk, some d]) : g__law_refused [bk, d] = .ok (.bl true, [some bk, some d]) := by
  simp (implicitDefEqProofs := false) [g__law_refused, m__law_refused, runD, ownOk, outsD, List.range, List.range.loop, ownVars, putBack, h, hb, z, yes_NoFolk]
end Mi
namespace Mi
open PySem PySem.Spec PyProof.Rows L2
/-! ### instances -/
def instF (F : List Str) (i : Nat) (x : Dmd) : List D := (rows F (due x.ts).length).map fun r => .tup [.int (i : Int), rowD r]
def inst (F : List Str) : Nat → List Dmd → List D
  | _, [] => []
  | k, x :: ds => instF F k x ++ inst F (k + 1) ds
theorem fz_instF (F : List Str) (i : Nat) (x : Dmd) : fzL (instF F i x) = true := fzL_map _ (fun r => by simp [fz_row]) _
theorem fz_inst (F : List Str) : ∀ (ds : List Dmd) (k : Nat), fzL (inst F k ds) = true
  | [], k => rfl
  | x :: ds, k => by rw [inst, fzL_append, fz_instF, fz_inst F ds]; rfl
def okB (F : List Str) (x : Dmd) : Prop := ∀ k, k < (due x.ts).length → F.length ^ k * F.length ≤ 100000
theorem rows_big {F : List Str} {x : Dmd} (h : okB F x) : (rows F (due x.ts).length).length ≤ 100000 := by
  have h1 := rows_len F (due x.ts).length
  cases e : (due x.ts).length with
  | zero => simp [rows]
  | succ k =>
    rw [e] at h1
    have := h k (by omega)
    rw [Nat.pow_succ] at h1
    omega
theorem instF_len {F : List Str} {x : Dmd} (i : Nat) (h : okB F x) : (instF F i x).length ≤ 100000 := by
  rw [instF, List.length_map]; exact rows_big h
def enL : Nat → List Dmd → List D
  | _, [] => []
  | k, x :: ds => .tup [.int (k : Nat), dmdD x] :: enL (k + 1) ds
theorem enL_eq : ∀ (ds : List Dmd) (k : Nat), ((ds.map dmdD).zipIdx k).map (fun p => D.tup [.int (p.2 : Nat), p.1]) = enL k ds
  | [], k => rfl
  | x :: ds, k => by
    rw [List.map_cons, List.zipIdx_cons, List.map_cons, enL_eq ds (k + 1)]; rfl
theorem fz_enL : ∀ (ds : List Dmd) (k : Nat), fzL (enL k ds) = true
  | [], k => rfl
  | x :: ds, k => by
    rw [enL, fzL, fz_enL ds]
    simp [fz_dmd]
def inE : EM FlowD := (mDrop (mMet 2 (mArgs [mFrz (mLc (mIt1 (mFrz (mCall g_arrangements (mArgs [mVarA 1, mFrz (mCB lenD (mArgs [mFrz (mCall g_letters_in (mArgs [mVarA 4]))]))])))) (.nm 5) (mYes) (mTup (mArgs [mFrz (mVarE 3), mFrz (mVarE 5)])) [5])]) extF))
theorem due4 (x : Dmd) : (due x.ts).length ≤ 4 := due_len x.ts
theorem in_turn {l : List (Str × Int)} {F : List Str} (p : Option D) {x : Dmd} (h : okDmd l x) (hb : okB F x) {acc : List D} (za : fzL acc = true) (ha : acc.length ≤ 1000000) (i : Nat) : inE [p, some (.lst false (F.map .str)), some (.lst true acc), some (.int (i : Int)), some (dmdD x), none] = .ok (.next, [p, some (.lst false (F.map .str)), some (.lst true (acc ++ instF F i x)), some (.int (i : Int)), some (dmdD x), none]) := by
  have hl := s_letters_in h
  have zd := fz_dmd x
  have h4 := due4 x
  obtain ⟨z, hz⟩ : ∃ z : Int, z = ((due x.ts).length : Int) := ⟨_, rfl⟩
  have hlen := len_due x
  rw [← hz] at hlen
  have hA := s_arrangements (F := F) hz (by omega) hb
  have hbig := rows_big hb
  have hil := instF_len i hb
  have zR := fz_rows (rows F (due x.ts).length)
  have zi := fz_instF F i x
  have zu : fz (dueD x) = true := by simp [dueD]
  have hiF : instF F i x = (rows F (due x.ts).length).map fun r => .tup [.int (i : Int), rowD r] := rfl
  generalize rows F (due x.ts).length = L at hA hbig zR hiF
  generalize (i : Int) = ii at hiF ⊢
  have hs : seqI [.lst false (L.map rowD)] = some (L.map rowD) := by simp [seqI, zR]
  have zF := fzL_strs F
  have e1 := lc_pureX (k := 5) (elt := mTup (mArgs [mFrz (mVarE 3), mFrz (mVarE 5)])) (fun d => .tup [.int ii, d]) (e := [p, some (.lst false (F.map .str)), some (.lst true acc), some (.int ii), some (dmdD x), none]) (ds := L.map rowD) zR (by rw [List.length_map]; exact hbig) (fun d hd => by
    obtain ⟨r, hr, rfl⟩ := List.mem_map.mp hd
    have zr := fz_row r
    simp [zr, frzQ_fz zr])
  have e2 : ((L.map rowD).map fun d => frzQ ((fun d => .tup [.int ii, d]) d)) = instF F i x := by
    rw [List.map_map, hiF]
    refine List.map_congr_left fun r _ => ?_
    exact frzQ_fz (by simp [fz_row])
  rw [e2] at e1
  have hx : extF acc [.lst false (instF F i x)] = some (.non, acc ++ instF F i x) := by
    simp only [extF]
    rw [if_pos ⟨za, zi, by omega⟩]
  generalize instF F i x = I at e1 hx zi hil
  simp (implicitDefEqProofs := false) [inE, ownVars, putBack, zd, hl, frzQ_fz zu, hlen, zF, hA, frz_lstt zR, sqV_ok hs, e1, restV, frz_lstt zi, hx]
theorem in_loop {l : List (Str × Int)} {F : List Str} (p : Option D) : ∀ (ds : List Dmd) (k : Nat) (acc : List D) (u v : Option D), (∀ x ∈ ds, okDmd l x ∧ okB F x) → fzL acc = true → acc.length + ds.length * 100000 ≤ 1000000 → ∃ u' v', loopF (.tp [(.nm 3), (.nm 4)]) inE (enL k ds) [p, some (.lst false (F.map .str)), some (.lst true acc), u, v, none] = .ok (.next, [p, some (.lst false (F.map .str)), some (.lst true (acc ++ inst F k ds)), u', v', none])
  | [], k, acc, u, v, _, _, _ => ⟨u, v, by simp [e_lp0, enL, inst]⟩
  | x :: ds, k, acc, u, v, h, za, hl => by
    rw [List.length_cons, Nat.succ_mul] at hl
    obtain ⟨h1, h2⟩ := h x List.mem_cons_self
    have ht := in_turn (F := F) p h1 h2 za (by omega) k
    have hil := instF_len k h2
    obtain ⟨u', v', hy⟩ := in_loop p ds (k + 1) (acc ++ instF F k x) (some (.int (k : Int))) (some (dmdD x)) (fun q hq => h q (List.mem_cons_of_mem _ hq)) (by rw [fzL_append, za, fz_instF]; rfl) (by rw [List.length_append]; omega)
    refine ⟨u', v', ?_⟩
    rw [enL, e_lp]
    have htg : mTg (.tp [(.nm 3), (.nm 4)]) (.tup [.int (k : Nat), dmdD x]) [p, some (.lst false (F.map .str)), some (.lst true acc), u, v, none] = some [p, some (.lst false (F.map .str)), some (.lst true acc), some (.int (k : Int)), some (dmdD x), none] := by
      simp [mTg, mTgs]
    rw [htg]
    simp only [lpV]
    rw [ht]
    simp only [bind_ok, kLp]
    rw [hy, inst, List.append_assoc]
theorem s_instances_of {b : Bk} (h : okBk b) {F : List Str} (hB : ∀ x ∈ b.ds, okB F x) : g_instances_of [bkD true b, .lst false (F.map .str)] = .ok (.lst true (inst F 0 b.ds), [some (bkD true b), some (.lst false (F.map .str))]) := by
  have n1 := fz_bk b
  have zF := fzL_strs F
  have zd := fz_dmds b.ds
  have hq : frzQ (.tup (b.ds.map dmdD)) = .tup (b.ds.map dmdD) := frzQ_fz (by simp [zd])
  have hen : enumF [.tup (b.ds.map dmdD)] = some (enL 0 b.ds) := by
    simp only [enumF, zd, if_true, enumL]
    rw [enL_eq]
  obtain ⟨u', v', hy⟩ := in_loop (F := F) (some (bkD true b)) b.ds 0 [] none none (fun x hx => ⟨h.ds x hx, hB x hx⟩) rfl (by have := h.n6; simp; omega)
  rw [List.nil_append] at hy
  have hkf := kFor_ok (t := .tp [(.nm 3), (.nm 4)]) (ms := inE) (e := [some (bkD true b), some (.lst false (F.map .str)), some (.lst true []), none, none, none]) (fz_enL b.ds 0)
  rw [hy] at hkf
  simp (implicitDefEqProofs := false) only [inE] at hkf
  have zI := fz_inst F b.ds 0
  generalize inst F 0 b.ds = I at hkf zI
  generalize enL 0 b.ds = Z at hkf hen
  have hm : ∀ env, vM 2 2 env (some (some (.lst true I))) = .ok (.lst true I, env.set 2 none) := fun env => vM_mv (by simp) (by omega)
  simp (implicitDefEqProofs := false) [g_instances_of, m_instances_of, runD, ownOk, outsD, List.range, List.range.loop, n1, zF, hq, rV_ok hen, hkf, hm]
/- the folk as a frozen list or tuple -/
structure Flk (d : D) (F : List Str) : Prop where
  z : fz d = true
  k : isK2 .tLst .tTup d = some (.bl true)
  sq : seqI [d] = some (F.map .str)
  ln : lenD [d] = some (.int F.length)
  st : sortX [d] = some (.lst true ((sortS F).map .str))
theorem flk_l {F : List Str} (h : F.length < 64) : Flk (.lst false (F.map .str)) F := ⟨by simp [fzL_strs], rfl, by simp [seqI, fzL_strs], by simp, sortD_labs false h⟩
theorem flk_t {F : List Str} (h : F.length < 64) : Flk (.tup (F.map .str)) F := ⟨by simp [fzL_strs], rfl, by simp [seqI, fzL_strs], by simp, by
  simp only [sortX, strsOf_map]
  rw [if_pos h]⟩
theorem strs_okF {F : List Str} (hf : ∀ s ∈ F, okFk s) : ∀ x ∈ F.map D.str, okF x := fun x hx => by
  obtain ⟨s, hs, rfl⟩ := List.mem_map.mp hx
  exact okF_str (by have := okFk_len (hf s hs); omega)
theorem strs_all {F : List Str} (hf : ∀ s ∈ F, okFk s) : (F.map D.str).all folkB = true := by
  rw [List.all_eq_true]
  intro x hx
  obtain ⟨s, hs, rfl⟩ := List.mem_map.mp hx
  exact folkB_ok (hf s hs)
theorem s_instances {b : Bk} (h : okBk b) {d : D} {F : List Str} (k : Flk d F) (h64 : F.length < 64) (hf : ∀ s ∈ F, okFk s) (nd : F.Nodup) (hB : ∀ x ∈ b.ds, okB (sortS F) x) : g_instances [bkD true b, d] = .ok (.lst true (inst (sortS F) 0 b.ds), [some (bkD true b), some d]) := by
  have n1 := fz_bk b
  have z := k.z
  have h1 : g_is_listed [d] = .ok (.bl true, [some d]) := by
    simp (implicitDefEqProofs := false) [g_is_listed, m_is_listed, runD, ownOk, outsD, List.range, List.range.loop, z, k.k]
  have e1 := all_folk_lc (d := d) (some (bkD true b)) (l := F.map .str) (by rw [List.length_map]; omega) (strs_okF hf) (fzL_strs F)
  have ha := allD_bls (b := false) folkB (F.map .str)
  rw [strs_all hf] at ha
  have hfz : fzL ((F.map D.str).map fun x => D.bl (folkB x)) = true := fzL_map _ (fun _ => by simp) _
  have hu := s_are_unlike z k.sq (by omega) k.ln nd
  have hI := s_instances_of h hB
  have zS := fzL_strs (sortS F)
  have hst := k.st
  have hsq := k.sq
  generalize ((F.map D.str).map fun x => D.bl (folkB x)) = X at e1 ha hfz
  simp (implicitDefEqProofs := false) [g_instances, m_instances, runD, ownOk, outsD, List.range, List.range.loop, ownVars, putBack, z, h1, frzQ_fz, sqV_ok hsq, e1, frz_lstt hfz, ha, n1, hu, hst, frz_lstt zS, zS, hI]
theorem s_instancesO {b : Bk} (h : okBk b) {F : List Str} (h64 : F.length < 64) (hf : ∀ s ∈ F, okFk s) (nd : F.Nodup) (hB : ∀ x ∈ b.ds, okB (sortS F) x) : g_instances [bkD true b, .lst true (F.map .str)] = .ok (.lst true (inst (sortS F) 0 b.ds), [some (bkD true b), some (.lst false (F.map .str))]) := by
  have n1 := fz_bk b
  have k := flk_l h64
  have zF := fzL_strs F
  have h1 : g_is_listed [.lst true (F.map .str)] = .ok (.bl true, [some (.lst true (F.map .str))]) := by
    have : isK2 .tLst .tTup (.lst true (F.map D.str)) = some (.bl true) := rfl
    simp (implicitDefEqProofs := false) [g_is_listed, m_is_listed, runD, ownOk, outsD, List.range, List.range.loop, zF, this]
  have e1 := all_folk_lc (d := .lst false (F.map .str)) (some (bkD true b)) (l := F.map .str) (by rw [List.length_map]; omega) (strs_okF hf) (fzL_strs F)
  have ha := allD_bls (b := false) folkB (F.map .str)
  rw [strs_all hf] at ha
  have hfz : fzL ((F.map D.str).map fun x => D.bl (folkB x)) = true := fzL_map _ (fun _ => by simp) _
  have hu := s_are_unlike k.z k.sq (by omega) k.ln nd
  have hI := s_instances_of h hB
  have zS := fzL_strs (sortS F)
  have hst := k.st
  have hsq := k.sq
  have z := k.z
  have hvo := fun env => vE_own 1 env zF
  have hq : frzQ (.lst false (F.map D.str)) = .lst false (F.map .str) := frzQ_fz z
  rw [sortX_l] at hst
  generalize ((F.map D.str).map fun x => D.bl (folkB x)) = X at e1 ha hfz
  simp (implicitDefEqProofs := false) [g_instances, m_instances, runD, ownOk, outsD, List.range, List.range.loop, ownVars, putBack, zF, h1, hvo, hq, sqV_ok hsq, e1, frz_lstt hfz, ha, n1, hu, hst, frz_lstt zS, zS, hI]
end Mi
namespace Mi
open PySem PySem.Spec PyProof.Rows L2
/-! ### the due list; what is told -/
theorem frz_any {o : Bool} {l : List D} (h : fzL l = true) : frzQ (.lst o l) = .lst false l := by
  cases o with
  | true => exact frz_lstt h
  | false => exact frzQ_fz (by simp [h])
def duE : EM FlowD := (mDrop (mMet 2 (mArgs [mFrz (mLc (mIt1 (mFrz (mCall g__law_rows (mArgs [mFrz (mCB sortX (mArgs [mVarA 1])), mFrz (mCB lenD (mArgs [mFrz (mCall g__law_letters (mArgs [mFrz (mBin ixD (mVarA 0) (mVarA 3))]))]))])))) (.nm 4) (mYes) (mTup (mArgs [mFrz (mVarE 3), mFrz (mVarE 4)])) [4])]) extF))
theorem du_turn {l : List (Str × Int)} {F : List Str} (o : Bool) (h64 : F.length < 64) {T : List Dmd} {x : Dmd} (h : okDmd l x) (hb : okB (sortS F) x) {acc : List D} (za : fzL acc = true) (ha : acc.length ≤ 1000000) (i : Nat) (hix : ixD (.tup (T.map dmdD)) (.int (i : Int)) = some (dmdD x)) : duE [some (.tup (T.map dmdD)), some (.lst o (F.map .str)), some (.lst true acc), some (.int (i : Int)), none] = .ok (.next, [some (.tup (T.map dmdD)), some (.lst o (F.map .str)), some (.lst true (acc ++ instF (sortS F) i x)), some (.int (i : Int)), none]) := by
  have zT := fz_dmds T
  have hl := s_law_letters h
  have zd := fz_dmd x
  have h4 := due4 x
  obtain ⟨z, hz⟩ : ∃ z : Int, z = ((due x.ts).length : Int) := ⟨_, rfl⟩
  have hlen := len_due x
  rw [← hz] at hlen
  have hsl : (sortS F).length = F.length := by rw [sortS, List.length_mergeSort]
  obtain ⟨o', hA⟩ := s_law_rows (F := sortS F) hz (by omega) (by omega) hb
  have hbig := rows_big hb
  have hil := instF_len i hb
  have zR := fz_rows (rows (sortS F) (due x.ts).length)
  have zi := fz_instF (sortS F) i x
  have zu : fz (dueD x) = true := by simp [dueD]
  have hiF : instF (sortS F) i x = (rows (sortS F) (due x.ts).length).map fun r => .tup [.int (i : Int), rowD r] := rfl
  generalize rows (sortS F) (due x.ts).length = L at hA hbig zR hiF
  generalize (i : Int) = ii at hiF hix ⊢
  have hs : seqI [.lst false (L.map rowD)] = some (L.map rowD) := by simp [seqI, zR]
  have zF := fzL_strs F
  have zS := fzL_strs (sortS F)
  have hst : sortD [.lst o (F.map .str)] = some (.lst true ((sortS F).map .str)) := sortD_labs o h64
  have e1 := lc_pureX (k := 4) (elt := mTup (mArgs [mFrz (mVarE 3), mFrz (mVarE 4)])) (fun d => .tup [.int ii, d]) (e := [some (.tup (T.map dmdD)), some (.lst o (F.map .str)), some (.lst true acc), some (.int ii), none]) (ds := L.map rowD) zR (by rw [List.length_map]; exact hbig) (fun d hd => by
    obtain ⟨r, hr, rfl⟩ := List.mem_map.mp hd
    have zr := fz_row r
    simp [zr, frzQ_fz zr])
  have e2 : ((L.map rowD).map fun d => frzQ ((fun d => .tup [.int ii, d]) d)) = instF (sortS F) i x := by
    rw [List.map_map, hiF]
    refine List.map_congr_left fun r _ => ?_
    exact frzQ_fz (by simp [fz_row])
  rw [e2] at e1
  have hx : extF acc [.lst false (instF (sortS F) i x)] = some (.non, acc ++ instF (sortS F) i x) := by
    simp only [extF]
    rw [if_pos ⟨za, zi, by omega⟩]
  have hfo : frzQ (.lst o' (L.map rowD)) = .lst false (L.map rowD) := frz_any zR
  generalize instF (sortS F) i x = I at e1 hx zi hil
  simp (implicitDefEqProofs := false) [duE, ownVars, putBack, zT, hix, zd, frzQ_fz zd, hl, frzQ_fz zu, hlen, hst, frz_lstt zS, zS, hA, hfo, sqV_ok hs, e1, restV, frz_lstt zi, hx]
def instA (F : List Str) (T : List Dmd) (i : Nat) : List D := match T[i]? with
  | some x => instF F i x
  | none => []
theorem du_loop {l : List (Str × Int)} {F : List Str} (o : Bool) (h64 : F.length < 64) {T : List Dmd} (hT : ∀ x ∈ T, okDmd l x ∧ okB (sortS F) x) : ∀ (m : List Nat) (acc : List D) (u : Option D), (∀ i ∈ m, i < T.length) → fzL acc = true → acc.length + m.length * 100000 ≤ 1000000 → ∃ u', loopF (.nm 3) duE (m.map fun (i : Nat) => .int (0 + (i : Int))) [some (.tup (T.map dmdD)), some (.lst o (F.map .str)), some (.lst true acc), u, none] = .ok (.next, [some (.tup (T.map dmdD)), some (.lst o (F.map .str)), some (.lst true (acc ++ m.flatMap (instA (sortS F) T))), u', none])
  | [], acc, u, _, _, _ => ⟨u, by simp [e_lp0]⟩
  | i :: m, acc, u, hm, za, hl => by
    rw [List.length_cons, Nat.succ_mul] at hl
    have hi := hm i List.mem_cons_self
    obtain ⟨h1, h2⟩ := hT _ (List.getElem_mem hi)
    have hix := ix_tup (fz_dmds T) (i := i) (by rw [List.length_map]; exact hi)
    rw [List.getElem_map] at hix
    have ht := du_turn o h64 h1 h2 za (by omega) i hix
    have hil := instF_len i h2
    have hA : instA (sortS F) T i = instF (sortS F) i T[i] := by simp [instA, hi]
    obtain ⟨u', hy⟩ := du_loop o h64 hT m (acc ++ instF (sortS F) i T[i]) (some (.int (i : Int))) (fun q hq => hm q (List.mem_cons_of_mem _ hq)) (by rw [fzL_append, za, fz_instF]; rfl) (by rw [List.length_append]; omega)
    refine ⟨u', ?_⟩
    rw [List.map_cons, e_lp]
    simp only [lpV, tg_nm, List.set_cons_succ, List.set_cons_zero, Int.zero_add] at hy ⊢
    rw [ht]
    simp only [bind_ok, kLp]
    rw [hy, List.flatMap_cons, hA, List.append_assoc]
theorem inst_range (F : List Str) : ∀ (T : List Dmd) (k : Nat), (List.range T.length).flatMap (fun i => match T[i]? with | some x => instF F (k + i) x | none => []) = inst F k T
  | [], k => rfl
  | x :: T, k => by
    rw [List.length_cons, List.range_succ_eq_map, List.flatMap_cons, List.flatMap_map, inst]
    have h1 : (match (x :: T)[0]? with | some x => instF F (k + 0) x | none => []) = instF F k x := rfl
    rw [h1, ← inst_range F T (k + 1)]
    refine congrArg (instF F k x ++ ·) (flatMap_cg fun i _ => ?_)
    rw [List.getElem?_cons_succ, show k + 1 + i = k + (i + 1) by omega]
theorem s_law_due {l : List (Str × Int)} {F : List Str} (o : Bool) (h64 : F.length < 64) {T : List Dmd} (h6 : T.length ≤ 6) (hT : ∀ x ∈ T, okDmd l x ∧ okB (sortS F) x) : g__law_due [.tup (T.map dmdD), .lst o (F.map .str)] = .ok (.lst true (inst (sortS F) 0 T), [some (.tup (T.map dmdD)), some (.lst o (F.map .str))]) := by
  have zT := fz_dmds T
  have zF := fzL_strs F
  obtain ⟨z, hz⟩ : ∃ z : Int, z = (T.length : Int) := ⟨_, rfl⟩
  have hlen : lenD [.tup (T.map dmdD)] = some (.int z) := by rw [hz]; simp
  have hr : rng1 [.int z] = some ((List.range T.length).map fun (i : Nat) => .int (0 + (i : Int))) := by
    rw [hz, rng1_n (by omega)]; rfl
  clear hz
  have hzr : fzL ((List.range T.length).map fun (i : Nat) => D.int (0 + (i : Int))) = true := fzL_map _ (fun _ => by simp) _
  obtain ⟨u', hy⟩ := du_loop o h64 hT (List.range T.length) [] none (fun i hi => List.mem_range.mp hi) rfl (by simp; omega)
  have hin : (List.range T.length).flatMap (instA (sortS F) T) = inst (sortS F) 0 T := by
    rw [← inst_range (sortS F) T 0]
    exact flatMap_cg fun i _ => by simp [instA]
  rw [List.nil_append, hin] at hy
  have hkf := kFor_ok (t := .nm 3) (ms := duE) (e := [some (.tup (T.map dmdD)), some (.lst o (F.map .str)), some (.lst true []), none, none]) hzr
  rw [hy] at hkf
  simp (implicitDefEqProofs := false) only [duE] at hkf
  generalize (List.range T.length).map (fun (i : Nat) => D.int (0 + (i : Int))) = R at hr hkf
  have zI := fz_inst (sortS F) T 0
  generalize inst (sortS F) 0 T = I at hkf zI
  have hm : ∀ env, vM 2 2 env (some (some (.lst true I))) = .ok (.lst true I, env.set 2 none) := fun env => vM_mv (by simp) (by omega)
  have hmm : m__law_due [some (.tup (T.map dmdD)), some (.lst o (F.map .str)), none, none, none] = .ok (.ret (.lst true I), [some (.tup (T.map dmdD)), some (.lst o (F.map .str)), none, u', none]) := by
    simp (implicitDefEqProofs := false) [m__law_due, zT, hlen, rV_ok hr, hkf, hm]
  clear hkf hr hlen
  cases o <;> simp (implicitDefEqProofs := false) [g__law_due, runD, ownOk, outsD, List.range, List.range.loop, zT, zF, hmm]
/-! told -/
structure okI (d : D) : Prop where
  ex : ∃ (i : Int) (e : D), d = .tup [.int i, e] ∧ fz e = true
  p : okP 64 d = true
theorem neD_tup {l : List D} (h : okP 64 (.tup l) = true) : neD (.tup l) (.tup l) = some (.bl false) := by
  have hs : scalD (.tup l) (.tup l) = none := rfl
  have he : eqB (.tup l) (.tup l) = true := PySem.SeqAt.eqv_refl _ (okP_shape _ _ h).1
  simp [neD, eqQ, hs, h, he]
def itE : EM FlowD := (mIfS (mOrT (mNotT (mTB (mIsi .tTup (mFrz (mBin ixD (mVarA 0) (mVarA 2)))))) (mOrT (mTB (mBin neD (mFrz (mBin ixD (mVarA 0) (mVarA 2))) (mFrz (mBin ixD (mVarA 1) (mVarA 2))))) (mTB (mIsi .tBool (mFrz (mBin ixD (mFrz (mBin ixD (mVarA 0) (mVarA 2))) (mFrz (mC (.int 0))))))))) (mRet (mC (.bl false))) (mNext))
theorem ix_lst {l : List D} (z : fzL l = true) {i : Nat} (hi : i < l.length) (o : Bool) : ixD (.lst o l) (.int (i : Int)) = some l[i] := by
  have h1 : (i : Int) < l.length := by omega
  have h2 := fzL_mem z _ (List.getElem_mem hi)
  simp [ixD, atI, ixN, h1, pick, hi, h2]
theorem it_turn {L : List D} (zL : fzL L = true) (o o' : Bool) {i : Nat} (hi : i < L.length) (h : okI L[i]) : itE [some (.lst o L), some (.lst o' L), some (.int (i : Int))] = .ok (.next, [some (.lst o L), some (.lst o' L), some (.int (i : Int))]) := by
  have x1 := ix_lst zL hi o
  have x2 := ix_lst zL hi o'
  obtain ⟨j, e, he, ze⟩ := h.ex
  have hp := h.p
  rw [he] at x1 x2 hp
  have hn := neD_tup hp
  have hk : isK .tTup (.tup [.int j, e]) = some true := rfl
  have hkb : isK .tBool (.int j) = some false := rfl
  have i0 : ixD (.tup [.int j, e]) (.int 0) = some (.int j) := ixD_t0 (by simp)
  have hq : frzQ (.tup [.int j, e]) = .tup [.int j, e] := frzQ_fz (by simp [ze])
  generalize (i : Int) = ii at x1 x2 ⊢
  simp (implicitDefEqProofs := false) [itE, x1, x2, hq, hn, hk, hkb, i0]
theorem it_loop {L : List D} (zL : fzL L = true) (o o' : Bool) (hL : ∀ x ∈ L, okI x) : ∀ (m : List Nat) (u : Option D), (∀ i ∈ m, i < L.length) → ∃ u', loopF (.nm 2) itE (m.map fun (i : Nat) => .int (0 + (i : Int))) [some (.lst o L), some (.lst o' L), u] = .ok (.next, [some (.lst o L), some (.lst o' L), u'])
  | [], u, _ => ⟨u, by simp [e_lp0]⟩
  | i :: m, u, hm => by
    have hi := hm i List.mem_cons_self
    have ht := it_turn zL o o' hi (hL _ (List.getElem_mem hi))
    obtain ⟨u', hy⟩ := it_loop zL o o' hL m (some (.int (i : Int))) (fun q hq => hm q (List.mem_cons_of_mem _ hq))
    refine ⟨u', ?_⟩
    rw [List.map_cons, e_lp]
    simp only [lpV, tg_nm, List.set_cons_succ, List.set_cons_zero, Int.zero_add] at hy ⊢
    rw [ht]
    simp only [bind_ok, kLp]
    exact hy
theorem s_told {L : List D} (zL : fzL L = true) (o o' : Bool) (hl : L.length ≤ 1000000) (hL : ∀ x ∈ L, okI x) : g__law_is_told [.lst o L, .lst o' L] = .ok (.bl true, [some (.lst o L), some (.lst o' L)]) := by
  obtain ⟨z, hz⟩ : ∃ z : Int, z = (L.length : Int) := ⟨_, rfl⟩
  have hlen : ∀ b, lenD [.lst b L] = some (.int z) := fun b => by rw [hz]; rfl
  have hr : rng1 [.int z] = some ((List.range L.length).map fun (i : Nat) => .int (0 + (i : Int))) := by
    rw [hz, rng1_n (by omega)]; rfl
  clear hz
  have hzr : fzL ((List.range L.length).map fun (i : Nat) => D.int (0 + (i : Int))) = true := fzL_map _ (fun _ => by simp) _
  obtain ⟨u', hy⟩ := it_loop zL o o' hL (List.range L.length) none (fun i hi => List.mem_range.mp hi)
  have hkf := kFor_ok (t := .nm 2) (ms := itE) (e := [some (.lst o L), some (.lst o' L), none]) hzr
  rw [hy] at hkf
  simp (implicitDefEqProofs := false) only [itE] at hkf
  generalize (List.range L.length).map (fun (i : Nat) => D.int (0 + (i : Int))) = R at hr hkf
  have hk : ∀ b, isK .tLst (.lst b L) = some true := fun _ => rfl
  have l1 := hlen o
  have l2 := hlen o'
  have hmm : m__law_is_told [some (.lst o L), some (.lst o' L), none] = .ok (.ret (.bl true), [some (.lst o L), some (.lst o' L), u']) := by
    simp (implicitDefEqProofs := false) [m__law_is_told, hk, l1, l2, rV_ok hr, hkf, -lenD_l]
  clear hkf hr l1 l2 hlen
  cases o <;> cases o' <;> simp (implicitDefEqProofs := false) [g__law_is_told, runD, ownOk, outsD, List.range, List.range.loop, zL, hmm]
end Mi
namespace Mi
open PySem PySem.Spec PyProof.Rows L2
/-! ### what is refused -/
theorem merge_app (xs ys acc : List (Key × D)) : mergeG (xs ++ ys) acc = mergeG ys (mergeG xs acc) := by
  simp only [mergeG, List.foldl_append]
theorem merge_len : ∀ (xs acc : List (Key × D)), (mergeG xs acc).length ≤ acc.length + xs.length
  | [], acc => by simp [mergeG]
  | x :: xs, acc => by
    have h1 := putG_len acc x.1 x.2
    have h2 := merge_len xs (putG acc x.1 x.2)
    show (mergeG xs (putG acc x.1 x.2)).length ≤ _
    rw [List.length_cons]; omega
theorem put_has (acc : List (Key × D)) (k : Key) (d : D) : ((putG acc k d).any fun p => decide (p.1 = k)) = true := by
  unfold putG
  split
  · rename_i h
    rw [List.any_eq_true] at h ⊢
    obtain ⟨x, hx, hk⟩ := h
    exact ⟨_, List.mem_map.mpr ⟨x, hx, rfl⟩, by
      have hk : x.1 = k := by simpa using hk
      rw [if_pos hk]; simpa using hk⟩
  · rw [List.any_eq_true]
    exact ⟨(k, d), by simp, by simp⟩
theorem put_again (acc : List (Key × D)) (k : Key) (d : D) : (putG (putG acc k d) k d).length = (putG acc k d).length := by
  have h := put_has acc k d
  generalize putG acc k d = m at h
  unfold putG
  rw [if_pos h, List.length_map]
theorem s_unlike_no {M : List Str} {s : Str} (hl : M.length ≤ 900) : g_are_unlike [.lst false ((M ++ [s, s]).map .str)] = .ok (.bl false, [some (.lst false ((M ++ [s, s]).map .str))]) := by
  have hfl : fzL ((M ++ [s, s]).map D.str) = true := fzL_strs _
  have hsq : seqI [.lst false ((M ++ [s, s]).map D.str)] = some ((M ++ [s, s]).map .str) := by simp only [seqI, hfl, if_true]
  have hdc := dc_pure (k := 1) (ek := mVarA 1) (ev := mC (.bl true)) (fun x => match x with | .str s => .inr s | _ => .inl 0) (fun _ => .bl true) (e := [some (.lst false ((M ++ [s, s]).map .str)), none]) (ds := (M ++ [s, s]).map D.str) hfl (by rw [List.length_map, List.length_append]; simp; omega) (fun x hx => by
    obtain ⟨s, _, rfl⟩ := List.mem_map.mp hx
    exact ⟨.var 1, by simp, by simp [keyD]⟩) (fun x _ => by simp)
  have hm : (mergeG (((M ++ [s, s]).map D.str).map fun x => ((match x with | .str s => Sum.inr s | _ => Sum.inl 0 : Key), frzQ (.bl true))) []).length ≤ M.length + 1 := by
    rw [List.map_map, List.map_append, merge_app]
    have h1 := merge_len (M.map ((fun x => ((match x with | .str s => Sum.inr s | _ => Sum.inl 0 : Key), frzQ (.bl true))) ∘ D.str)) []
    generalize mergeG (M.map ((fun x => ((match x with | .str s => Sum.inr s | _ => Sum.inl 0 : Key), frzQ (.bl true))) ∘ D.str)) [] = X at h1
    rw [List.length_map] at h1
    show (putG (putG X (.inr s) (frzQ (.bl true))) (.inr s) (frzQ (.bl true))).length ≤ _
    rw [put_again]
    have h2 := putG_len X (.inr s) (frzQ (.bl true))
    simp at h1
    omega
  have hz : fzL ((mergeG (((M ++ [s, s]).map D.str).map fun x => ((match x with | .str s => Sum.inr s | _ => Sum.inl 0 : Key), frzQ (.bl true))) []).map (·.2)) = true := by
    have gen : ∀ (xs acc : List (Key × D)), fzL (acc.map (·.2)) = true → (∀ x ∈ xs, fz x.2 = true) → fzL ((mergeG xs acc).map (·.2)) = true := by
      intro xs
      induction xs with
      | nil => intro acc h _; exact h
      | cons x xs ih =>
        intro acc h hx
        exact ih _ (fz_putG h (hx x List.mem_cons_self)) fun y hy => hx y (List.mem_cons_of_mem _ hy)
    refine gen _ _ rfl fun x hx => ?_
    obtain ⟨y, _, rfl⟩ := List.mem_map.mp hx
    simp
  generalize mergeG (((M ++ [s, s]).map D.str).map fun x => ((match x with | .str s => Sum.inr s | _ => Sum.inl 0 : Key), frzQ (.bl true))) [] = G at hdc hm hz
  have hln : lenD [.lst false ((M ++ [s, s]).map D.str)] = some (.int (M.length + 2 : Int)) := by
    simp only [lenD_l, List.length_map, List.length_append, List.length_cons, List.length_nil]
    rfl
  have zd : fz (.lst false ((M ++ [s, s]).map D.str)) = true := by rw [fz, hfl]; rfl
  have hne : ¬ ((G.length : Int) = (M.length : Int) + 2) := by omega
  generalize (M ++ [s, s]).map D.str = Z at hfl hsq hdc hln zd ⊢
  have hq : frzQ (.lst false Z) = .lst false Z := frzQ_fz zd
  have hG : frzQ (dicG G) = .dic false (G.map fun p => unkD p.1) (G.map (·.2)) := frz_dicG hz
  have hmm : m_are_unlike [some (.lst false Z), none] = .ok (.bl false |> FlowD.ret, [some (.lst false Z), none]) := by
    simp (implicitDefEqProofs := false) [m_are_unlike, hfl, hq, sqV_ok hsq, hdc, restV, hG, hln, hne, -lenD_l]
  simp (implicitDefEqProofs := false) [g_are_unlike, runD, ownOk, outsD, List.range, List.range.loop, hfl, hmm]
def oddL : List D := [.str "10", .str "a", .str "", .str "AAAAAAAAA", .str "A1", .str " ", .non, .bl true, .int 0, .tup [.str "A"], .lst false [.str "0"], .str "-", .str "Aa", .dic false [] []]
theorem fz_odd : fzL oddL = true := by simp [oddL]
theorem odd_ok : ∀ d ∈ oddL, okF d ∧ folkB d = false := by
  intro d hd
  simp only [oddL, List.mem_cons, List.not_mem_nil, or_false] at hd
  rcases hd with rfl | rfl | rfl | rfl | rfl | rfl | rfl | rfl | rfl | rfl | rfl | rfl | rfl | rfl
  · exact ⟨okF_str (by decide), by decide +kernel⟩
  · exact ⟨okF_str (by decide), by decide +kernel⟩
  · exact ⟨okF_str (by decide), by decide +kernel⟩
  · exact ⟨okF_str (by decide), by decide +kernel⟩
  · exact ⟨okF_str (by decide), by decide +kernel⟩
  · exact ⟨okF_str (by decide), by decide +kernel⟩
  · exact ⟨⟨⟨by simp, rfl⟩, fun s e => nomatch e⟩, rfl⟩
  · exact ⟨⟨⟨by simp, rfl⟩, fun s e => nomatch e⟩, rfl⟩
  · exact ⟨⟨⟨by simp, rfl⟩, fun s e => nomatch e⟩, rfl⟩
  · exact ⟨⟨⟨by simp, rfl⟩, fun s e => nomatch e⟩, rfl⟩
  · exact ⟨⟨⟨by simp, rfl⟩, fun s e => nomatch e⟩, rfl⟩
  · exact ⟨okF_str (by decide), by decide +kernel⟩
  · exact ⟨okF_str (by decide), by decide +kernel⟩
  · exact ⟨⟨⟨by simp, rfl⟩, fun s e => nomatch e⟩, rfl⟩
def othL (F : List Str) : List D := [.lst false (F.map .str ++ F.map .str ++ [.str "5", .str "5"]), .str "0", .str "", .non, .dic false [] [], .int 0, .bl true, .dic false [.str "0"] [.int 1], .lst false [.lst false (F.map .str)]]
theorem fz_oth (F : List Str) : fzL (othL F) = true := by simp [othL, fzL_strs, fzL_append]
theorem oth_no {bk : D} (hb : fz bk = false) {F : List Str} (hl : F.length ≤ 100) (hf : ∀ s ∈ F, okFk s) : ∀ d ∈ othL F, g_instances [bk, d] = .exc ⟨"NoFolk", [], []⟩ [some bk, some d] := by
  intro d hd
  have h5 : okFk "5" := .inr ⟨53, by decide +kernel, rfl⟩
  simp only [othL, List.mem_cons, List.not_mem_nil, or_false] at hd
  rcases hd with rfl | rfl | rfl | rfl | rfl | rfl | rfl | rfl | rfl
  · have e : F.map D.str ++ F.map .str ++ [.str "5", .str "5"] = ((F ++ F) ++ [("5" : Str), "5"]).map D.str := by simp
    rw [e]
    have hf2 : ∀ s ∈ (F ++ F) ++ [("5" : Str), "5"], okFk s := fun s hs => by
      rcases List.mem_append.mp hs with hs | hs
      · rcases List.mem_append.mp hs with hs | hs <;> exact hf s hs
      · simp at hs; subst hs; exact h5
    have zl := fzL_strs ((F ++ F) ++ [("5" : Str), "5"])
    exact s_inst_no3 hb (by rw [fz, zl]; rfl) rfl (by simp only [seqI, zl, if_true]) (by simp; omega) (strs_okF hf2) zl (strs_all hf2) (s_unlike_no (by simp; omega))
  · exact s_inst_no1 hb (by simp) rfl
  · exact s_inst_no1 hb (by simp) rfl
  · exact s_inst_no1 hb (by simp) rfl
  · exact s_inst_no1 hb (by simp) rfl
  · exact s_inst_no1 hb (by simp) rfl
  · exact s_inst_no1 hb (by simp) rfl
  · exact s_inst_no1 hb (by simp) rfl
  · have zF := fzL_strs F
    exact s_inst_no2 (l := [.lst false (F.map .str)]) hb (by simp [zF]) rfl (by simp [seqI, zF]) (by simp) (fun x hx => by
      rw [List.mem_singleton] at hx; subst hx
      exact ⟨⟨by simp [zF], rfl⟩, fun s e => nomatch e⟩) (by simp [zF]) rfl
theorem cut_mem {α : Type} {l : List α} {a b : Option Int} {x : α} (h : x ∈ cutD l a b) : x ∈ l := List.mem_of_mem_drop (List.mem_of_mem_take h)
theorem cut_le {α : Type} (l : List α) (a b : Option Int) : (cutD l a b).length ≤ l.length := by
  unfold cutD; rw [List.length_take, List.length_drop]; omega
theorem add_ll {o o' : Bool} {l m : List D} (zl : fzL l = true) (zm : fzL m = true) (h : l.length + m.length ≤ 10000) : addD (.lst o l) (.lst o' m) = some (.lst true (l ++ m)) := by
  have : l.length + m.length ≤ 16777216 := by omega
  simp [addD, zl, zm, szl, this]
def badA (F : List Str) (a : Int) (d : D) : List D := cutD (F.map .str) none (some a) ++ [d] ++ cutD (F.map .str) (some a) none
theorem badA_ok {F : List Str} (hl : F.length ≤ 100) (hf : ∀ s ∈ F, okFk s) (a : Int) {d : D} (hd : d ∈ oddL) : fzL (badA F a d) = true ∧ (badA F a d).length ≤ 1000 ∧ (∀ x ∈ badA F a d, okF x) ∧ (badA F a d).all folkB = false := by
  have c1 := cut_le (F.map D.str) none (some a)
  have c2 := cut_le (F.map D.str) (some a) none
  rw [List.length_map] at c1 c2
  obtain ⟨h1, h2⟩ := odd_ok d hd
  have hx : ∀ x ∈ badA F a d, okF x := fun x hx => by
    unfold badA at hx
    rcases List.mem_append.mp hx with hx | hx
    · rcases List.mem_append.mp hx with hx | hx
      · exact strs_okF hf x (cut_mem hx)
      · rw [List.mem_singleton] at hx; subst hx; exact h1
    · exact strs_okF hf x (cut_mem hx)
  refine ⟨fzL_all fun x h => (hx x h).1.1, by unfold badA; simp only [List.length_append, List.length_singleton]; omega, hx, ?_⟩
  rw [Bool.eq_false_iff]
  intro h
  rw [List.all_eq_true] at h
  have := h d (by unfold badA; simp)
  rw [h2] at this; cases this
theorem bad_no {bk : D} (hb : fz bk = false) {F : List Str} (hl : F.length ≤ 100) (hf : ∀ s ∈ F, okFk s) (a : Int) {d : D} (hd : d ∈ oddL) : g_instances [bk, .lst false (badA F a d)] = .exc ⟨"NoFolk", [], []⟩ [some bk, some (.lst false (badA F a d))] ∧ g_instances [bk, .tup (badA F a d)] = .exc ⟨"NoFolk", [], []⟩ [some bk, some (.tup (badA F a d))] := by
  obtain ⟨h1, h2, h3, h4⟩ := badA_ok hl hf a hd
  exact ⟨s_inst_no2 hb (by simp [h1]) rfl (by simp [seqI, h1]) h2 h3 h1 h4, s_inst_no2 hb (by simp [h1]) rfl (by simp [seqI, h1]) h2 h3 h1 h4⟩
theorem s_law_bad (cells : List Int) (a b c : Int) {F : List Str} (hl : F.length ≤ 100) (hf : ∀ s ∈ F, okFk s) : ∃ (at' : Int) (d x : D) (a' b' c' : Int), d ∈ oddL ∧ x ∈ othL F ∧ g__law_bad [dk cells a b c, .lst true (F.map .str)] = .ok (.lst true [.lst false (badA F at' d), .tup (badA F at' d), x], [some (dk cells a' b' c'), some (.lst false (F.map .str))]) := by
  have zF := fzL_strs F
  obtain ⟨r, a1, b1, c1, k1, k2, k3⟩ := s_law_pick cells a b c (m := (F.length : Int) + 1) (by omega) (Nat.lt_of_le_of_lt (Nat.log2_le_self _) (by omega))
  obtain ⟨q, a2, b2, c2, k4, k5, k6⟩ := s_law_pick cells a1 b1 c1 (m := 14) (by decide) (by decide)
  obtain ⟨d, hd, hi⟩ := ixD_lst (l := oddL) (o := true) k5 (by simpa [oddL] using k6) fz_odd
  obtain ⟨w, a3, b3, c3, k7, k8, k9⟩ := s_law_pick cells a2 b2 c2 (m := 9) (by decide) (by decide)
  obtain ⟨x, hx, hi2⟩ := ixD_lst (l := othL F) (o := true) k8 (by simpa [othL] using k9) (fz_oth F)
  obtain ⟨g1, g2, g3, g4⟩ := badA_ok hl hf r hd
  have zd := fzL_mem fz_odd d hd
  have zx := fzL_mem (fz_oth F) x hx
  refine ⟨r, d, x, a3, b3, c3, hd, hx, ?_⟩
  have c1' := cut_le (F.map D.str) none (some r)
  have c2' := cut_le (F.map D.str) (some r) none
  rw [List.length_map] at c1' c2'
  have z1 : fzL (cutD (F.map D.str) none (some r)) = true := fzL_all fun x h => fzL_mem zF x (cut_mem h)
  have z2 : fzL (cutD (F.map D.str) (some r) none) = true := fzL_all fun x h => fzL_mem zF x (cut_mem h)
  have hs1 : slD (.lst true (F.map D.str)) none (some r) = some (.lst true (cutD (F.map D.str) none (some r))) := by simp [slD, zF]
  have hs2 : slD (.lst true (F.map D.str)) (some r) none = some (.lst true (cutD (F.map D.str) (some r) none)) := by simp [slD, zF]
  have hA : badA F r d = cutD (F.map .str) none (some r) ++ [d] ++ cutD (F.map .str) (some r) none := rfl
  have zX : fzL (cutD (F.map D.str) none (some r) ++ [d]) = true := by rw [fzL_append, z1]; simp [zd]
  have ha1 := add_ll (o := false) (o' := false) z1 (show fzL [d] = true by simp [zd]) (by simp; omega)
  have ha2 := add_ll (o := false) (o' := false) zX z2 (by simp; omega)
  rw [← hA] at ha2
  have ha3 := add_ll (o := true) (o' := true) zF zF (by simp; omega)
  have zFF : fzL (F.map D.str ++ F.map .str) = true := by rw [fzL_append, zF]; rfl
  have ha4 := add_ll (o := false) (o' := false) (m := [.str "5", .str "5"]) zFF (by simp) (by simp; omega)
  have zF5 : fzL (F.map D.str ++ F.map .str ++ [.str "5", .str "5"]) = true := by rw [fzL_append, zFF]; simp
  have hd1 : frzQ (.lst true [d]) = .lst false [d] := frz_lstt (by simp [zd])
  have hd0 : frzQ d = d := frzQ_fz zd
  have hx0 : frzQ x = x := frzQ_fz zx
  have q1 : frzQ (.tup [.str "A"]) = .tup [.str "A"] := frzQ_fz (by simp)
  have q2 : frzQ (.lst true [.str "0"]) = .lst false [.str "0"] := frz_lstt (by simp)
  have q3 : frzQ (.dic true [] []) = .dic false [] [] := by simp [frzQ, frz, frzL]
  have q4 : frzQ (.lst true [.str "5", .str "5"]) = .lst false [.str "5", .str "5"] := frz_lstt (by simp)
  have q5 : frzQ (.dic true [.str "0"] [.int 1]) = .dic false [.str "0"] [.int 1] := by simp [frzQ, frz, frzL]
  have q6 : frzQ (.lst true [.lst false (F.map .str)]) = .lst false [.lst false (F.map .str)] := frz_lstt (by simp [zF])
  have q7 : frzQ (.lst false (F.map .str)) = .lst false (F.map .str) := frzQ_fz (by simp [zF])
  have q8 : frzQ (.tup (badA F r d)) = .tup (badA F r d) := frzQ_fz (by simp [g1])
  have q9 : frzQ (.lst false (badA F r d)) = .lst false (badA F r d) := frzQ_fz (by simp [g1])
  have hvo := fun env => vE_own 1 env zF
  have hv4 := fun env => vE_own 4 env g1
  have htp : tupleD [.lst false (badA F r d)] = some (.tup (badA F r d)) := tupleD_l g1
  have f1 := frz_lstt z1
  have f2 := frz_lstt z2
  have f3 := frz_lstt zX
  have f4 := frz_lstt zFF
  have f5 := frz_lstt zF5
  have hdc : ∀ env, mDic1 (mFrz (mC (.str "0"))) (mFrz (mC (.int 1))) env = .ok (.dic true [.str "0"] [.int 1], env) := fun env => by
    simp [mDic1, keyD]
  generalize badA F r d = A at *
  generalize cutD (F.map D.str) none (some r) = X at *
  generalize cutD (F.map D.str) (some r) none = Y at *
  simp only [oddL] at hi
  simp only [othL] at hi2
  generalize hFF : F.map D.str ++ F.map .str = FF at *
  generalize hF5 : FF ++ [.str "5", .str "5"] = F5 at *
  have hmm : m__law_bad [some (dk cells a b c), some (.lst true (F.map .str)), none, none, none, none] = .ok (.ret (.lst true [.lst false A, .tup A, x]), [some (dk cells a3 b3 c3), some (.lst false (F.map .str)), some (.lst true oddL), some (.int r), some (.lst false A), some (.lst true (othL F))]) := by
    simp (implicitDefEqProofs := false) [m__law_bad, ownVars, putBack, k1, k4, k7, zF, hi, hi2, hs1, hs2, ha1, ha2, ha3, ha4, hd1, hd0, hx0, q1, q2, q3, q4, q5, q6, q7, q8, q9, hvo, hv4, htp, f1, f2, f3, f4, f5, oddL, othL, hFF, hF5, g1, zx, zd, zF5, hdc]
  simp (implicitDefEqProofs := false) [g__law_bad, runD, ownOk, outsD, List.range, List.range.loop, zF, hmm]
end Mi
namespace Mi
open PySem PySem.Spec PyProof.Rows L2
def lwF : EM FlowD := mIfS (mNotT (mTB (mCall g__law_refused (mArgs [mVarA 8, mVarA 12])))) (mRet (mC (.bl false))) (mNext)
def lw3 : EM FlowD := mSeq (mFor (mIt1 (mFrz (mCall g__law_bad (mArgs [mVarA 1, mVarA 4])))) (.nm 12) lwF)
  (mRet (mCall g__law_is_told (mArgs [mFrz (mCall g_instances (mArgs [mVarA 8, mVarA 10])), mVarA 9])))
def lw2 : EM FlowD := mSeq (mDrop (mMet 11 (mArgs []) revF))
  (mSeq (mDrop (mMet 11 (mArgs [mFrz (mTup (mArgs [mFrz (mC (.int 0)), mFrz (mTup (mArgs []))]))]) appF))
  (mSeq (mIfS (mNotT (mTB (mCall g__law_is_told (mArgs [mFrz (mCall g_instances (mArgs [mVarA 8, mFrz (mCB tupleD (mArgs [mFrz (mUn revD (mVarA 4))]))])), mVarA 9])))) (mRet (mC (.bl false))) (mNext))
  (lw3)))
def lw1 : EM FlowD := mSeq (mAsg 8 (mMake "Book" g_Book__init (mArgs [mFrz (mBin ixD (mFrz (mLst (mArgs [mFrz (mC (.int 0)), mFrz (mC (.int 1)), mFrz (mC (.int 2)), mFrz (mC (.int 1000))]))) (mFrz (mCall g__law_pick (mArgs [mVarA 1, mFrz (mC (.int 4))])))), mVarA 3, mVarA 5])))
  (mSeq (mAsg 9 (mCall g__law_due (mArgs [mVarA 5, mVarA 4])))
  (mSeq (mAsg 10 (mCB listY (mArgs [mVarA 4])))
  (mSeq (mAsg 11 (mCall g_instances (mArgs [mVarA 8, mVarA 10])))
  (mSeq (mIfS (mOrT (mNotT (mTB (mCall g__law_is_told (mArgs [mVarA 11, mVarA 9])))) (mTB (mBin neD (mVarA 10) (mVarA 4)))) (mRet (mC (.bl false))) (mNext))
  (lw2)))))
def lwB : EM FlowD := mSeq (mAsg 4 (mBin addD (mFrz (mCB listY (mArgs [mFrz (mC (.str "3104798265"))]))) (mFrz (mLst (mArgs [mFrz (mC (.str "QZ")), mFrz (mC (.str "A")), mFrz (mC (.str "ZZZZZZZZ"))])))))
  (mSeq (mAsg 4 (mSl (mVarA 4) (mNoP) (mPart (mBin addD (mFrz (mC (.int 7))) (mFrz (mCall g__law_pick (mArgs [mVarA 1, mFrz (mC (.int 7))])))))))
  (mAsg 5 (mCB tupleD (mArgs [mFrz (mLc (mIt1 (mFrz (mVarE 5))) (.nm 7) (mTB (mBin ltD (mFrz (mCB lenD (mArgs [mFrz (mCall g__law_letters (mArgs [mVarA 7]))]))) (mFrz (mC (.int 4))))) (mVarE 7) [7])]))))
theorem lw_split : m_law = mSeq (mAsg 1 (mCall g__law_deck (mArgs [mVarA 0])))
  (mSeq (mAsg 2 (mCall g__law_fold (mArgs [mVarA 0])))
  (mSeq (mAsg 3 (mCall g__law_tables (mArgs [mVarA 1, mFrz (mBin eqD (mFrz (mBin modD (mVarA 2) (mFrz (mC (.int 8))))) (mFrz (mC (.int 1))))])))
  (mSeq (mAsg 4 (mCall g__law_folk (mArgs [mVarA 1])))
  (mSeq (mAsg 5 (mCB tupleD (mArgs [mFrz (mLc (mIt (mArgs [mFrz (mCall g__law_pick (mArgs [mVarA 1, mFrz (mC (.int 5))]))]) rng1) (.nm 6) (mYes) (mCall g__law_demand (mArgs [mVarA 1, mVarA 3])) [6])])))
  (mSeq (mIfS (mTB (mBin eqD (mFrz (mBin modD (mFrz (mBin fdivD (mVarA 2) (mFrz (mC (.int 8))))) (mFrz (mC (.int 8))))) (mFrz (mC (.int 1))))) (lwB) (mNext))
  (lw1)))))) := rfl
theorem perm_sort {F G : List Str} (h : F.Perm G) : sortS F = sortS G :=
  List.Perm.eq_of_pairwise (le := fun a b => leS a b = true) (fun a b _ _ h g => by
    unfold leS at h g
    simp only [Bool.not_eq_true'] at h g
    exact str_ext (lt_tri g h)) (sortS_pw F) (sortS_pw G) ((List.mergeSort_perm F leS).trans (h.trans (List.mergeSort_perm G leS).symm))
theorem strOk_fk {s : Str} (h : okFk s) : PyData.strOk s = true := by
  have h1 : ∀ c ∈ gm.cps.toList, c < 0x110000 := by decide +kernel
  have h2 : ∀ c ∈ fg.cps.toList, c < 0x110000 := by decide +kernel
  unfold PyData.strOk
  rw [← Array.all_toList, List.all_eq_true]
  rcases h with ⟨_, _, h3⟩ | ⟨c, hc, rfl⟩
  · exact fun c hc => by simpa using h1 c (h3 c hc)
  · intro x hx
    have : x = c := by simpa [one] using hx
    subst this
    simpa using h2 _ hc
theorem okI_inst {F : List Str} (hf : ∀ s ∈ F, okFk s) : ∀ (ds : List Dmd) (k : Nat), ∀ d ∈ inst F k ds, okI d
  | [], k, d, h => by simp [inst] at h
  | x :: ds, k, d, h => by
    rw [inst] at h
    rcases List.mem_append.mp h with h | h
    · obtain ⟨r, hr, rfl⟩ := List.mem_map.mp h
      have hs : ∀ s ∈ r, PyData.strOk s = true := fun s hs => strOk_fk (hf s ((rows_item F _ r hr).2 s hs))
      have := okPL_strs r 62 hs
      exact ⟨⟨_, rowD r, rfl, fz_row r⟩, by simp [okP, okPL, rowD, this]⟩
    · exact okI_inst hf ds (k + 1) d h
theorem inst_len {F : List Str} : ∀ (ds : List Dmd) (k : Nat), (∀ x ∈ ds, okB F x) → (inst F k ds).length ≤ ds.length * 100000
  | [], k, _ => by simp [inst]
  | x :: ds, k, h => by
    rw [inst, List.length_append, List.length_cons, Nat.succ_mul]
    have h1 := instF_len k (h x List.mem_cons_self)
    have h2 := inst_len ds (k + 1) fun y hy => h y (List.mem_cons_of_mem _ hy)
    omega
theorem lwF_loop {bk : D} (hb : fz bk = false) (p0 p1 p2 p3 p4 p5 p6 p7 p9 p10 p11 : Option D) : ∀ (ds : List D) (x : Option D), (∀ d ∈ ds, fz d = true ∧ g__law_refused [bk, d] = .ok (.bl true, [some bk, some d])) → ∃ y, loopF (.nm 12) lwF ds [p0, p1, p2, p3, p4, p5, p6, p7, some bk, p9, p10, p11, x] = .ok (.next, [p0, p1, p2, p3, p4, p5, p6, p7, some bk, p9, p10, p11, y])
  | [], x, _ => ⟨x, by simp [e_lp0]⟩
  | d :: ds, x, hd => by
    obtain ⟨y, hy⟩ := lwF_loop hb p0 p1 p2 p3 p4 p5 p6 p7 p9 p10 p11 ds (some d) fun z hz => hd z (List.mem_cons_of_mem _ hz)
    obtain ⟨h1, h2⟩ := hd d List.mem_cons_self
    refine ⟨y, ?_⟩
    rw [e_lp]
    simp only [lwF] at hy ⊢
    simp (implicitDefEqProofs := false) [ownVars, putBack, h2, hb, h1]
    exact hy
/- what stands fast in the law's end -/
structure Lw (b : Bk) (F : List Str) : Prop where
  bk : okBk b
  nd : F.Nodup
  fk : ∀ s ∈ F, okFk s
  l : F.length ≤ 13
  B : ∀ x ∈ b.ds, okB (sortS F) x
theorem Lw.told {b : Bk} {F : List Str} (h : Lw b F) (o o' : Bool) : g__law_is_told [.lst o (inst (sortS F) 0 b.ds), .lst o' (inst (sortS F) 0 b.ds)] = .ok (.bl true, [some (.lst o (inst (sortS F) 0 b.ds)), some (.lst o' (inst (sortS F) 0 b.ds))]) := by
  have h1 := inst_len b.ds 0 h.B
  have h6 := h.bk.n6
  refine s_told (fz_inst _ _ _) o o' (by omega) (okI_inst (fun s hs => h.fk s ((List.mergeSort_perm F leS).mem_iff.mp hs)) _ _)
theorem Lw.i1 {b : Bk} {F : List Str} (h : Lw b F) : g_instances [bkD true b, .lst true (F.map .str)] = .ok (.lst true (inst (sortS F) 0 b.ds), [some (bkD true b), some (.lst false (F.map .str))]) := s_instancesO h.bk (by have := h.l; omega) h.fk h.nd h.B
theorem Lw.i2 {b : Bk} {F : List Str} (h : Lw b F) : g_instances [bkD true b, .lst false (F.map .str)] = .ok (.lst true (inst (sortS F) 0 b.ds), [some (bkD true b), some (.lst false (F.map .str))]) := s_instances h.bk (flk_l (by have := h.l; omega)) (by have := h.l; omega) h.fk h.nd h.B
theorem Lw.i3 {b : Bk} {F : List Str} (h : Lw b F) : g_instances [bkD true b, .tup (F.reverse.map .str)] = .ok (.lst true (inst (sortS F) 0 b.ds), [some (bkD true b), some (.tup (F.reverse.map .str))]) := by
  have hp : F.reverse.Perm F := List.reverse_perm F
  have hs := perm_sort hp
  have := s_instances (d := .tup (F.reverse.map .str)) h.bk (flk_t (F := F.reverse) (by rw [List.length_reverse]; have := h.l; omega)) (by rw [List.length_reverse]; have := h.l; omega) (fun s hs => h.fk s (hp.mem_iff.mp hs)) (hp.nodup_iff.mpr h.nd) (by rw [hs]; exact h.B)
  rw [hs] at this
  exact this
theorem lw3_ok {b : Bk} {F : List Str} (h : Lw b F) (cells : List Int) (a0 b0 c0 : Int) (p0 p2 p3 p5 p11 : Option D) : ∃ p1 y, lw3 [p0, some (dk cells a0 b0 c0), p2, p3, some (.lst true (F.map .str)), p5, none, none, some (bkD true b), some (.lst true (inst (sortS F) 0 b.ds)), some (.lst false (F.map .str)), p11, none] = .ok (.ret (.bl true), [p0, p1, p2, p3, some (.lst false (F.map .str)), p5, none, none, some (bkD true b), some (.lst true (inst (sortS F) 0 b.ds)), some (.lst false (F.map .str)), p11, y]) := by
  have n1 := fz_bk b
  have zF := fzL_strs F
  have h13 := h.l
  obtain ⟨at', d, x, a1, b1, c1, hd, hx, hbad⟩ := s_law_bad cells a0 b0 c0 (by omega) h.fk
  obtain ⟨g1, g2⟩ := bad_no n1 (by omega) h.fk at' hd
  obtain ⟨zA, _, _, _⟩ := badA_ok (by omega) h.fk at' hd
  have g3 := oth_no n1 (by omega) h.fk x hx
  have zx := fzL_mem (fz_oth F) x hx
  generalize badA F at' d = A at *
  have z1 : fz (.lst false A) = true := by rw [fz, zA]; rfl
  have z2 : fz (.tup A) = true := by rw [fz, zA]
  obtain ⟨y, hy⟩ := lwF_loop n1 p0 (some (dk cells a1 b1 c1)) p2 p3 (some (.lst false (F.map .str))) p5 none none (some (.lst true (inst (sortS F) 0 b.ds))) (some (.lst false (F.map .str))) p11 [.lst false A, .tup A, x] none (fun z hz => by
    simp only [List.mem_cons, List.not_mem_nil, or_false] at hz
    rcases hz with rfl | rfl | rfl
    · exact ⟨z1, s_refused n1 z1 g1⟩
    · exact ⟨z2, s_refused n1 z2 g2⟩
    · exact ⟨zx, s_refused n1 zx g3⟩)
  have zl : fzL [.lst false A, .tup A, x] = true := by simp only [fzL, z1, z2, zx]; rfl
  have hkf := kFor_ok (t := .nm 12) (ms := lwF) (e := [p0, some (dk cells a1 b1 c1), p2, p3, some (.lst false (F.map .str)), p5, none, none, some (bkD true b), some (.lst true (inst (sortS F) 0 b.ds)), some (.lst false (F.map .str)), p11, none]) zl
  rw [hy] at hkf
  have hfl := frz_lstt zl
  have hsq : seqI [.lst false [.lst false A, .tup A, x]] = some [.lst false A, .tup A, x] := by simp only [seqI, zl, if_true]
  have hI := h.i2
  have hT := h.told false true
  have zI := fz_inst (sortS F) b.ds 0
  generalize inst (sortS F) 0 b.ds = I at *
  have hfI := frz_lstt zI
  refine ⟨some (dk cells a1 b1 c1), y, ?_⟩
  simp (implicitDefEqProofs := false) [lw3, ownVars, putBack, hbad, zF, hfl, sqV_ok hsq, hkf, n1, hI, hfI, hT, zI]
theorem lw2_ok {b : Bk} {F : List Str} (h : Lw b F) (cells : List Int) (a0 b0 c0 : Int) (p0 p2 p3 p5 : Option D) : ∃ p1 p11 y, lw2 [p0, some (dk cells a0 b0 c0), p2, p3, some (.lst true (F.map .str)), p5, none, none, some (bkD true b), some (.lst true (inst (sortS F) 0 b.ds)), some (.lst false (F.map .str)), some (.lst true (inst (sortS F) 0 b.ds)), none] = .ok (.ret (.bl true), [p0, p1, p2, p3, some (.lst false (F.map .str)), p5, none, none, some (bkD true b), some (.lst true (inst (sortS F) 0 b.ds)), some (.lst false (F.map .str)), p11, y]) := by
  have n1 := fz_bk b
  have zF := fzL_strs F
  have h1 := inst_len b.ds 0 h.B
  have h6 := h.bk.n6
  have hl : (inst (sortS F) 0 b.ds).length ≤ 600000 := by omega
  obtain ⟨p1, y, h3⟩ := lw3_ok h cells a0 b0 c0 p0 p2 p3 p5 (some (.lst true ((inst (sortS F) 0 b.ds).reverse ++ [.tup [.int 0, .tup []]])))
  have hI := h.i3
  have hT := h.told false true
  have zI := fz_inst (sortS F) b.ds 0
  have hrv : revF (inst (sortS F) 0 b.ds) [] = some (.non, (inst (sortS F) 0 b.ds).reverse) := by simp [revF, zI]
  have zr := fzL_rev zI
  have hap : appF (inst (sortS F) 0 b.ds).reverse [.tup [.int 0, .tup []]] = some (.non, (inst (sortS F) 0 b.ds).reverse ++ [.tup [.int 0, .tup []]]) := by
    simp only [appF]
    rw [if_pos ⟨zr, by simp, by rw [List.length_reverse]; omega⟩]
  generalize inst (sortS F) 0 b.ds = I at *
  have hfI := frz_lstt zI
  have zR := fzL_strs F.reverse
  have hrd : revD (.lst true (F.map .str)) = some (.lst true (F.reverse.map .str)) := by simp [revD, zF]
  have hf1 := frz_lstt zR
  have ht := tupleD_l (o := false) zR
  have hf2 : frzQ (.tup (F.reverse.map D.str)) = .tup (F.reverse.map .str) := frzQ_fz (by rw [fz, zR])
  have q0 : frzQ (.tup []) = .tup [] := frzQ_fz (by simp)
  have q1 : frzQ (.tup [.int 0, .tup []]) = .tup [.int 0, .tup []] := frzQ_fz (by simp)
  refine ⟨p1, some (.lst true (I.reverse ++ [.tup [.int 0, .tup []]])), y, ?_⟩
  generalize F.reverse.map D.str = RV at *
  generalize I.reverse = IR at *
  simp (implicitDefEqProofs := false) [lw2, ownVars, putBack, hrv, hap, q0, q1, hrd, hf1, ht, hf2, n1, hI, zR, hfI, hT, zI, h3]
end Mi
namespace Mi
open PySem PySem.Spec PyProof.Rows L2
/-! ### the law -/
theorem fz_insT (c : Str) (ns : List Str) (ws : List D) : fz (.ins true c ns ws) = false := by rw [fz]; rfl
theorem lw1_ok {l : List (Str × Int)} (hl : okTabs l) {F : List Str} {xs : List Dmd} (h6 : xs.length ≤ 6) (hx : ∀ x ∈ xs, okDmd l x ∧ okB (sortS F) x) (nd : F.Nodup) (fk : ∀ s ∈ F, okFk s) (h13 : F.length ≤ 13) (cells : List Int) (a0 b0 c0 : Int) (p0 p2 : Option D) : ∃ e, lw1 [p0, some (dk cells a0 b0 c0), p2, some (tabsD l), some (.lst true (F.map .str)), some (.tup (xs.map dmdD)), none, none, none, none, none, none, none] = .ok (.ret (.bl true), p0 :: e) := by
  obtain ⟨r, a1, b1, c1, k1, k2, k3⟩ := s_law_pick cells a0 b0 c0 (m := 4) (by decide) (by decide)
  have zW : fzL [D.int 0, .int 1, .int 2, .int 1000] = true := by simp
  obtain ⟨d, hd, hi⟩ := ixD_lst (l := [D.int 0, .int 1, .int 2, .int 1000]) (o := false) k2 (by simpa using k3) zW
  obtain ⟨w, rfl, w0, w1⟩ : ∃ w : Int, d = .int w ∧ 0 ≤ w ∧ w ≤ 1000 := by
    simp only [List.mem_cons, List.not_mem_nil, or_false] at hd
    rcases hd with rfl | rfl | rfl | rfl
    · exact ⟨0, rfl, by decide, by decide⟩
    · exact ⟨1, rfl, by decide, by decide⟩
    · exact ⟨2, rfl, by decide, by decide⟩
    · exact ⟨1000, rfl, by decide, by decide⟩
  have hk : okBk ⟨w, l, xs⟩ := ⟨w0, w1, hl, h6, fun x h => (hx x h).1⟩
  have hw : Lw ⟨w, l, xs⟩ F := ⟨hk, nd, fk, h13, fun x h => (hx x h).2⟩
  have hB : g_Book__init [.ins true "Book" [] [], .int w, tabsD l, .tup (xs.map dmdD)] = .ok (.non, [some (bkD true ⟨w, l, xs⟩), some (.int w), some (tabsD l), some (.tup (xs.map dmdD))]) := s_Book hk
  have zt : fz (tabsD l) = true := by simp [tabsD, fz_tabs]
  have zx := fz_dmds xs
  have zF := fzL_strs F
  have n1 := fz_bk ⟨w, l, xs⟩
  have hD := s_law_due (F := F) true (by omega) h6 hx
  have hI := hw.i1
  have hT := hw.told true true
  obtain ⟨p1, p11, y, h2⟩ := lw2_ok hw cells a1 b1 c1 p0 p2 (some (tabsD l)) (some (.tup (xs.map dmdD)))
  have hly : listY [.lst true (F.map .str)] = some (.lst true (F.map .str)) := by simp [listX, listD, zF]
  have hne : neD (.lst false (F.map .str)) (.lst true (F.map .str)) = some (.bl false) := neD_strs fun s hs => strOk_fk (fk s hs)
  have zI := fz_inst (sortS F) xs 0
  simp only at hI hT h2
  generalize inst (sortS F) 0 xs = I at *
  have hfW := frz_lstt zW
  refine ⟨[p1, p2, some (tabsD l), some (.lst false (F.map .str)), some (.tup (xs.map dmdD)), none, none, some (bkD true ⟨w, l, xs⟩), some (.lst true I), some (.lst false (F.map .str)), p11, y], ?_⟩
  simp (implicitDefEqProofs := false) [lw1, ownVars, putBack, k1, hfW, hi, zt, zx, hB, mkV2, fz_insT, zF, hD, hly, hI, n1, hT, hne, h2, zI, -listY_l]
def g13 : List Str := ["3", "1", "0", "4", "7", "9", "8", "2", "6", "5", "QZ", "A", "ZZZZZZZZ"]
theorem g13_fk : ∀ s ∈ g13, okFk s := by
  have hd : ∀ s ∈ g13.take 10, ∃ c ∈ fg.cps.toList, s = one c := by decide +kernel
  have hn : ∀ s ∈ g13.drop 10, okNam s := by unfold okNam; decide +kernel
  intro s hs
  rw [← List.take_append_drop 10 g13] at hs
  rcases List.mem_append.mp hs with hs | hs
  · exact .inr (hd s hs)
  · exact .inl (hn s hs)
theorem g13_nd : g13.Nodup := by decide +kernel
theorem cut_map {α β : Type} (f : α → β) (l : List α) (a b : Option Int) : cutD (l.map f) a b = (cutD l a b).map f := by
  unfold cutD
  rw [List.length_map, List.map_take, List.map_drop]
theorem cut_sub {α : Type} (l : List α) (a b : Option Int) : (cutD l a b).Sublist l := (List.take_sublist _ _).trans (List.drop_sublist _ _)
theorem lwB_ok {l : List (Str × Int)} {xs : List Dmd} (h6 : xs.length ≤ 6) (hx : ∀ x ∈ xs, okDmd l x) (cells : List Int) (a0 b0 c0 : Int) (p0 p2 p3 p4 : Option D) : ∃ (F : List Str) (ys : List Dmd) (a' b' c' : Int), lwB [p0, some (dk cells a0 b0 c0), p2, p3, p4, some (.tup (xs.map dmdD)), none, none, none, none, none, none, none] = .ok (.next, [p0, some (dk cells a' b' c'), p2, p3, some (.lst true (F.map .str)), some (.tup (ys.map dmdD)), none, none, none, none, none, none, none]) ∧ F.Nodup ∧ (∀ s ∈ F, okFk s) ∧ F.length ≤ 13 ∧ ys.length ≤ 6 ∧ ∀ y ∈ ys, okDmd l y ∧ (due y.ts).length < 4 := by
  obtain ⟨r, a1, b1, c1, k1, k2, k3⟩ := s_law_pick cells a0 b0 c0 (m := 7) (by decide) (by decide)
  have hly : listY [.str "3104798265"] = some (.lst true ((g13.take 10).map .str)) := by
    simp only [listY]
    rw [if_pos (by decide)]
    rfl
  have zA := fzL_strs (g13.take 10)
  have hfA := frz_lstt zA
  have zC : fzL [D.str "QZ", .str "A", .str "ZZZZZZZZ"] = true := by simp
  have hfC := frz_lstt zC
  have hadd : addD (.lst false ((g13.take 10).map .str)) (.lst false [.str "QZ", .str "A", .str "ZZZZZZZZ"]) = some (.lst true (g13.map .str)) := add_ll zA zC (by simp [g13])
  have zG := fzL_strs g13
  have hsl : slD (.lst true (g13.map .str)) none (some (7 + r)) = some (.lst true ((cutD g13 none (some (7 + r))).map .str)) := by
    simp only [slD, zG, if_true, cut_map]
  have hs := cut_sub g13 none (some (7 + r))
  generalize cutD g13 none (some (7 + r)) = F at hsl hs
  generalize (g13.take 10).map D.str = TA at hly zA hfA hadd
  have zx := fz_dmds xs
  have hq : frzQ (.tup (xs.map dmdD)) = .tup (xs.map dmdD) := frzQ_fz (by rw [fz, zx])
  have hsq : seqI [.tup (xs.map dmdD)] = some (xs.map dmdD) := by simp [seqI, zx]
  let p : D → Bool := fun d => match g__law_letters [d] with
    | .ok (x, _) => match lenD [x] with
      | some (.int n) => decide (n < 4)
      | _ => false
    | _ => false
  have hp : ∀ x ∈ xs, p (dmdD x) = decide ((due x.ts).length < 4) := fun x h => by
    have h1 := s_law_letters (hx x h)
    have h2 := len_due x
    simp only [p, h1, h2]
    simp
    omega
  have e1 := lc_filter (k := 7) (cond := mTB (mBin ltD (mFrz (mCB lenD (mArgs [mFrz (mCall g__law_letters (mArgs [mVarA 7]))]))) (mFrz (mC (.int 4))))) (elt := mVarE 7) (fun d => d) p (e := [p0, some (dk cells a1 b1 c1), p2, p3, some (.lst true (F.map .str)), some (.tup (xs.map dmdD)), none, none, none, none, none, none, none]) (ds := xs.map dmdD) zx (by rw [List.length_map]; omega)
    (fun d hd => by
      obtain ⟨x, hx', rfl⟩ := List.mem_map.mp hd
      have h1 := s_law_letters (hx x hx')
      have h2 := len_due x
      have zd := fz_dmd x
      have zu : fz (dueD x) = true := by simp [dueD]
      rw [hp x hx']
      simp [ownVars, putBack, zd, h1, frzQ_fz zu, h2]
      omega)
    (fun d hd _ => by
      obtain ⟨x, hx', rfl⟩ := List.mem_map.mp hd
      have zd := fz_dmd x
      simp [zd, frzQ_fz zd])
  have e2 : (((xs.map dmdD).filter p).map fun d => frzQ d) = (xs.filter fun x => decide ((due x.ts).length < 4)).map dmdD := by
    rw [List.filter_map, List.map_map]
    have : xs.filter (p ∘ dmdD) = xs.filter fun x => decide ((due x.ts).length < 4) := List.filter_congr fun x h => hp x h
    rw [this]
    exact List.map_congr_left fun x _ => frzQ_fz (fz_dmd x)
  rw [e2] at e1
  have zy := fz_dmds (xs.filter fun x => decide ((due x.ts).length < 4))
  have hty := tupleD_l (o := false) zy
  have hfy := frz_lstt zy
  refine ⟨F, xs.filter fun x => decide ((due x.ts).length < 4), a1, b1, c1, ?_, g13_nd.sublist hs, fun s h => g13_fk s (hs.subset h), Nat.le_trans hs.length_le (by decide), Nat.le_trans (List.length_filter_le _ _) h6, fun y hy => ?_⟩
  · generalize (xs.filter fun x => decide ((due x.ts).length < 4)).map dmdD = Y at e1 zy hty hfy ⊢
    simp (implicitDefEqProofs := false) [lwB, ownVars, putBack, hly, hfA, hfC, hadd, k1, hsl, zx, hq, sqV_ok hsq, e1, restV, hfy, hty]
  · obtain ⟨h1, h2⟩ := List.mem_filter.mp hy
    exact ⟨hx y h1, by simpa using h2⟩
theorem big13 {n k : Nat} (h : n ≤ 13) (hk : k < 3) : n ^ k * n ≤ 100000 := by
  have h1 : n ^ k * n ≤ 13 ^ k * 13 := Nat.mul_le_mul (Nat.pow_le_pow_left h k) h
  have h2 : 13 ^ k * 13 ≤ 100000 := by
    match k, hk with
    | 0, _ => decide
    | 1, _ => decide
    | 2, _ => decide
  exact Nat.le_trans h1 h2
theorem big6 {n k : Nat} (h : n ≤ 6) (hk : k < 4) : n ^ k * n ≤ 100000 := by
  have h1 : n ^ k * n ≤ 6 ^ k * 6 := Nat.mul_le_mul (Nat.pow_le_pow_left h k) h
  have h2 : 6 ^ k * 6 ≤ 100000 := by
    match k, hk with
    | 0, _ => decide
    | 1, _ => decide
    | 2, _ => decide
    | 3, _ => decide
  exact Nat.le_trans h1 h2
theorem law_true (ns : List Int) (hl : ns.length ≤ 63) (hb : ∀ z ∈ ns, PySem.Builtin.Int.intBits z ≤ 1048576) : ∃ outs, g_law [.scr ns] = .ok (.bl true, outs) := by
  obtain ⟨cells, d1⟩ := s_law_deck hl
  obtain ⟨z, f1⟩ := s_law_fold hl
  have fm : modD (.int z) (.int 8) = some (.int (z % 8)) := modD_i (by decide)
  have fd : fdivD (.int z) (.int 8) = some (.int (z / 8)) := fdivD_i (by decide) (by decide)
  have fm2 : modD (.int (z / 8)) (.int 8) = some (.int (z / 8 % 8)) := modD_i (by decide)
  obtain ⟨l, a2, b2, c2, t1, t2⟩ := s_law_tables cells 0 0 0 (decide (z % 8 = 1))
  obtain ⟨F, a3, b3, c3, g1, g2, g3, g4⟩ := s_law_folk cells a2 b2 c2
  obtain ⟨k, a4, b4, c4, k1, k2, k3⟩ := s_law_pick cells a3 b3 c3 (m := 5) (by decide) (by decide)
  have hr : rng1 [.int k] = some (rngD 0 k.toNat) := by
    show (if _ then _ else _) = _
    rw [if_pos (by omega)]
  have hz : fzL (rngD 0 k.toNat) = true := fzL_map _ (fun _ => by simp) _
  have hlen : (rngD 0 k.toNat).length = k.toNat := by simp [rngD]
  have zt : fz (tabsD l) = true := by simp [tabsD, fz_tabs]
  have zF := fzL_strs F
  obtain ⟨xs, a5, b5, c5, y, m1, m2, m3⟩ := draw (k := 6) (elt := mCall g__law_demand (mArgs [mVarA 1, mVarA 3])) (fun a b c x => [some (.scr ns), some (dk cells a b c), some (.int z), some (tabsD l), some (.lst true (F.map .str)), none, x, none, none, none, none, none, none]) dmdD (okDmd l) (fun _ _ _ _ _ => rfl) fz_dmd (fun a b c d => by
    obtain ⟨x, a', b', c', h1, h2⟩ := s_law_demand t2 cells a b c
    exact ⟨x, a', b', c', by simp [ownVars, putBack, zt, h1], h2⟩) (rngD 0 k.toNat) [] a4 b4 c4 none
  rw [hlen] at m2
  have zx := fz_dmds xs
  have hfx := frz_lstt zx
  have htx := tupleD_l (o := false) zx
  have hkl : (rngD 0 k.toNat).length ≤ 1000 := by rw [hlen]; omega
  have hs6 : ∀ x ∈ xs, okB (sortS F) x := fun x _ j hj => by
    have : (sortS F).length = F.length := by rw [sortS, List.length_mergeSort]
    have h4 := due4 x
    rw [this]
    exact big6 g4 (by omega)
  have hlaw : ∃ e, m_law [some (.scr ns), none, none, none, none, none, none, none, none, none, none, none, none] = .ok (.ret (.bl true), some (.scr ns) :: e) := by
    by_cases hc : z / 8 % 8 = 1
    · obtain ⟨G, ys, a6, b6, c6, n1, n2, n3, n4, n5, n6⟩ := lwB_ok (l := l) (by omega) m3 cells a5 b5 c5 (some (.scr ns)) (some (.int z)) (some (tabsD l)) (some (.lst true (F.map .str)))
      obtain ⟨e, he⟩ := lw1_ok t2 (F := G) n5 (fun x hx => ⟨(n6 x hx).1, fun j hj => by
        have h1 : (sortS G).length = G.length := by rw [sortS, List.length_mergeSort]
        have h4 := (n6 x hx).2
        rw [h1]
        exact big13 n4 (by omega)⟩) n2 n3 n4 cells a6 b6 c6 (some (.scr ns)) (some (.int z))
      refine ⟨e, ?_⟩
      rw [lw_split]
      simp (implicitDefEqProofs := false) [ownVars, putBack, d1, f1, fm, t1, g1, k1, rV_ok hr, kLc_ok hz hkl, m1, restE, restV, hfx, htx, zx, zt, zF, fd, fm2, hc, n1, he]
    · obtain ⟨e, he⟩ := lw1_ok t2 (F := F) (by omega) (fun x hx => ⟨m3 x hx, hs6 x hx⟩) g2 g3 (by omega) cells a5 b5 c5 (some (.scr ns)) (some (.int z))
      refine ⟨e, ?_⟩
      rw [lw_split]
      simp (implicitDefEqProofs := false) [ownVars, putBack, d1, f1, fm, t1, g1, k1, rV_ok hr, kLc_ok hz hkl, m1, restE, restV, hfx, htx, zx, zt, zF, fd, fm2, hc, he]
  obtain ⟨e, he⟩ := hlaw
  refine ⟨[some (.scr ns)], ?_⟩
  simp (implicitDefEqProofs := false) [g_law, runD, ownOk, outsD, List.range, List.range.loop, he]
end Mi
namespace Mi
open PySem PySem.Spec PyProof.Rows L2
def top (i : Nat) : Stmt := PySem.Challenge.pw_elderalike_k06_whole_instances_listed.main.body.getD i (.Pass ⟨0, 0, 0, 0⟩)
structure Txt (C : KM) (xNoFolk : Addr) : Prop where
  n_all : C.mg "all" = none
  n_bool : C.mg "bool" = none
  n_dict : C.mg "dict" = none
  n_enumerate : C.mg "enumerate" = none
  n_int : C.mg "int" = none
  n_isinstance : C.mg "isinstance" = none
  n_len : C.mg "len" = none
  n_list : C.mg "list" = none
  n_range : C.mg "range" = none
  n_sorted : C.mg "sorted" = none
  n_str : C.mg "str" = none
  n_tuple : C.mg "tuple" = none
  c_FIGURES : ∃ t, C.mg "FIGURES" = some (.str "0123456789" t)
  c_GREAT : ∃ t, C.mg "GREAT" = some (.str "ABCDEFGHIJKLMNOPQRSTUVWXYZ" t)
  c_LETTERS : ∃ t, C.mg "LETTERS" = some (.str "abcd" t)
  c_MOST_DEMANDS : ∃ t, C.mg "MOST_DEMANDS" = some (.int 6 t)
  c_MOST_FACTOR : ∃ t, C.mg "MOST_FACTOR" = some (.int 99 t)
  c_MOST_HOURS : ∃ t, C.mg "MOST_HOURS" = some (.int 1000 t)
  c_MOST_RIGHT : ∃ t, C.mg "MOST_RIGHT" = some (.int 999 t)
  c_MOST_SIGNS : ∃ t, C.mg "MOST_SIGNS" = some (.int 8 t)
  c_MOST_SIZE : ∃ t, C.mg "MOST_SIZE" = some (.int 3 t)
  c_MOST_TABLES : ∃ t, C.mg "MOST_TABLES" = some (.int 4 t)
  c_MOST_TERMS : ∃ t, C.mg "MOST_TERMS" = some (.int 8 t)
  c_SMALL : ∃ t, C.mg "SMALL" = some (.str "abcdefghijklmnopqrstuvwxyz" t)
  c_WHOLE : ∃ t, C.mg "WHOLE" = some (.int 0 t)
  e_NoFolk : ExcC C "NoFolk"
  g_NoFolk : C.mg "NoFolk" = some (.ref xNoFolk)
  y_NoFolk : ∀ n ∈ yes_NoFolk, ∀ u, C.mg n = some u → PySem.W.exmOne C.K u (.ref xNoFolk) = some true
  o_NoFolk : ∀ n ∈ no_NoFolk, ∀ u, C.mg n = some u → PySem.W.exmOne C.K u (.ref xNoFolk) = some false
  f_demands : ∀ c ∈ cs_demands, FldOk C c "demands"
  f_tables : ∀ c ∈ cs_tables, FldOk C c "tables"
  f_world : ∀ c ∈ cs_world, FldOk C c "world"
theorem sc__law_deck : FnScope ["_law_script", "_law_cell"] ["_law_script"] (defScope (top 41)) := ⟨rfl, rfl, rfl, by decide +kernel, rfl, by decide +kernel, by decide +kernel⟩
theorem b__law_deck {C : KM} {xNoFolk : Addr} (T : Txt C xNoFolk)  (base : Heap) (f : Addr) (cdv : Value) (A : Around) (outer : List Env) (s : Shared) (H : Hp) (E : XK) (vs : List V) (W : WX) (g : Go (CxD C base ["_law_script", "_law_cell"] "_law_deck" (defScope (top 41)) f cdv A outer s H E) ⟨C, vs, [0]⟩ W 0) : PSs (CxD C base ["_law_script", "_law_cell"] "_law_deck" (defScope (top 41)) f cdv A outer s H E) (defBody (top 41)) (tS ⟨C, vs, [0]⟩ W m__law_deck) :=
  (rs_one (rs_ret (r_lst (r_cons (r_frz (r_lc g [("_law_cell", 1)] (.nm 1) (show (1 : Nat) ∉ [0] by decide) (show ∀ i ∈ [0], i ∉ [1] by decide) (show (1 : Nat) ∈ [1] by decide) (ri_val g.toSt0 (r_frz (r_sl g.toSt0 (r_varA 0 rfl (by first | exact .inl rfl | exact .inr (.inl rfl) | exact .inr (.inr rfl))) r_noP (r_part r_int)))) (blkOk_by (N := ["_law_script", "_law_cell"]) (sc := defScope (top 41)) (by decide +kernel)) (fun _ _ _ _ _ => (rg_nm (g.blk ..).toSt0 1 rfl (by first | exact .inl rfl | exact .inr rfl))) (fun _ _ _ _ _ g => rts_nil) (fun _ _ _ _ _ g => (r_cty g.toSt0 (call_intD) T.n_int (by rfl) rfl (r_cons (r_varA 1 rfl (by first | exact .inl rfl | exact .inr (.inl rfl) | exact .inr (.inr rfl))) r_nil))))) (r_cons (r_frz r_int) (r_cons (r_frz r_int) (r_cons (r_frz r_int) r_nil)))))))
theorem sc__law_fold : FnScope ["_law_script", "_law_found", "_law_cell"] ["_law_script"] (defScope (top 43)) := ⟨rfl, rfl, rfl, by decide +kernel, rfl, by decide +kernel, by decide +kernel⟩
theorem b__law_fold {C : KM} {xNoFolk : Addr} (T : Txt C xNoFolk)  (base : Heap) (f : Addr) (cdv : Value) (A : Around) (outer : List Env) (s : Shared) (H : Hp) (E : XK) (vs : List V) (W : WX) (g : Go (CxD C base ["_law_script", "_law_found", "_law_cell"] "_law_fold" (defScope (top 43)) f cdv A outer s H E) ⟨C, vs, [0]⟩ W 0) : PSs (CxD C base ["_law_script", "_law_found", "_law_cell"] "_law_fold" (defScope (top 43)) f cdv A outer s H E) (defBody (top 43)) (tS ⟨C, vs, [0]⟩ W m__law_fold) :=
  (rs_cons (rs_set g.toSt0 1 (show (1 : Nat) ∉ [0] by decide) rfl (by first | exact .inl rfl | exact .inr rfl) (r_cb g.toSt0 (call_lenDD g.k.symm) T.n_len (by rfl) rfl (r_cons (r_varA 0 rfl (by first | exact .inl rfl | exact .inr (.inl rfl) | exact .inr (.inr rfl))) r_nil)))
  (rs_cons (rs_for g (.nm 2) (show (2 : Nat) ∉ [0] by decide) (ri_val g.toSt0 (r_frz (r_sl g.toSt0 (r_varA 0 rfl (by first | exact .inl rfl | exact .inr (.inl rfl) | exact .inr (.inr rfl))) r_noP (r_part r_int)))) (rg_nm g.toSt0 2 rfl (by first | exact .inl rfl | exact .inr rfl)) (rs_one (rs_set g.toSt0 1 (show (1 : Nat) ∉ [0] by decide) rfl (by first | exact .inl rfl | exact .inr rfl) (r_bin g.toSt0 rfl (r_frz (r_cty g.toSt0 (call_intD) T.n_int (by rfl) rfl (r_cons (r_frz (r_bin g.toSt0 rfl (r_frz (r_bin g.toSt0 rfl (r_frz (r_bin g.toSt0 rfl (r_varA 1 rfl (by first | exact .inl rfl | exact .inr (.inl rfl) | exact .inr (.inr rfl))) (r_frz r_int))) (r_frz (r_bin g.toSt0 rfl (r_frz (r_cty g.toSt0 (call_intD) T.n_int (by rfl) rfl (r_cons (r_varA 2 rfl (by first | exact .inl rfl | exact .inr (.inl rfl) | exact .inr (.inr rfl))) r_nil))) (r_frz r_int))))) (r_frz r_int))) r_nil))) (r_frz r_int)))))
  (rs_one (rs_ret (r_bin g.toSt0 rfl (r_frz (r_cty g.toSt0 (call_intD) T.n_int (by rfl) rfl (r_cons (r_frz (r_bin g.toSt0 rfl (r_varA 1 rfl (by first | exact .inl rfl | exact .inr (.inl rfl) | exact .inr (.inr rfl))) (r_frz (r_bin g.toSt0 rfl (r_frz (r_bin g.toSt0 rfl (r_varA 1 rfl (by first | exact .inl rfl | exact .inr (.inl rfl) | exact .inr (.inr rfl))) (r_frz r_int))) (r_frz r_int))))) r_nil))) (r_frz r_int))))))
theorem sc__law_pick : FnScope ["_law_deck_here", "_law_many", "_law_found", "_law_cells", "_law_cell", "_law_number"] ["_law_deck_here", "_law_many"] (defScope (top 42)) := ⟨rfl, rfl, rfl, by decide +kernel, rfl, by decide +kernel, by decide +kernel⟩
theorem b__law_pick {C : KM} {xNoFolk : Addr} (T : Txt C xNoFolk)  (base : Heap) (f : Addr) (cdv : Value) (A : Around) (outer : List Env) (s : Shared) (H : Hp) (E : XK) (vs : List V) (W : WX) (g : Go (CxD C base ["_law_deck_here", "_law_many", "_law_found", "_law_cells", "_law_cell", "_law_number"] "_law_pick" (defScope (top 42)) f cdv A outer s H E) ⟨C, vs, [0, 1]⟩ W 0) : PSs (CxD C base ["_law_deck_here", "_law_many", "_law_found", "_law_cells", "_law_cell", "_law_number"] "_law_pick" (defScope (top 42)) f cdv A outer s H E) (defBody (top 42)) (tS ⟨C, vs, [0, 1]⟩ W m__law_pick) :=
  (rs_cons (rs_putX g.toSt0 0 rfl (by first | exact .inl rfl | exact .inr (.inl rfl) | exact .inr (.inr rfl)) r_int (r_bin g.toSt0 rfl (r_frz (r_ix g.toSt0 (r_varA 0 rfl (by first | exact .inl rfl | exact .inr (.inl rfl) | exact .inr (.inr rfl))) (r_frz r_int))) (r_frz r_int)))
  (rs_cons (rs_if (rt_cmp g.toSt0 rfl (r_frz (r_ix g.toSt0 (r_varA 0 rfl (by first | exact .inl rfl | exact .inr (.inl rfl) | exact .inr (.inr rfl))) (r_frz r_int))) (r_frz r_int)) (rs_cons (rs_set g.toSt0 2 (show (2 : Nat) ∉ [0, 1] by decide) rfl (by first | exact .inl rfl | exact .inr rfl) (r_bin g.toSt0 rfl (r_frz (r_cty g.toSt0 (call_intD) T.n_int (by rfl) rfl (r_cons (r_frz (r_ix g.toSt0 (r_varA 0 rfl (by first | exact .inl rfl | exact .inr (.inl rfl) | exact .inr (.inr rfl))) (r_frz r_int))) r_nil))) (r_varA 1 rfl (by first | exact .inl rfl | exact .inr (.inl rfl) | exact .inr (.inr rfl)))))
  (rs_cons (rs_putX g.toSt0 0 rfl (by first | exact .inl rfl | exact .inr (.inl rfl) | exact .inr (.inr rfl)) r_int (r_bin g.toSt0 rfl (r_frz (r_cty g.toSt0 (call_intD) T.n_int (by rfl) rfl (r_cons (r_frz (r_ix g.toSt0 (r_varA 0 rfl (by first | exact .inl rfl | exact .inr (.inl rfl) | exact .inr (.inr rfl))) (r_frz r_int))) r_nil))) (r_varA 1 rfl (by first | exact .inl rfl | exact .inr (.inl rfl) | exact .inr (.inr rfl)))))
  (rs_one (rs_ret (r_varM 2 2 rfl (by first | exact .inl rfl | exact .inr (.inl rfl) | exact .inr (.inr rfl))))))) rs_nil)
  (rs_cons (rs_set g.toSt0 3 (show (3 : Nat) ∉ [0, 1] by decide) rfl (by first | exact .inl rfl | exact .inr rfl) (r_ix g.toSt0 (r_varA 0 rfl (by first | exact .inl rfl | exact .inr (.inl rfl) | exact .inr (.inr rfl))) (r_frz r_int)))
  (rs_cons (rs_set g.toSt0 4 (show (4 : Nat) ∉ [0, 1] by decide) rfl (by first | exact .inl rfl | exact .inr rfl) r_int)
  (rs_cons (rs_if (rt_cmp g.toSt0 rfl (r_frz (r_cb g.toSt0 (call_lenDD g.k.symm) T.n_len (by rfl) rfl (r_cons (r_varA 3 rfl (by first | exact .inl rfl | exact .inr (.inl rfl) | exact .inr (.inr rfl))) r_nil))) (r_frz r_int)) (rs_one (rs_set g.toSt0 4 (show (4 : Nat) ∉ [0, 1] by decide) rfl (by first | exact .inl rfl | exact .inr rfl) (r_ix g.toSt0 (r_varA 3 rfl (by first | exact .inl rfl | exact .inr (.inl rfl) | exact .inr (.inr rfl))) (r_frz (r_bin g.toSt0 rfl (r_frz (r_cty g.toSt0 (call_intD) T.n_int (by rfl) rfl (r_cons (r_frz (r_ix g.toSt0 (r_varA 0 rfl (by first | exact .inl rfl | exact .inr (.inl rfl) | exact .inr (.inr rfl))) (r_frz r_int))) r_nil))) (r_frz (r_cb g.toSt0 (call_lenDD g.k.symm) T.n_len (by rfl) rfl (r_cons (r_varA 3 rfl (by first | exact .inl rfl | exact .inr (.inl rfl) | exact .inr (.inr rfl))) r_nil)))))))) rs_nil)
  (rs_cons (rs_putX g.toSt0 0 rfl (by first | exact .inl rfl | exact .inr (.inl rfl) | exact .inr (.inr rfl)) r_int (r_bin g.toSt0 rfl (r_frz (r_ix g.toSt0 (r_varA 0 rfl (by first | exact .inl rfl | exact .inr (.inl rfl) | exact .inr (.inr rfl))) (r_frz r_int))) (r_frz r_int)))
  (rs_cons (rs_if (PW.pt (rt_and (rt_cmp g.toSt0 rfl (r_varA 4 rfl (by first | exact .inl rfl | exact .inr (.inl rfl) | exact .inr (.inr rfl))) (r_frz (r_bin g.toSt0 rfl (r_frz r_int) (r_frz r_int)))) (rt_and1 (rt_cmp g.toSt0 rfl (r_frz (r_ix g.toSt0 (r_varA 0 rfl (by first | exact .inl rfl | exact .inr (.inl rfl) | exact .inr (.inr rfl))) (r_frz r_int))) (r_frz (r_cb g.toSt0 (call_lenDD g.k.symm) T.n_len (by rfl) rfl (r_cons (r_varA 3 rfl (by first | exact .inl rfl | exact .inr (.inl rfl) | exact .inr (.inr rfl))) r_nil))))))) (rs_cons (rs_putX g.toSt0 0 rfl (by first | exact .inl rfl | exact .inr (.inl rfl) | exact .inr (.inr rfl)) r_int (r_bin g.toSt0 rfl (r_frz (r_cty g.toSt0 (call_intD) T.n_int (by rfl) rfl (r_cons (r_varA 4 rfl (by first | exact .inl rfl | exact .inr (.inl rfl) | exact .inr (.inr rfl))) r_nil))) (r_varA 1 rfl (by first | exact .inl rfl | exact .inr (.inl rfl) | exact .inr (.inr rfl)))))
  (rs_one (rs_ret (r_bin g.toSt0 rfl (r_frz (r_cty g.toSt0 (call_intD) T.n_int (by rfl) rfl (r_cons (r_varA 4 rfl (by first | exact .inl rfl | exact .inr (.inl rfl) | exact .inr (.inr rfl))) r_nil))) (r_varA 1 rfl (by first | exact .inl rfl | exact .inr (.inl rfl) | exact .inr (.inr rfl))))))) rs_nil)
  (rs_cons (rs_set g.toSt0 5 (show (5 : Nat) ∉ [0, 1] by decide) rfl (by first | exact .inl rfl | exact .inr rfl) (r_bin g.toSt0 rfl (r_frz (r_bin g.toSt0 rfl (r_frz (r_cty g.toSt0 (call_intD) T.n_int (by rfl) rfl (r_cons (r_frz (r_bin g.toSt0 rfl (r_frz (r_bin g.toSt0 rfl (r_varA 4 rfl (by first | exact .inl rfl | exact .inr (.inl rfl) | exact .inr (.inr rfl))) (r_frz (r_bin g.toSt0 rfl (r_frz r_int) (r_frz (r_ix g.toSt0 (r_varA 0 rfl (by first | exact .inl rfl | exact .inr (.inl rfl) | exact .inr (.inr rfl))) (r_frz r_int))))))) (r_frz r_int))) r_nil))) (r_frz r_int))) (r_frz r_int)))
  (rs_cons (rs_set g.toSt0 5 (show (5 : Nat) ∉ [0, 1] by decide) rfl (by first | exact .inl rfl | exact .inr rfl) (r_bin g.toSt0 rfl (r_frz (r_bin g.toSt0 rfl (r_varA 5 rfl (by first | exact .inl rfl | exact .inr (.inl rfl) | exact .inr (.inr rfl))) (r_frz (r_bin g.toSt0 rfl (r_frz (r_bin g.toSt0 rfl (r_varA 5 rfl (by first | exact .inl rfl | exact .inr (.inl rfl) | exact .inr (.inr rfl))) (r_frz r_int))) (r_frz r_int))))) (r_frz r_int)))
  (rs_cons (rs_set g.toSt0 5 (show (5 : Nat) ∉ [0, 1] by decide) rfl (by first | exact .inl rfl | exact .inr rfl) (r_bin g.toSt0 rfl (r_frz (r_bin g.toSt0 rfl (r_varA 5 rfl (by first | exact .inl rfl | exact .inr (.inl rfl) | exact .inr (.inr rfl))) (r_frz (r_bin g.toSt0 rfl (r_frz (r_bin g.toSt0 rfl (r_varA 5 rfl (by first | exact .inl rfl | exact .inr (.inl rfl) | exact .inr (.inr rfl))) (r_frz r_int))) (r_frz r_int))))) (r_frz r_int)))
  (rs_one (rs_ret (r_bin g.toSt0 rfl (r_varA 5 rfl (by first | exact .inl rfl | exact .inr (.inl rfl) | exact .inr (.inr rfl))) (r_varA 1 rfl (by first | exact .inl rfl | exact .inr (.inl rfl) | exact .inr (.inr rfl))))))))))))))))
theorem sc__law_tables : FnScope ["_law_deck_here", "_law_is_large", "_law_known", "_law_turn", "_law_labels", "_law_label"] ["_law_deck_here", "_law_is_large"] (defScope (top 44)) := ⟨rfl, rfl, rfl, by decide +kernel, rfl, by decide +kernel, by decide +kernel⟩
theorem b__law_tables {C : KM} {xNoFolk : Addr} (T : Txt C xNoFolk) (F__law_pick : Fn C 1 "_law_pick" g__law_pick) (base : Heap) (f : Addr) (cdv : Value) (A : Around) (outer : List Env) (s : Shared) (H : Hp) (E : XK) (vs : List V) (W : WX) (g : Go (CxD C base ["_law_deck_here", "_law_is_large", "_law_known", "_law_turn", "_law_labels", "_law_label"] "_law_tables" (defScope (top 44)) f cdv A outer s H E) ⟨C, vs, [0, 1]⟩ W 1) : PSs (CxD C base ["_law_deck_here", "_law_is_large", "_law_known", "_law_turn", "_law_labels", "_law_label"] "_law_tables" (defScope (top 44)) f cdv A outer s H E) (defBody (top 44)) (tS ⟨C, vs, [0, 1]⟩ W m__law_tables) :=
  (rs_cons (rs_set g.toSt0 2 (show (2 : Nat) ∉ [0, 1] by decide) rfl (by first | exact .inl rfl | exact .inr rfl) r_dic0)
  (rs_cons (rs_for g (.nm 3) (show (3 : Nat) ∉ [0, 1] by decide) (ri_rng1 g.toSt0 T.n_range rfl (r_cons (r_frz (r_bin g.toSt0 rfl (r_frz r_int) (r_frz (r_call g F__law_pick (by decide) rfl (r_cons (r_varA 0 rfl (by first | exact .inl rfl | exact .inr (.inl rfl) | exact .inr (.inr rfl))) (r_cons (r_frz r_int) r_nil)))))) r_nil)) (rg_nm g.toSt0 3 rfl (by first | exact .inl rfl | exact .inr rfl)) (rs_one (rs_putX g.toSt0 2 rfl (by first | exact .inl rfl | exact .inr (.inl rfl) | exact .inr (.inr rfl)) (r_ix g.toSt0 (r_frz r_str) (r_frz (r_call g F__law_pick (by decide) rfl (r_cons (r_varA 0 rfl (by first | exact .inl rfl | exact .inr (.inl rfl) | exact .inr (.inr rfl))) (r_cons (r_frz r_int) r_nil))))) (r_call g F__law_pick (by decide) rfl (r_cons (r_varA 0 rfl (by first | exact .inl rfl | exact .inr (.inl rfl) | exact .inr (.inr rfl))) (r_cons (r_frz r_int) r_nil))))))
  (rs_cons (rs_set g.toSt0 4 (show (4 : Nat) ∉ [0, 1] by decide) rfl (by first | exact .inl rfl | exact .inr rfl) (r_cb g.toSt0 (call_sortX g.k.symm) T.n_sorted (by rfl) rfl (r_cons (r_frz (r_cty g.toSt0 (call_listY g.k.symm g.cm) T.n_list (by rfl) rfl (r_cons (r_varA 2 rfl (by first | exact .inl rfl | exact .inr (.inl rfl) | exact .inr (.inr rfl))) r_nil))) r_nil)))
  (rs_cons (rs_if (rt_tru g.toSt0 (r_varA 1 rfl (by first | exact .inl rfl | exact .inr (.inl rfl) | exact .inr (.inr rfl)))) (rs_one (rs_putX g.toSt0 2 rfl (by first | exact .inl rfl | exact .inr (.inl rfl) | exact .inr (.inr rfl)) (r_ix g.toSt0 (r_varA 4 rfl (by first | exact .inl rfl | exact .inr (.inl rfl) | exact .inr (.inr rfl))) (r_frz (r_call g F__law_pick (by decide) rfl (r_cons (r_varA 0 rfl (by first | exact .inl rfl | exact .inr (.inl rfl) | exact .inr (.inr rfl))) (r_cons (r_frz (r_cb g.toSt0 (call_lenDD g.k.symm) T.n_len (by rfl) rfl (r_cons (r_varA 4 rfl (by first | exact .inl rfl | exact .inr (.inl rfl) | exact .inr (.inr rfl))) r_nil))) r_nil))))) r_int)) rs_nil)
  (rs_one (rs_ret (r_cty g.toSt0 (call_tupleD g.k.symm) T.n_tuple (by rfl) rfl (r_cons (r_frz (r_lc g [("_law_label", 5)] (.nm 5) (show (5 : Nat) ∉ [0, 1] by decide) (show ∀ i ∈ [0, 1], i ∉ [5] by decide) (show (5 : Nat) ∈ [5] by decide) (ri_val g.toSt0 (r_frz (r_varE 4 rfl (by first | exact .inl rfl | exact .inr (.inl rfl) | exact .inr (.inr rfl))))) (blkOk_by (N := ["_law_deck_here", "_law_is_large", "_law_known", "_law_turn", "_law_labels", "_law_label"]) (sc := defScope (top 44)) (by decide +kernel)) (fun _ _ _ _ _ => (rg_nm (g.blk ..).toSt0 5 rfl (by first | exact .inl rfl | exact .inr rfl))) (fun _ _ _ _ _ g => rts_nil) (fun _ _ _ _ _ g => (r_tup (r_cons (r_frz (r_varE 5 rfl (by first | exact .inl rfl | exact .inr (.inl rfl) | exact .inr (.inr rfl)))) (r_cons (r_frz (r_ix g.toSt0 (r_varA 2 rfl (by first | exact .inl rfl | exact .inr (.inl rfl) | exact .inr (.inr rfl))) (r_varA 5 rfl (by first | exact .inl rfl | exact .inr (.inl rfl) | exact .inr (.inr rfl))))) r_nil)))))) r_nil))))))))
theorem sc__law_name : FnScope ["_law_deck_here", "_law_signs", "_law_turn"] ["_law_deck_here"] (defScope (top 47)) := ⟨rfl, rfl, rfl, by decide +kernel, rfl, by decide +kernel, by decide +kernel⟩
theorem b__law_name {C : KM} {xNoFolk : Addr} (T : Txt C xNoFolk) (F__law_pick : Fn C 1 "_law_pick" g__law_pick) (base : Heap) (f : Addr) (cdv : Value) (A : Around) (outer : List Env) (s : Shared) (H : Hp) (E : XK) (vs : List V) (W : WX) (g : Go (CxD C base ["_law_deck_here", "_law_signs", "_law_turn"] "_law_name" (defScope (top 47)) f cdv A outer s H E) ⟨C, vs, [0]⟩ W 1) : PSs (CxD C base ["_law_deck_here", "_law_signs", "_law_turn"] "_law_name" (defScope (top 47)) f cdv A outer s H E) (defBody (top 47)) (tS ⟨C, vs, [0]⟩ W m__law_name) :=
  (rs_cons (rs_set g.toSt0 1 (show (1 : Nat) ∉ [0] by decide) rfl (by first | exact .inl rfl | exact .inr rfl) r_str)
  (rs_one (rs_ret (r_join g.toSt0 (r_frz (r_lc g [("_law_turn", 2)] (.nm 2) (show (2 : Nat) ∉ [0] by decide) (show ∀ i ∈ [0], i ∉ [2] by decide) (show (2 : Nat) ∈ [2] by decide) (ri_rng1 g.toSt0 T.n_range rfl (r_cons (r_frz (r_bin g.toSt0 rfl (r_frz r_int) (r_frz (r_call g F__law_pick (by decide) rfl (r_cons (r_varA 0 rfl (by first | exact .inl rfl | exact .inr (.inl rfl) | exact .inr (.inr rfl))) (r_cons (r_frz r_int) r_nil)))))) r_nil)) (blkOk_by (N := ["_law_deck_here", "_law_signs", "_law_turn"]) (sc := defScope (top 47)) (by decide +kernel)) (fun _ _ _ _ _ => (rg_nm (g.blk ..).toSt0 2 rfl (by first | exact .inl rfl | exact .inr rfl))) (fun _ _ _ _ _ g => rts_nil) (fun _ _ _ _ _ g => (r_ix g.toSt0 (r_varA 1 rfl (by first | exact .inl rfl | exact .inr (.inl rfl) | exact .inr (.inr rfl))) (r_frz (r_call g F__law_pick (by decide) rfl (r_cons (r_varA 0 rfl (by first | exact .inl rfl | exact .inr (.inl rfl) | exact .inr (.inr rfl))) (r_cons (r_frz r_int) r_nil))))))))))))
theorem sc__law_folk : FnScope ["_law_deck_here", "_law_found", "_law_turn", "_law_one"] ["_law_deck_here"] (defScope (top 48)) := ⟨rfl, rfl, rfl, by decide +kernel, rfl, by decide +kernel, by decide +kernel⟩
theorem b__law_folk {C : KM} {xNoFolk : Addr} (T : Txt C xNoFolk) (F__law_pick : Fn C 1 "_law_pick" g__law_pick) (F__law_name : Fn C 2 "_law_name" g__law_name) (base : Heap) (f : Addr) (cdv : Value) (A : Around) (outer : List Env) (s : Shared) (H : Hp) (E : XK) (vs : List V) (W : WX) (g : Go (CxD C base ["_law_deck_here", "_law_found", "_law_turn", "_law_one"] "_law_folk" (defScope (top 48)) f cdv A outer s H E) ⟨C, vs, [0]⟩ W 2) : PSs (CxD C base ["_law_deck_here", "_law_found", "_law_turn", "_law_one"] "_law_folk" (defScope (top 48)) f cdv A outer s H E) (defBody (top 48)) (tS ⟨C, vs, [0]⟩ W m__law_folk) :=
  (rs_cons (rs_set g.toSt0 1 (show (1 : Nat) ∉ [0] by decide) rfl (by first | exact .inl rfl | exact .inr rfl) (r_lst r_nil))
  (rs_cons (rs_for g (.nm 2) (show (2 : Nat) ∉ [0] by decide) (ri_rng1 g.toSt0 T.n_range rfl (r_cons (r_frz (r_call g F__law_pick (by decide) rfl (r_cons (r_varA 0 rfl (by first | exact .inl rfl | exact .inr (.inl rfl) | exact .inr (.inr rfl))) (r_cons (r_frz r_int) r_nil)))) r_nil)) (rg_nm g.toSt0 2 rfl (by first | exact .inl rfl | exact .inr rfl)) (rs_cons (rs_set g.toSt0 3 (show (3 : Nat) ∉ [0] by decide) rfl (by first | exact .inl rfl | exact .inr rfl) (r_ix g.toSt0 (r_frz r_str) (r_frz (r_call g F__law_pick (by decide) rfl (r_cons (r_varA 0 rfl (by first | exact .inl rfl | exact .inr (.inl rfl) | exact .inr (.inr rfl))) (r_cons (r_frz r_int) r_nil))))))
  (rs_cons (rs_if (rt_cmp g.toSt0 rfl (r_frz (r_call g F__law_pick (by decide) rfl (r_cons (r_varA 0 rfl (by first | exact .inl rfl | exact .inr (.inl rfl) | exact .inr (.inr rfl))) (r_cons (r_frz r_int) r_nil)))) (r_frz r_int)) (rs_one (rs_set g.toSt0 3 (show (3 : Nat) ∉ [0] by decide) rfl (by first | exact .inl rfl | exact .inr rfl) (r_call g F__law_name (by decide) rfl (r_cons (r_varA 0 rfl (by first | exact .inl rfl | exact .inr (.inl rfl) | exact .inr (.inr rfl))) r_nil)))) rs_nil)
  (rs_one (rs_if (rt_cmp g.toSt0 rfl (r_varA 3 rfl (by first | exact .inl rfl | exact .inr (.inl rfl) | exact .inr (.inr rfl))) (r_varA 1 rfl (by first | exact .inl rfl | exact .inr (.inl rfl) | exact .inr (.inr rfl)))) (rs_one (rs_expr (r_insert g.toSt0 1 rfl (by first | exact .inl rfl | exact .inr (.inl rfl) | exact .inr (.inr rfl)) (r_cons (r_frz (r_call g F__law_pick (by decide) rfl (r_cons (r_varA 0 rfl (by first | exact .inl rfl | exact .inr (.inl rfl) | exact .inr (.inr rfl))) (r_cons (r_frz (r_bin g.toSt0 rfl (r_frz (r_cb g.toSt0 (call_lenDD g.k.symm) T.n_len (by rfl) rfl (r_cons (r_varA 1 rfl (by first | exact .inl rfl | exact .inr (.inl rfl) | exact .inr (.inr rfl))) r_nil))) (r_frz r_int))) r_nil)))) (r_cons (r_frz (r_varE 3 rfl (by first | exact .inl rfl | exact .inr (.inl rfl) | exact .inr (.inr rfl)))) r_nil))))) rs_nil)))))
  (rs_one (rs_ret (r_varM 1 1 rfl (by first | exact .inl rfl | exact .inr (.inl rfl) | exact .inr (.inr rfl)))))))
theorem sc_is_integer : FnScope ["thing"] ["thing"] (defScope (top 9)) := ⟨rfl, rfl, rfl, by decide +kernel, rfl, by decide +kernel, by decide +kernel⟩
theorem b_is_integer {C : KM} {xNoFolk : Addr} (T : Txt C xNoFolk)  (base : Heap) (f : Addr) (cdv : Value) (A : Around) (outer : List Env) (s : Shared) (H : Hp) (E : XK) (vs : List V) (W : WX) (g : Go (CxD C base ["thing"] "is_integer" (defScope (top 9)) f cdv A outer s H E) ⟨C, vs, [0]⟩ W 0) : PSs (CxD C base ["thing"] "is_integer" (defScope (top 9)) f cdv A outer s H E) (defBody (top 9)) (tS ⟨C, vs, [0]⟩ W m_is_integer) :=
  (rs_one (rs_ret (r_and (r_isi g.toSt0 .tInt (r_varA 0 rfl (by first | exact .inl rfl | exact .inr (.inl rfl) | exact .inr (.inr rfl))) T.n_isinstance T.n_int rfl rfl (by rfl) (by rfl)) (r_one (r_not (r_isi g.toSt0 .tBool (r_varA 0 rfl (by first | exact .inl rfl | exact .inr (.inl rfl) | exact .inr (.inr rfl))) T.n_isinstance T.n_bool rfl rfl (by rfl) (by rfl)))))))
theorem sc_is_within : FnScope ["thing", "least", "most"] ["thing", "least", "most"] (defScope (top 10)) := ⟨rfl, rfl, rfl, by decide +kernel, rfl, by decide +kernel, by decide +kernel⟩
theorem b_is_within {C : KM} {xNoFolk : Addr} (T : Txt C xNoFolk) (F_is_integer : Fn C 1 "is_integer" g_is_integer) (base : Heap) (f : Addr) (cdv : Value) (A : Around) (outer : List Env) (s : Shared) (H : Hp) (E : XK) (vs : List V) (W : WX) (g : Go (CxD C base ["thing", "least", "most"] "is_within" (defScope (top 10)) f cdv A outer s H E) ⟨C, vs, [0, 1, 2]⟩ W 1) : PSs (CxD C base ["thing", "least", "most"] "is_within" (defScope (top 10)) f cdv A outer s H E) (defBody (top 10)) (tS ⟨C, vs, [0, 1, 2]⟩ W m_is_within) :=
  (rs_one (rs_ret (r_and (r_call g F_is_integer (by decide) rfl (r_cons (r_varA 0 rfl (by first | exact .inl rfl | exact .inr (.inl rfl) | exact .inr (.inr rfl))) r_nil)) (r_one (r_chain g.toSt0 rfl rfl (r_varA 1 rfl (by first | exact .inl rfl | exact .inr (.inl rfl) | exact .inr (.inr rfl))) (r_varA 0 rfl (by first | exact .inl rfl | exact .inr (.inl rfl) | exact .inr (.inr rfl))) (r_varA 2 rfl (by first | exact .inl rfl | exact .inr (.inl rfl) | exact .inr (.inr rfl))))))))
theorem sc_is_world : FnScope ["thing"] ["thing"] (defScope (top 22)) := ⟨rfl, rfl, rfl, by decide +kernel, rfl, by decide +kernel, by decide +kernel⟩
theorem b_is_world {C : KM} {xNoFolk : Addr} (T : Txt C xNoFolk) (F_is_within : Fn C 2 "is_within" g_is_within) (base : Heap) (f : Addr) (cdv : Value) (A : Around) (outer : List Env) (s : Shared) (H : Hp) (E : XK) (vs : List V) (W : WX) (g : Go (CxD C base ["thing"] "is_world" (defScope (top 22)) f cdv A outer s H E) ⟨C, vs, [0]⟩ W 2) : PSs (CxD C base ["thing"] "is_world" (defScope (top 22)) f cdv A outer s H E) (defBody (top 22)) (tS ⟨C, vs, [0]⟩ W m_is_world) :=
  (rs_one (rs_ret (r_call g F_is_within (by decide) rfl (r_cons (r_varA 0 rfl (by first | exact .inl rfl | exact .inr (.inl rfl) | exact .inr (.inr rfl))) (r_cons (r_frz (r_gInt g.toSt0 T.c_WHOLE rfl)) (r_cons (r_frz (r_gInt g.toSt0 T.c_MOST_HOURS rfl)) r_nil))))))
theorem sc_are_unlike : FnScope ["things", "thing"] ["things"] (defScope (top 18)) := ⟨rfl, rfl, rfl, by decide +kernel, rfl, by decide +kernel, by decide +kernel⟩
theorem b_are_unlike {C : KM} {xNoFolk : Addr} (T : Txt C xNoFolk)  (base : Heap) (f : Addr) (cdv : Value) (A : Around) (outer : List Env) (s : Shared) (H : Hp) (E : XK) (vs : List V) (W : WX) (g : Go (CxD C base ["things", "thing"] "are_unlike" (defScope (top 18)) f cdv A outer s H E) ⟨C, vs, [0]⟩ W 0) : PSs (CxD C base ["things", "thing"] "are_unlike" (defScope (top 18)) f cdv A outer s H E) (defBody (top 18)) (tS ⟨C, vs, [0]⟩ W m_are_unlike) :=
  (rs_one (rs_ret (r_cmp g.toSt0 rfl (r_frz (r_cb g.toSt0 (call_lenDD g.k.symm) T.n_len (by rfl) rfl (r_cons (r_frz (r_dc g [("thing", 1)] (.nm 1) (show (1 : Nat) ∉ [0] by decide) (show ∀ i ∈ [0], i ∉ [1] by decide) (show (1 : Nat) ∈ [1] by decide) (ri_val g.toSt0 (r_frz (r_varE 0 rfl (by first | exact .inl rfl | exact .inr (.inl rfl) | exact .inr (.inr rfl))))) (blkOk_by (N := ["things", "thing"]) (sc := defScope (top 18)) (by decide +kernel)) (fun _ _ _ _ _ => (rg_nm (g.blk ..).toSt0 1 rfl (by first | exact .inl rfl | exact .inr rfl))) (fun _ _ _ _ _ g => rts_nil) (fun _ _ _ _ _ g => (r_varA 1 rfl (by first | exact .inl rfl | exact .inr (.inl rfl) | exact .inr (.inr rfl)))) (fun _ _ _ _ _ g => r_bl))) r_nil))) (r_frz (r_cb g.toSt0 (call_lenDD g.k.symm) T.n_len (by rfl) rfl (r_cons (r_varA 0 rfl (by first | exact .inl rfl | exact .inr (.inl rfl) | exact .inr (.inr rfl))) r_nil))))))
theorem sc_is_pair : FnScope ["thing"] ["thing"] (defScope (top 12)) := ⟨rfl, rfl, rfl, by decide +kernel, rfl, by decide +kernel, by decide +kernel⟩
theorem b_is_pair {C : KM} {xNoFolk : Addr} (T : Txt C xNoFolk)  (base : Heap) (f : Addr) (cdv : Value) (A : Around) (outer : List Env) (s : Shared) (H : Hp) (E : XK) (vs : List V) (W : WX) (g : Go (CxD C base ["thing"] "is_pair" (defScope (top 12)) f cdv A outer s H E) ⟨C, vs, [0]⟩ W 0) : PSs (CxD C base ["thing"] "is_pair" (defScope (top 12)) f cdv A outer s H E) (defBody (top 12)) (tS ⟨C, vs, [0]⟩ W m_is_pair) :=
  (rs_one (rs_ret (r_and (r_isi g.toSt0 .tTup (r_varA 0 rfl (by first | exact .inl rfl | exact .inr (.inl rfl) | exact .inr (.inr rfl))) T.n_isinstance T.n_tuple rfl rfl (by rfl) (by rfl)) (r_one (r_cmp g.toSt0 rfl (r_frz (r_cb g.toSt0 (call_lenDD g.k.symm) T.n_len (by rfl) rfl (r_cons (r_varA 0 rfl (by first | exact .inl rfl | exact .inr (.inl rfl) | exact .inr (.inr rfl))) r_nil))) (r_frz r_int))))))
theorem sc_is_of : FnScope ["thing", "signs", "sign"] ["thing", "signs"] (defScope (top 13)) := ⟨rfl, rfl, rfl, by decide +kernel, rfl, by decide +kernel, by decide +kernel⟩
theorem b_is_of {C : KM} {xNoFolk : Addr} (T : Txt C xNoFolk)  (base : Heap) (f : Addr) (cdv : Value) (A : Around) (outer : List Env) (s : Shared) (H : Hp) (E : XK) (vs : List V) (W : WX) (g : Go (CxD C base ["thing", "signs", "sign"] "is_of" (defScope (top 13)) f cdv A outer s H E) ⟨C, vs, [0, 1]⟩ W 0) : PSs (CxD C base ["thing", "signs", "sign"] "is_of" (defScope (top 13)) f cdv A outer s H E) (defBody (top 13)) (tS ⟨C, vs, [0, 1]⟩ W m_is_of) :=
  (rs_one (rs_ret (r_and (r_isi g.toSt0 .tStr (r_varA 0 rfl (by first | exact .inl rfl | exact .inr (.inl rfl) | exact .inr (.inr rfl))) T.n_isinstance T.n_str rfl rfl (by rfl) (by rfl)) (r_and (r_chain g.toSt0 rfl rfl (r_frz r_int) (r_frz (r_cb g.toSt0 (call_lenDD g.k.symm) T.n_len (by rfl) rfl (r_cons (r_varA 0 rfl (by first | exact .inl rfl | exact .inr (.inl rfl) | exact .inr (.inr rfl))) r_nil))) (r_frz (r_gInt g.toSt0 T.c_MOST_SIGNS rfl))) (r_one (r_cb g.toSt0 (call_allD g.cm) T.n_all (by rfl) rfl (r_cons (r_frz (r_lc g [("sign", 2)] (.nm 2) (show (2 : Nat) ∉ [0, 1] by decide) (show ∀ i ∈ [0, 1], i ∉ [2] by decide) (show (2 : Nat) ∈ [2] by decide) (ri_val g.toSt0 (r_frz (r_varE 0 rfl (by first | exact .inl rfl | exact .inr (.inl rfl) | exact .inr (.inr rfl))))) (blkOk_by (N := ["thing", "signs", "sign"]) (sc := defScope (top 13)) (by decide +kernel)) (fun _ _ _ _ _ => (rg_nm (g.blk ..).toSt0 2 rfl (by first | exact .inl rfl | exact .inr rfl))) (fun _ _ _ _ _ g => rts_nil) (fun _ _ _ _ _ g => (r_cmp g.toSt0 rfl (r_varA 2 rfl (by first | exact .inl rfl | exact .inr (.inl rfl) | exact .inr (.inr rfl))) (r_varA 1 rfl (by first | exact .inl rfl | exact .inr (.inl rfl) | exact .inr (.inr rfl))))))) r_nil)))))))
theorem sc_is_label : FnScope ["thing"] ["thing"] (defScope (top 14)) := ⟨rfl, rfl, rfl, by decide +kernel, rfl, by decide +kernel, by decide +kernel⟩
theorem b_is_label {C : KM} {xNoFolk : Addr} (T : Txt C xNoFolk) (F_is_of : Fn C 1 "is_of" g_is_of) (base : Heap) (f : Addr) (cdv : Value) (A : Around) (outer : List Env) (s : Shared) (H : Hp) (E : XK) (vs : List V) (W : WX) (g : Go (CxD C base ["thing"] "is_label" (defScope (top 14)) f cdv A outer s H E) ⟨C, vs, [0]⟩ W 1) : PSs (CxD C base ["thing"] "is_label" (defScope (top 14)) f cdv A outer s H E) (defBody (top 14)) (tS ⟨C, vs, [0]⟩ W m_is_label) :=
  (rs_one (rs_ret (r_call g F_is_of (by decide) rfl (r_cons (r_varA 0 rfl (by first | exact .inl rfl | exact .inr (.inl rfl) | exact .inr (.inr rfl))) (r_cons (r_frz (r_gStr g.toSt0 T.c_SMALL rfl)) r_nil)))))
theorem sc_is_table : FnScope ["thing"] ["thing"] (defScope (top 31)) := ⟨rfl, rfl, rfl, by decide +kernel, rfl, by decide +kernel, by decide +kernel⟩
theorem b_is_table {C : KM} {xNoFolk : Addr} (T : Txt C xNoFolk) (F_is_pair : Fn C 1 "is_pair" g_is_pair) (F_is_label : Fn C 2 "is_label" g_is_label) (F_is_within : Fn C 2 "is_within" g_is_within) (base : Heap) (f : Addr) (cdv : Value) (A : Around) (outer : List Env) (s : Shared) (H : Hp) (E : XK) (vs : List V) (W : WX) (g : Go (CxD C base ["thing"] "is_table" (defScope (top 31)) f cdv A outer s H E) ⟨C, vs, [0]⟩ W 2) : PSs (CxD C base ["thing"] "is_table" (defScope (top 31)) f cdv A outer s H E) (defBody (top 31)) (tS ⟨C, vs, [0]⟩ W m_is_table) :=
  (rs_one (rs_ret (r_and (r_call g F_is_pair (by decide) rfl (r_cons (r_varA 0 rfl (by first | exact .inl rfl | exact .inr (.inl rfl) | exact .inr (.inr rfl))) r_nil)) (r_and (r_call g F_is_label (by decide) rfl (r_cons (r_frz (r_ix g.toSt0 (r_varA 0 rfl (by first | exact .inl rfl | exact .inr (.inl rfl) | exact .inr (.inr rfl))) (r_frz r_int))) r_nil)) (r_one (r_call g F_is_within (by decide) rfl (r_cons (r_frz (r_ix g.toSt0 (r_varA 0 rfl (by first | exact .inl rfl | exact .inr (.inl rfl) | exact .inr (.inr rfl))) (r_frz r_int))) (r_cons (r_frz r_int) (r_cons (r_frz (r_gInt g.toSt0 T.c_MOST_SIZE rfl)) r_nil)))))))))
theorem sc_are_tables : FnScope ["thing", "one", "labels"] ["thing"] (defScope (top 32)) := ⟨rfl, rfl, rfl, by decide +kernel, rfl, by decide +kernel, by decide +kernel⟩
theorem b_are_tables {C : KM} {xNoFolk : Addr} (T : Txt C xNoFolk) (F_is_table : Fn C 3 "is_table" g_is_table) (F_are_unlike : Fn C 1 "are_unlike" g_are_unlike) (base : Heap) (f : Addr) (cdv : Value) (A : Around) (outer : List Env) (s : Shared) (H : Hp) (E : XK) (vs : List V) (W : WX) (g : Go (CxD C base ["thing", "one", "labels"] "are_tables" (defScope (top 32)) f cdv A outer s H E) ⟨C, vs, [0]⟩ W 3) : PSs (CxD C base ["thing", "one", "labels"] "are_tables" (defScope (top 32)) f cdv A outer s H E) (defBody (top 32)) (tS ⟨C, vs, [0]⟩ W m_are_tables) :=
  (rs_cons (rs_if (PW.pt (rt_or (rt_not (rt_bl (r_isi g.toSt0 .tTup (r_varA 0 rfl (by first | exact .inl rfl | exact .inr (.inl rfl) | exact .inr (.inr rfl))) T.n_isinstance T.n_tuple rfl rfl (by rfl) (by rfl)))) (rt_or (rt_not (rt_chain g.toSt0 rfl rfl (r_frz r_int) (r_frz (r_cb g.toSt0 (call_lenDD g.k.symm) T.n_len (by rfl) rfl (r_cons (r_varA 0 rfl (by first | exact .inl rfl | exact .inr (.inl rfl) | exact .inr (.inr rfl))) r_nil))) (r_frz (r_gInt g.toSt0 T.c_MOST_TABLES rfl)))) (rt_or1 (rt_not (rt_bl (r_cb g.toSt0 (call_allD g.cm) T.n_all (by rfl) rfl (r_cons (r_frz (r_lc g [("one", 1)] (.nm 1) (show (1 : Nat) ∉ [0] by decide) (show ∀ i ∈ [0], i ∉ [1] by decide) (show (1 : Nat) ∈ [1] by decide) (ri_val g.toSt0 (r_frz (r_varE 0 rfl (by first | exact .inl rfl | exact .inr (.inl rfl) | exact .inr (.inr rfl))))) (blkOk_by (N := ["thing", "one", "labels"]) (sc := defScope (top 32)) (by decide +kernel)) (fun _ _ _ _ _ => (rg_nm (g.blk ..).toSt0 1 rfl (by first | exact .inl rfl | exact .inr rfl))) (fun _ _ _ _ _ g => rts_nil) (fun _ _ _ _ _ g => (r_call g F_is_table (by decide) rfl (r_cons (r_varA 1 rfl (by first | exact .inl rfl | exact .inr (.inl rfl) | exact .inr (.inr rfl))) r_nil))))) r_nil)))))))) (rs_one (rs_ret r_bl)) rs_nil)
  (rs_cons (rs_lc g 2 [("one", 1)] (.nm 1) (show (2 : Nat) ∉ [0] by decide) (show (1 : Nat) ∉ [0] by decide) (show ∀ i ∈ [0], i ∉ [1] by decide) (show (1 : Nat) ∈ [1] by decide) rfl rfl (sw_true rfl rfl rfl (by decide +kernel)) (ri_val g.toSt0 (r_frz (r_varE 0 rfl (by first | exact .inl rfl | exact .inr (.inl rfl) | exact .inr (.inr rfl))))) (blkOk_by (N := ["thing", "one", "labels"]) (sc := defScope (top 32)) (by decide +kernel)) (fun _ _ _ _ _ => (rg_nm (g.blk ..).toSt0 1 rfl (by first | exact .inl rfl | exact .inr rfl))) (fun _ _ _ _ _ g => rts_nil) (fun _ _ _ _ _ g => (r_ix g.toSt0 (r_varA 1 rfl (by first | exact .inl rfl | exact .inr (.inl rfl) | exact .inr (.inr rfl))) (r_frz r_int))))
  (rs_cons (rs_if (PW.pt (rt_or (rt_cmp g.toSt0 rfl (r_varA 2 rfl (by first | exact .inl rfl | exact .inr (.inl rfl) | exact .inr (.inr rfl))) (r_frz (r_cb g.toSt0 (call_sortX g.k.symm) T.n_sorted (by rfl) rfl (r_cons (r_varA 2 rfl (by first | exact .inl rfl | exact .inr (.inl rfl) | exact .inr (.inr rfl))) r_nil)))) (rt_or1 (rt_not (rt_bl (r_call g F_are_unlike (by decide) rfl (r_cons (r_varA 2 rfl (by first | exact .inl rfl | exact .inr (.inl rfl) | exact .inr (.inr rfl))) r_nil))))))) (rs_one (rs_ret r_bl)) rs_nil)
  (rs_one (rs_ret (r_cmp g.toSt0 rfl (r_frz (r_cb g.toSt0 (call_lenDD g.k.symm) T.n_len (by rfl) rfl (r_cons (r_frz (r_lc g [("one", 1)] (.nm 1) (show (1 : Nat) ∉ [0] by decide) (show ∀ i ∈ [0], i ∉ [1] by decide) (show (1 : Nat) ∈ [1] by decide) (ri_val g.toSt0 (r_frz (r_varE 0 rfl (by first | exact .inl rfl | exact .inr (.inl rfl) | exact .inr (.inr rfl))))) (blkOk_by (N := ["thing", "one", "labels"]) (sc := defScope (top 32)) (by decide +kernel)) (fun _ _ _ _ _ => (rg_nm (g.blk ..).toSt0 1 rfl (by first | exact .inl rfl | exact .inr rfl))) (fun _ _ _ _ _ g => (rts_one (rt_cmp g.toSt0 rfl (r_frz (r_ix g.toSt0 (r_varA 1 rfl (by first | exact .inl rfl | exact .inr (.inl rfl) | exact .inr (.inr rfl))) (r_frz r_int))) (r_frz (r_gInt g.toSt0 T.c_MOST_SIZE rfl))))) (fun _ _ _ _ _ g => (r_varE 1 rfl (by first | exact .inl rfl | exact .inr (.inl rfl) | exact .inr (.inr rfl)))))) r_nil))) (r_frz r_int)))))))
theorem sc_is_term : FnScope ["known", "thing", "letter"] ["known", "thing"] (defScope (top 33)) := ⟨rfl, rfl, rfl, by decide +kernel, rfl, by decide +kernel, by decide +kernel⟩
theorem b_is_term {C : KM} {xNoFolk : Addr} (T : Txt C xNoFolk) (F_is_within : Fn C 2 "is_within" g_is_within) (F_are_unlike : Fn C 1 "are_unlike" g_are_unlike) (base : Heap) (f : Addr) (cdv : Value) (A : Around) (outer : List Env) (s : Shared) (H : Hp) (E : XK) (vs : List V) (W : WX) (g : Go (CxD C base ["known", "thing", "letter"] "is_term" (defScope (top 33)) f cdv A outer s H E) ⟨C, vs, [0, 1]⟩ W 2) : PSs (CxD C base ["known", "thing", "letter"] "is_term" (defScope (top 33)) f cdv A outer s H E) (defBody (top 33)) (tS ⟨C, vs, [0, 1]⟩ W m_is_term) :=
  (rs_cons (rs_if (PW.pt (rt_or (rt_not (rt_bl (r_isi g.toSt0 .tTup (r_varA 1 rfl (by first | exact .inl rfl | exact .inr (.inl rfl) | exact .inr (.inr rfl))) T.n_isinstance T.n_tuple rfl rfl (by rfl) (by rfl)))) (rt_or (rt_cmp g.toSt0 rfl (r_frz (r_cb g.toSt0 (call_lenDD g.k.symm) T.n_len (by rfl) rfl (r_cons (r_varA 1 rfl (by first | exact .inl rfl | exact .inr (.inl rfl) | exact .inr (.inr rfl))) r_nil))) (r_frz r_int)) (rt_or1 (rt_not (rt_bl (r_call g F_is_within (by decide) rfl (r_cons (r_frz (r_ix g.toSt0 (r_varA 1 rfl (by first | exact .inl rfl | exact .inr (.inl rfl) | exact .inr (.inr rfl))) (r_frz r_int))) (r_cons (r_frz (r_neg (r_frz (r_gInt g.toSt0 T.c_MOST_FACTOR rfl)))) (r_cons (r_frz (r_gInt g.toSt0 T.c_MOST_FACTOR rfl)) r_nil)))))))))) (rs_one (rs_ret r_bl)) rs_nil)
  (rs_cons (rs_if (PW.pt (rt_or (rt_cmp g.toSt0 rfl (r_frz (r_ix g.toSt0 (r_varA 1 rfl (by first | exact .inl rfl | exact .inr (.inl rfl) | exact .inr (.inr rfl))) (r_frz r_int))) (r_frz r_int)) (rt_or (rt_not (rt_bl (r_isi g.toSt0 .tStr (r_frz (r_ix g.toSt0 (r_varA 1 rfl (by first | exact .inl rfl | exact .inr (.inl rfl) | exact .inr (.inr rfl))) (r_frz r_int))) T.n_isinstance T.n_str rfl rfl (by rfl) (by rfl)))) (rt_or (rt_cmp g.toSt0 rfl (r_frz (r_ix g.toSt0 (r_varA 1 rfl (by first | exact .inl rfl | exact .inr (.inl rfl) | exact .inr (.inr rfl))) (r_frz r_int))) (r_varA 0 rfl (by first | exact .inl rfl | exact .inr (.inl rfl) | exact .inr (.inr rfl)))) (rt_or1 (rt_not (rt_bl (r_isi g.toSt0 .tStr (r_frz (r_ix g.toSt0 (r_varA 1 rfl (by first | exact .inl rfl | exact .inr (.inl rfl) | exact .inr (.inr rfl))) (r_frz r_int))) T.n_isinstance T.n_str rfl rfl (by rfl) (by rfl))))))))) (rs_one (rs_ret r_bl)) rs_nil)
  (rs_cons (rs_if (PW.pt (rt_or (rt_cmp g.toSt0 rfl (r_frz (r_cb g.toSt0 (call_lenDD g.k.symm) T.n_len (by rfl) rfl (r_cons (r_frz (r_ix g.toSt0 (r_varA 1 rfl (by first | exact .inl rfl | exact .inr (.inl rfl) | exact .inr (.inr rfl))) (r_frz r_int))) r_nil))) (r_frz (r_ix g.toSt0 (r_varA 0 rfl (by first | exact .inl rfl | exact .inr (.inl rfl) | exact .inr (.inr rfl))) (r_frz (r_ix g.toSt0 (r_varA 1 rfl (by first | exact .inl rfl | exact .inr (.inl rfl) | exact .inr (.inr rfl))) (r_frz r_int)))))) (rt_or1 (rt_not (rt_bl (r_call g F_are_unlike (by decide) rfl (r_cons (r_frz (r_ix g.toSt0 (r_varA 1 rfl (by first | exact .inl rfl | exact .inr (.inl rfl) | exact .inr (.inr rfl))) (r_frz r_int))) r_nil))))))) (rs_one (rs_ret r_bl)) rs_nil)
  (rs_one (rs_ret (r_cb g.toSt0 (call_allD g.cm) T.n_all (by rfl) rfl (r_cons (r_frz (r_lc g [("letter", 2)] (.nm 2) (show (2 : Nat) ∉ [0, 1] by decide) (show ∀ i ∈ [0, 1], i ∉ [2] by decide) (show (2 : Nat) ∈ [2] by decide) (ri_val g.toSt0 (r_frz (r_ix g.toSt0 (r_varA 1 rfl (by first | exact .inl rfl | exact .inr (.inl rfl) | exact .inr (.inr rfl))) (r_frz r_int)))) (blkOk_by (N := ["known", "thing", "letter"]) (sc := defScope (top 33)) (by decide +kernel)) (fun _ _ _ _ _ => (rg_nm (g.blk ..).toSt0 2 rfl (by first | exact .inl rfl | exact .inr rfl))) (fun _ _ _ _ _ g => rts_nil) (fun _ _ _ _ _ g => (r_cmp g.toSt0 rfl (r_varA 2 rfl (by first | exact .inl rfl | exact .inr (.inl rfl) | exact .inr (.inr rfl))) (r_frz (r_gStr g.toSt0 T.c_LETTERS rfl)))))) r_nil)))))))
theorem sc_is_demand : FnScope ["known", "thing", "term"] ["known", "thing"] (defScope (top 34)) := ⟨rfl, rfl, rfl, by decide +kernel, rfl, by decide +kernel, by decide +kernel⟩
theorem b_is_demand {C : KM} {xNoFolk : Addr} (T : Txt C xNoFolk) (F_is_pair : Fn C 1 "is_pair" g_is_pair) (F_is_term : Fn C 3 "is_term" g_is_term) (F_is_within : Fn C 2 "is_within" g_is_within) (base : Heap) (f : Addr) (cdv : Value) (A : Around) (outer : List Env) (s : Shared) (H : Hp) (E : XK) (vs : List V) (W : WX) (g : Go (CxD C base ["known", "thing", "term"] "is_demand" (defScope (top 34)) f cdv A outer s H E) ⟨C, vs, [0, 1]⟩ W 3) : PSs (CxD C base ["known", "thing", "term"] "is_demand" (defScope (top 34)) f cdv A outer s H E) (defBody (top 34)) (tS ⟨C, vs, [0, 1]⟩ W m_is_demand) :=
  (rs_cons (rs_if (PW.pt (rt_or (rt_not (rt_bl (r_call g F_is_pair (by decide) rfl (r_cons (r_varA 1 rfl (by first | exact .inl rfl | exact .inr (.inl rfl) | exact .inr (.inr rfl))) r_nil)))) (rt_or (rt_not (rt_bl (r_isi g.toSt0 .tTup (r_frz (r_ix g.toSt0 (r_varA 1 rfl (by first | exact .inl rfl | exact .inr (.inl rfl) | exact .inr (.inr rfl))) (r_frz r_int))) T.n_isinstance T.n_tuple rfl rfl (by rfl) (by rfl)))) (rt_or1 (rt_not (rt_chain g.toSt0 rfl rfl (r_frz r_int) (r_frz (r_cb g.toSt0 (call_lenDD g.k.symm) T.n_len (by rfl) rfl (r_cons (r_frz (r_ix g.toSt0 (r_varA 1 rfl (by first | exact .inl rfl | exact .inr (.inl rfl) | exact .inr (.inr rfl))) (r_frz r_int))) r_nil))) (r_frz (r_gInt g.toSt0 T.c_MOST_TERMS rfl)))))))) (rs_one (rs_ret r_bl)) rs_nil)
  (rs_one (rs_ret (r_and (r_cb g.toSt0 (call_allD g.cm) T.n_all (by rfl) rfl (r_cons (r_frz (r_lc g [("term", 2)] (.nm 2) (show (2 : Nat) ∉ [0, 1] by decide) (show ∀ i ∈ [0, 1], i ∉ [2] by decide) (show (2 : Nat) ∈ [2] by decide) (ri_val g.toSt0 (r_frz (r_ix g.toSt0 (r_varA 1 rfl (by first | exact .inl rfl | exact .inr (.inl rfl) | exact .inr (.inr rfl))) (r_frz r_int)))) (blkOk_by (N := ["known", "thing", "term"]) (sc := defScope (top 34)) (by decide +kernel)) (fun _ _ _ _ _ => (rg_nm (g.blk ..).toSt0 2 rfl (by first | exact .inl rfl | exact .inr rfl))) (fun _ _ _ _ _ g => rts_nil) (fun _ _ _ _ _ g => (r_call g F_is_term (by decide) rfl (r_cons (r_varA 0 rfl (by first | exact .inl rfl | exact .inr (.inl rfl) | exact .inr (.inr rfl))) (r_cons (r_varA 2 rfl (by first | exact .inl rfl | exact .inr (.inl rfl) | exact .inr (.inr rfl))) r_nil)))))) r_nil)) (r_one (r_call g F_is_within (by decide) rfl (r_cons (r_frz (r_ix g.toSt0 (r_varA 1 rfl (by first | exact .inl rfl | exact .inr (.inl rfl) | exact .inr (.inr rfl))) (r_frz r_int))) (r_cons (r_frz (r_neg (r_frz (r_gInt g.toSt0 T.c_MOST_RIGHT rfl)))) (r_cons (r_frz (r_gInt g.toSt0 T.c_MOST_RIGHT rfl)) r_nil)))))))))
theorem sc_Book__init : FnScope ["self", "world", "tables", "demands", "demand"] ["self", "world", "tables", "demands"] (defScope (inClass (top 35) 0)) := ⟨rfl, rfl, rfl, by decide +kernel, rfl, by decide +kernel, by decide +kernel⟩
theorem b_Book__init {C : KM} {xNoFolk : Addr} (T : Txt C xNoFolk) (F_is_world : Fn C 3 "is_world" g_is_world) (F_are_tables : Fn C 4 "are_tables" g_are_tables) (F_is_demand : Fn C 4 "is_demand" g_is_demand) (base : Heap) (f : Addr) (cdv : Value) (A : Around) (outer : List Env) (s : Shared) (H : Hp) (E : XK) (vs : List V) (W : WX) (g : Go (CxD C base ["self", "world", "tables", "demands", "demand"] "Book.__init__" (defScope (inClass (top 35) 0)) f cdv A outer s H E) ⟨C, vs, [0, 1, 2, 3]⟩ W 4) : PSs (CxD C base ["self", "world", "tables", "demands", "demand"] "Book.__init__" (defScope (inClass (top 35) 0)) f cdv A outer s H E) (defBody (inClass (top 35) 0)) (tS ⟨C, vs, [0, 1, 2, 3]⟩ W m_Book__init) :=
  (rs_cons (rs_if (rt_not (rt_bl (r_call g F_is_world (by decide) rfl (r_cons (r_varA 1 rfl (by first | exact .inl rfl | exact .inr (.inl rfl) | exact .inr (.inr rfl))) r_nil)))) (rs_one rs_bad) rs_nil)
  (rs_cons (rs_if (rt_not (rt_bl (r_call g F_are_tables (by decide) rfl (r_cons (r_varA 2 rfl (by first | exact .inl rfl | exact .inr (.inl rfl) | exact .inr (.inr rfl))) r_nil)))) (rs_one rs_bad) rs_nil)
  (rs_cons (rs_if (PW.pt (rt_or (rt_not (rt_bl (r_isi g.toSt0 .tTup (r_varA 3 rfl (by first | exact .inl rfl | exact .inr (.inl rfl) | exact .inr (.inr rfl))) T.n_isinstance T.n_tuple rfl rfl (by rfl) (by rfl)))) (rt_or1 (rt_cmp g.toSt0 rfl (r_frz (r_cb g.toSt0 (call_lenDD g.k.symm) T.n_len (by rfl) rfl (r_cons (r_varA 3 rfl (by first | exact .inl rfl | exact .inr (.inl rfl) | exact .inr (.inr rfl))) r_nil))) (r_frz (r_gInt g.toSt0 T.c_MOST_DEMANDS rfl)))))) (rs_one rs_bad) rs_nil)
  (rs_cons (rs_if (rt_not (rt_bl (r_cb g.toSt0 (call_allD g.cm) T.n_all (by rfl) rfl (r_cons (r_frz (r_lc g [("demand", 4)] (.nm 4) (show (4 : Nat) ∉ [0, 1, 2, 3] by decide) (show ∀ i ∈ [0, 1, 2, 3], i ∉ [4] by decide) (show (4 : Nat) ∈ [4] by decide) (ri_val g.toSt0 (r_frz (r_varE 3 rfl (by first | exact .inl rfl | exact .inr (.inl rfl) | exact .inr (.inr rfl))))) (blkOk_by (N := ["self", "world", "tables", "demands", "demand"]) (sc := defScope (inClass (top 35) 0)) (by decide +kernel)) (fun _ _ _ _ _ => (rg_nm (g.blk ..).toSt0 4 rfl (by first | exact .inl rfl | exact .inr rfl))) (fun _ _ _ _ _ g => rts_nil) (fun _ _ _ _ _ g => (r_call g F_is_demand (by decide) rfl (r_cons (r_frz (r_cty g.toSt0 (call_dictDD g.k.symm g.cm) T.n_dict (by rfl) rfl (r_cons (r_varA 2 rfl (by first | exact .inl rfl | exact .inr (.inl rfl) | exact .inr (.inr rfl))) r_nil))) (r_cons (r_varA 4 rfl (by first | exact .inl rfl | exact .inr (.inl rfl) | exact .inr (.inr rfl))) r_nil)))))) r_nil)))) (rs_one rs_bad) rs_nil)
  (rs_cons (rs_fld g.toSt0 0 cs_world T.f_world rfl (by first | exact .inl rfl | exact .inr (.inl rfl) | exact .inr (.inr rfl)) (r_varE 1 rfl (by first | exact .inl rfl | exact .inr (.inl rfl) | exact .inr (.inr rfl))))
  (rs_cons (rs_fld g.toSt0 0 cs_tables T.f_tables rfl (by first | exact .inl rfl | exact .inr (.inl rfl) | exact .inr (.inr rfl)) (r_varE 2 rfl (by first | exact .inl rfl | exact .inr (.inl rfl) | exact .inr (.inr rfl))))
  (rs_one (rs_fld g.toSt0 0 cs_demands T.f_demands rfl (by first | exact .inl rfl | exact .inr (.inl rfl) | exact .inr (.inr rfl)) (r_varE 3 rfl (by first | exact .inl rfl | exact .inr (.inl rfl) | exact .inr (.inr rfl)))))))))))
theorem sc__law_rows : FnScope ["_law_folk_here", "_law_many", "_law_found", "_law_turn", "_law_longer", "_law_row", "_law_one"] ["_law_folk_here", "_law_many"] (defScope (top 50)) := ⟨rfl, rfl, rfl, by decide +kernel, rfl, by decide +kernel, by decide +kernel⟩
theorem b__law_rows {C : KM} {xNoFolk : Addr} (T : Txt C xNoFolk)  (base : Heap) (f : Addr) (cdv : Value) (A : Around) (outer : List Env) (s : Shared) (H : Hp) (E : XK) (vs : List V) (W : WX) (g : Go (CxD C base ["_law_folk_here", "_law_many", "_law_found", "_law_turn", "_law_longer", "_law_row", "_law_one"] "_law_rows" (defScope (top 50)) f cdv A outer s H E) ⟨C, vs, [0, 1]⟩ W 0) : PSs (CxD C base ["_law_folk_here", "_law_many", "_law_found", "_law_turn", "_law_longer", "_law_row", "_law_one"] "_law_rows" (defScope (top 50)) f cdv A outer s H E) (defBody (top 50)) (tS ⟨C, vs, [0, 1]⟩ W m__law_rows) :=
  (rs_cons (rs_set g.toSt0 2 (show (2 : Nat) ∉ [0, 1] by decide) rfl (by first | exact .inl rfl | exact .inr rfl) (r_lst (r_cons (r_frz (r_tup r_nil)) r_nil)))
  (rs_cons (rs_for g (.nm 3) (show (3 : Nat) ∉ [0, 1] by decide) (ri_rng1 g.toSt0 T.n_range rfl (r_cons (r_varA 1 rfl (by first | exact .inl rfl | exact .inr (.inl rfl) | exact .inr (.inr rfl))) r_nil)) (rg_nm g.toSt0 3 rfl (by first | exact .inl rfl | exact .inr rfl)) (rs_cons (rs_set g.toSt0 4 (show (4 : Nat) ∉ [0, 1] by decide) rfl (by first | exact .inl rfl | exact .inr rfl) (r_lst r_nil))
  (rs_cons (rs_for g (.nm 5) (show (5 : Nat) ∉ [0, 1] by decide) (ri_val g.toSt0 (r_frz (r_varE 2 rfl (by first | exact .inl rfl | exact .inr (.inl rfl) | exact .inr (.inr rfl))))) (rg_nm g.toSt0 5 rfl (by first | exact .inl rfl | exact .inr rfl)) (rs_one (rs_expr (r_extend g.toSt0 4 rfl (by first | exact .inl rfl | exact .inr (.inl rfl) | exact .inr (.inr rfl)) (r_cons (r_frz (r_lc g [("_law_one", 6)] (.nm 6) (show (6 : Nat) ∉ [0, 1] by decide) (show ∀ i ∈ [0, 1], i ∉ [6] by decide) (show (6 : Nat) ∈ [6] by decide) (ri_val g.toSt0 (r_frz (r_varE 0 rfl (by first | exact .inl rfl | exact .inr (.inl rfl) | exact .inr (.inr rfl))))) (blkOk_by (N := ["_law_folk_here", "_law_many", "_law_found", "_law_turn", "_law_longer", "_law_row", "_law_one"]) (sc := defScope (top 50)) (by decide +kernel)) (fun _ _ _ _ _ => (rg_nm (g.blk ..).toSt0 6 rfl (by first | exact .inl rfl | exact .inr rfl))) (fun _ _ _ _ _ g => (rts_one (rt_cmp g.toSt0 rfl (r_varA 6 rfl (by first | exact .inl rfl | exact .inr (.inl rfl) | exact .inr (.inr rfl))) (r_varA 5 rfl (by first | exact .inl rfl | exact .inr (.inl rfl) | exact .inr (.inr rfl)))))) (fun _ _ _ _ _ g => (r_bin g.toSt0 rfl (r_varA 5 rfl (by first | exact .inl rfl | exact .inr (.inl rfl) | exact .inr (.inr rfl))) (r_frz (r_tup (r_cons (r_frz (r_varE 6 rfl (by first | exact .inl rfl | exact .inr (.inl rfl) | exact .inr (.inr rfl)))) r_nil))))))) r_nil)))))
  (rs_one (rs_set g.toSt0 2 (show (2 : Nat) ∉ [0, 1] by decide) rfl (by first | exact .inl rfl | exact .inr rfl) (r_varE 4 rfl (by first | exact .inl rfl | exact .inr (.inl rfl) | exact .inr (.inr rfl))))))))
  (rs_one (rs_ret (r_varM 2 2 rfl (by first | exact .inl rfl | exact .inr (.inl rfl) | exact .inr (.inr rfl)))))))
theorem sc__law_letters : FnScope ["_law_demand_here", "_law_known", "_law_term_here", "_law_letter"] ["_law_demand_here"] (defScope (top 49)) := ⟨rfl, rfl, rfl, by decide +kernel, rfl, by decide +kernel, by decide +kernel⟩
theorem b__law_letters {C : KM} {xNoFolk : Addr} (T : Txt C xNoFolk)  (base : Heap) (f : Addr) (cdv : Value) (A : Around) (outer : List Env) (s : Shared) (H : Hp) (E : XK) (vs : List V) (W : WX) (g : Go (CxD C base ["_law_demand_here", "_law_known", "_law_term_here", "_law_letter"] "_law_letters" (defScope (top 49)) f cdv A outer s H E) ⟨C, vs, [0]⟩ W 0) : PSs (CxD C base ["_law_demand_here", "_law_known", "_law_term_here", "_law_letter"] "_law_letters" (defScope (top 49)) f cdv A outer s H E) (defBody (top 49)) (tS ⟨C, vs, [0]⟩ W m__law_letters) :=
  (rs_cons (rs_set g.toSt0 1 (show (1 : Nat) ∉ [0] by decide) rfl (by first | exact .inl rfl | exact .inr rfl) r_str)
  (rs_cons (rs_for g (.nm 2) (show (2 : Nat) ∉ [0] by decide) (ri_val g.toSt0 (r_frz (r_ix g.toSt0 (r_varA 0 rfl (by first | exact .inl rfl | exact .inr (.inl rfl) | exact .inr (.inr rfl))) (r_frz r_int)))) (rg_nm g.toSt0 2 rfl (by first | exact .inl rfl | exact .inr rfl)) (rs_one (rs_set g.toSt0 1 (show (1 : Nat) ∉ [0] by decide) rfl (by first | exact .inl rfl | exact .inr rfl) (r_bin g.toSt0 rfl (r_varA 1 rfl (by first | exact .inl rfl | exact .inr (.inl rfl) | exact .inr (.inr rfl))) (r_frz (r_ix g.toSt0 (r_varA 2 rfl (by first | exact .inl rfl | exact .inr (.inl rfl) | exact .inr (.inr rfl))) (r_frz r_int)))))))
  (rs_one (rs_ret (r_join g.toSt0 (r_frz (r_lc g [("_law_letter", 3)] (.nm 3) (show (3 : Nat) ∉ [0] by decide) (show ∀ i ∈ [0], i ∉ [3] by decide) (show (3 : Nat) ∈ [3] by decide) (ri_val g.toSt0 (r_frz r_str)) (blkOk_by (N := ["_law_demand_here", "_law_known", "_law_term_here", "_law_letter"]) (sc := defScope (top 49)) (by decide +kernel)) (fun _ _ _ _ _ => (rg_nm (g.blk ..).toSt0 3 rfl (by first | exact .inl rfl | exact .inr rfl))) (fun _ _ _ _ _ g => (rts_one (rt_cmp g.toSt0 rfl (r_varA 3 rfl (by first | exact .inl rfl | exact .inr (.inl rfl) | exact .inr (.inr rfl))) (r_varA 1 rfl (by first | exact .inl rfl | exact .inr (.inl rfl) | exact .inr (.inr rfl)))))) (fun _ _ _ _ _ g => (r_varE 3 rfl (by first | exact .inl rfl | exact .inr (.inl rfl) | exact .inr (.inr rfl)))))))))))
theorem sc__law_due : FnScope ["_law_demands", "_law_folk_here", "_law_found", "_law_number", "_law_row"] ["_law_demands", "_law_folk_here"] (defScope (top 51)) := ⟨rfl, rfl, rfl, by decide +kernel, rfl, by decide +kernel, by decide +kernel⟩
theorem b__law_due {C : KM} {xNoFolk : Addr} (T : Txt C xNoFolk) (F__law_rows : Fn C 1 "_law_rows" g__law_rows) (F__law_letters : Fn C 1 "_law_letters" g__law_letters) (base : Heap) (f : Addr) (cdv : Value) (A : Around) (outer : List Env) (s : Shared) (H : Hp) (E : XK) (vs : List V) (W : WX) (g : Go (CxD C base ["_law_demands", "_law_folk_here", "_law_found", "_law_number", "_law_row"] "_law_due" (defScope (top 51)) f cdv A outer s H E) ⟨C, vs, [0, 1]⟩ W 1) : PSs (CxD C base ["_law_demands", "_law_folk_here", "_law_found", "_law_number", "_law_row"] "_law_due" (defScope (top 51)) f cdv A outer s H E) (defBody (top 51)) (tS ⟨C, vs, [0, 1]⟩ W m__law_due) :=
  (rs_cons (rs_set g.toSt0 2 (show (2 : Nat) ∉ [0, 1] by decide) rfl (by first | exact .inl rfl | exact .inr rfl) (r_lst r_nil))
  (rs_cons (rs_for g (.nm 3) (show (3 : Nat) ∉ [0, 1] by decide) (ri_rng1 g.toSt0 T.n_range rfl (r_cons (r_frz (r_cb g.toSt0 (call_lenDD g.k.symm) T.n_len (by rfl) rfl (r_cons (r_varA 0 rfl (by first | exact .inl rfl | exact .inr (.inl rfl) | exact .inr (.inr rfl))) r_nil))) r_nil)) (rg_nm g.toSt0 3 rfl (by first | exact .inl rfl | exact .inr rfl)) (rs_one (rs_expr (r_extend g.toSt0 2 rfl (by first | exact .inl rfl | exact .inr (.inl rfl) | exact .inr (.inr rfl)) (r_cons (r_frz (r_lc g [("_law_row", 4)] (.nm 4) (show (4 : Nat) ∉ [0, 1] by decide) (show ∀ i ∈ [0, 1], i ∉ [4] by decide) (show (4 : Nat) ∈ [4] by decide) (ri_val g.toSt0 (r_frz (r_call g F__law_rows (by decide) rfl (r_cons (r_frz (r_cb g.toSt0 (call_sortX g.k.symm) T.n_sorted (by rfl) rfl (r_cons (r_varA 1 rfl (by first | exact .inl rfl | exact .inr (.inl rfl) | exact .inr (.inr rfl))) r_nil))) (r_cons (r_frz (r_cb g.toSt0 (call_lenDD g.k.symm) T.n_len (by rfl) rfl (r_cons (r_frz (r_call g F__law_letters (by decide) rfl (r_cons (r_frz (r_ix g.toSt0 (r_varA 0 rfl (by first | exact .inl rfl | exact .inr (.inl rfl) | exact .inr (.inr rfl))) (r_varA 3 rfl (by first | exact .inl rfl | exact .inr (.inl rfl) | exact .inr (.inr rfl))))) r_nil))) r_nil))) r_nil))))) (blkOk_by (N := ["_law_demands", "_law_folk_here", "_law_found", "_law_number", "_law_row"]) (sc := defScope (top 51)) (by decide +kernel)) (fun _ _ _ _ _ => (rg_nm (g.blk ..).toSt0 4 rfl (by first | exact .inl rfl | exact .inr rfl))) (fun _ _ _ _ _ g => rts_nil) (fun _ _ _ _ _ g => (r_tup (r_cons (r_frz (r_varE 3 rfl (by first | exact .inl rfl | exact .inr (.inl rfl) | exact .inr (.inr rfl)))) (r_cons (r_frz (r_varE 4 rfl (by first | exact .inl rfl | exact .inr (.inl rfl) | exact .inr (.inr rfl)))) r_nil)))))) r_nil)))))
  (rs_one (rs_ret (r_varM 2 2 rfl (by first | exact .inl rfl | exact .inr (.inl rfl) | exact .inr (.inr rfl)))))))
theorem sc_arrangements : FnScope ["folk", "many", "found", "turn", "row", "one"] ["folk", "many"] (defScope (top 37)) := ⟨rfl, rfl, rfl, by decide +kernel, rfl, by decide +kernel, by decide +kernel⟩
theorem b_arrangements {C : KM} {xNoFolk : Addr} (T : Txt C xNoFolk)  (base : Heap) (f : Addr) (cdv : Value) (A : Around) (outer : List Env) (s : Shared) (H : Hp) (E : XK) (vs : List V) (W : WX) (g : Go (CxD C base ["folk", "many", "found", "turn", "row", "one"] "arrangements" (defScope (top 37)) f cdv A outer s H E) ⟨C, vs, [0, 1]⟩ W 0) : PSs (CxD C base ["folk", "many", "found", "turn", "row", "one"] "arrangements" (defScope (top 37)) f cdv A outer s H E) (defBody (top 37)) (tS ⟨C, vs, [0, 1]⟩ W m_arrangements) :=
  (rs_cons (rs_set g.toSt0 2 (show (2 : Nat) ∉ [0, 1] by decide) rfl (by first | exact .inl rfl | exact .inr rfl) (r_lst (r_cons (r_frz (r_tup r_nil)) r_nil)))
  (rs_cons (rs_for g (.nm 3) (show (3 : Nat) ∉ [0, 1] by decide) (ri_rng1 g.toSt0 T.n_range rfl (r_cons (r_varA 1 rfl (by first | exact .inl rfl | exact .inr (.inl rfl) | exact .inr (.inr rfl))) r_nil)) (rg_nm g.toSt0 3 rfl (by first | exact .inl rfl | exact .inr rfl)) (rs_one (rs_lc2 g 2 [("row", 4), ("one", 5)] [5] (.nm 4) (.nm 5) (show (2 : Nat) ∉ [0, 1] by decide) (show (4 : Nat) ∉ [0, 1] by decide) (show (5 : Nat) ∉ [0, 1] by decide) (show ∀ i ∈ [0, 1], i ∉ [4, 5] by decide) (show (4 : Nat) ∈ [4, 5] by decide) (show (5 : Nat) ∈ [5] by decide) (show ∀ i ∈ ([5] : List Nat), i ∈ ([4, 5] : List Nat) by decide) rfl rfl (sw_true rfl rfl rfl (by decide +kernel)) (ri_val g.toSt0 (r_frz (r_varE 2 rfl (by first | exact .inl rfl | exact .inr (.inl rfl) | exact .inr (.inr rfl))))) (blkOk_by (N := ["folk", "many", "found", "turn", "row", "one"]) (sc := defScope (top 37)) (by decide +kernel)) (fun _ _ _ _ _ => (rg_nm (g.blk ..).toSt0 4 rfl (by first | exact .inl rfl | exact .inr rfl))) (fun _ _ _ _ _ g => rts_nil) (fun _ _ _ _ _ g => (r_frz (r_varE 0 rfl (by first | exact .inl rfl | exact .inr (.inl rfl) | exact .inr (.inr rfl))))) (fun _ _ _ _ _ => (rg_nm (g.blk ..).toSt0 5 rfl (by first | exact .inl rfl | exact .inr rfl))) (fun _ _ _ _ _ g => (rts_one (rt_cmp g.toSt0 rfl (r_varA 5 rfl (by first | exact .inl rfl | exact .inr (.inl rfl) | exact .inr (.inr rfl))) (r_varA 4 rfl (by first | exact .inl rfl | exact .inr (.inl rfl) | exact .inr (.inr rfl)))))) (fun _ _ _ _ _ g => (r_bin g.toSt0 rfl (r_varA 4 rfl (by first | exact .inl rfl | exact .inr (.inl rfl) | exact .inr (.inr rfl))) (r_frz (r_tup (r_cons (r_frz (r_varE 5 rfl (by first | exact .inl rfl | exact .inr (.inl rfl) | exact .inr (.inr rfl)))) r_nil))))))))
  (rs_one (rs_ret (r_varM 2 2 rfl (by first | exact .inl rfl | exact .inr (.inl rfl) | exact .inr (.inr rfl)))))))
theorem sc_letters_in : FnScope ["demand", "found", "factor", "label", "letters", "letter"] ["demand"] (defScope (top 36)) := ⟨rfl, rfl, rfl, by decide +kernel, rfl, by decide +kernel, by decide +kernel⟩
theorem b_letters_in {C : KM} {xNoFolk : Addr} (T : Txt C xNoFolk)  (base : Heap) (f : Addr) (cdv : Value) (A : Around) (outer : List Env) (s : Shared) (H : Hp) (E : XK) (vs : List V) (W : WX) (g : Go (CxD C base ["demand", "found", "factor", "label", "letters", "letter"] "letters_in" (defScope (top 36)) f cdv A outer s H E) ⟨C, vs, [0]⟩ W 0) : PSs (CxD C base ["demand", "found", "factor", "label", "letters", "letter"] "letters_in" (defScope (top 36)) f cdv A outer s H E) (defBody (top 36)) (tS ⟨C, vs, [0]⟩ W m_letters_in) :=
  (rs_cons (rs_set g.toSt0 1 (show (1 : Nat) ∉ [0] by decide) rfl (by first | exact .inl rfl | exact .inr rfl) r_dic0)
  (rs_cons (rs_for g (.tp [(.nm 2), (.nm 3), (.nm 4)]) ⟨(show (2 : Nat) ∉ [0] by decide), ⟨(show (3 : Nat) ∉ [0] by decide), ⟨(show (4 : Nat) ∉ [0] by decide), trivial⟩⟩⟩ (ri_val g.toSt0 (r_frz (r_ix g.toSt0 (r_varA 0 rfl (by first | exact .inl rfl | exact .inr (.inl rfl) | exact .inr (.inr rfl))) (r_frz r_int)))) (rg_tup g.toSt0 g.cm (rg_cons (rg_nm g.toSt0 2 rfl (by first | exact .inl rfl | exact .inr rfl)) (rg_cons (rg_nm g.toSt0 3 rfl (by first | exact .inl rfl | exact .inr rfl)) (rg_cons (rg_nm g.toSt0 4 rfl (by first | exact .inl rfl | exact .inr rfl)) rg_nil)))) (rs_one (rs_for g (.nm 5) (show (5 : Nat) ∉ [0] by decide) (ri_val g.toSt0 (r_frz (r_varE 4 rfl (by first | exact .inl rfl | exact .inr (.inl rfl) | exact .inr (.inr rfl))))) (rg_nm g.toSt0 5 rfl (by first | exact .inl rfl | exact .inr rfl)) (rs_one (rs_putX g.toSt0 1 rfl (by first | exact .inl rfl | exact .inr (.inl rfl) | exact .inr (.inr rfl)) (r_varE 5 rfl (by first | exact .inl rfl | exact .inr (.inl rfl) | exact .inr (.inr rfl))) r_bl)))))
  (rs_one (rs_ret (r_join g.toSt0 (r_frz (r_cb g.toSt0 (call_sortX g.k.symm) T.n_sorted (by rfl) rfl (r_cons (r_frz (r_cty g.toSt0 (call_listY g.k.symm g.cm) T.n_list (by rfl) rfl (r_cons (r_varA 1 rfl (by first | exact .inl rfl | exact .inr (.inl rfl) | exact .inr (.inr rfl))) r_nil))) r_nil))))))))
theorem sc_instances_of : FnScope ["book", "folk", "found", "number", "demand", "row"] ["book", "folk"] (defScope (top 38)) := ⟨rfl, rfl, rfl, by decide +kernel, rfl, by decide +kernel, by decide +kernel⟩
theorem b_instances_of {C : KM} {xNoFolk : Addr} (T : Txt C xNoFolk) (F_arrangements : Fn C 1 "arrangements" g_arrangements) (F_letters_in : Fn C 1 "letters_in" g_letters_in) (base : Heap) (f : Addr) (cdv : Value) (A : Around) (outer : List Env) (s : Shared) (H : Hp) (E : XK) (vs : List V) (W : WX) (g : Go (CxD C base ["book", "folk", "found", "number", "demand", "row"] "instances_of" (defScope (top 38)) f cdv A outer s H E) ⟨C, vs, [0, 1]⟩ W 1) : PSs (CxD C base ["book", "folk", "found", "number", "demand", "row"] "instances_of" (defScope (top 38)) f cdv A outer s H E) (defBody (top 38)) (tS ⟨C, vs, [0, 1]⟩ W m_instances_of) :=
  (rs_cons (rs_set g.toSt0 2 (show (2 : Nat) ∉ [0, 1] by decide) rfl (by first | exact .inl rfl | exact .inr rfl) (r_lst r_nil))
  (rs_cons (rs_for g (.tp [(.nm 3), (.nm 4)]) ⟨(show (3 : Nat) ∉ [0, 1] by decide), ⟨(show (4 : Nat) ∉ [0, 1] by decide), trivial⟩⟩ (ri_enum g.toSt0 T.n_enumerate rfl (r_cons (r_frz (r_fld g.toSt0 cs_demands T.f_demands (r_varA 0 rfl (by first | exact .inl rfl | exact .inr (.inl rfl) | exact .inr (.inr rfl))))) r_nil)) (rg_tup g.toSt0 g.cm (rg_cons (rg_nm g.toSt0 3 rfl (by first | exact .inl rfl | exact .inr rfl)) (rg_cons (rg_nm g.toSt0 4 rfl (by first | exact .inl rfl | exact .inr rfl)) rg_nil))) (rs_one (rs_expr (r_extend g.toSt0 2 rfl (by first | exact .inl rfl | exact .inr (.inl rfl) | exact .inr (.inr rfl)) (r_cons (r_frz (r_lc g [("row", 5)] (.nm 5) (show (5 : Nat) ∉ [0, 1] by decide) (show ∀ i ∈ [0, 1], i ∉ [5] by decide) (show (5 : Nat) ∈ [5] by decide) (ri_val g.toSt0 (r_frz (r_call g F_arrangements (by decide) rfl (r_cons (r_varA 1 rfl (by first | exact .inl rfl | exact .inr (.inl rfl) | exact .inr (.inr rfl))) (r_cons (r_frz (r_cb g.toSt0 (call_lenDD g.k.symm) T.n_len (by rfl) rfl (r_cons (r_frz (r_call g F_letters_in (by decide) rfl (r_cons (r_varA 4 rfl (by first | exact .inl rfl | exact .inr (.inl rfl) | exact .inr (.inr rfl))) r_nil))) r_nil))) r_nil))))) (blkOk_by (N := ["book", "folk", "found", "number", "demand", "row"]) (sc := defScope (top 38)) (by decide +kernel)) (fun _ _ _ _ _ => (rg_nm (g.blk ..).toSt0 5 rfl (by first | exact .inl rfl | exact .inr rfl))) (fun _ _ _ _ _ g => rts_nil) (fun _ _ _ _ _ g => (r_tup (r_cons (r_frz (r_varE 3 rfl (by first | exact .inl rfl | exact .inr (.inl rfl) | exact .inr (.inr rfl)))) (r_cons (r_frz (r_varE 5 rfl (by first | exact .inl rfl | exact .inr (.inl rfl) | exact .inr (.inr rfl)))) r_nil)))))) r_nil)))))
  (rs_one (rs_ret (r_varM 2 2 rfl (by first | exact .inl rfl | exact .inr (.inl rfl) | exact .inr (.inr rfl)))))))
theorem sc_is_listed : FnScope ["thing"] ["thing"] (defScope (top 11)) := ⟨rfl, rfl, rfl, by decide +kernel, rfl, by decide +kernel, by decide +kernel⟩
theorem b_is_listed {C : KM} {xNoFolk : Addr} (T : Txt C xNoFolk)  (base : Heap) (f : Addr) (cdv : Value) (A : Around) (outer : List Env) (s : Shared) (H : Hp) (E : XK) (vs : List V) (W : WX) (g : Go (CxD C base ["thing"] "is_listed" (defScope (top 11)) f cdv A outer s H E) ⟨C, vs, [0]⟩ W 0) : PSs (CxD C base ["thing"] "is_listed" (defScope (top 11)) f cdv A outer s H E) (defBody (top 11)) (tS ⟨C, vs, [0]⟩ W m_is_listed) :=
  (rs_one (rs_ret (r_isi2 g.toSt0 .tLst .tTup (r_varA 0 rfl (by first | exact .inl rfl | exact .inr (.inl rfl) | exact .inr (.inr rfl))) T.n_isinstance T.n_list T.n_tuple rfl rfl rfl (by rfl) (by rfl) (by rfl))))
theorem sc_is_name : FnScope ["thing"] ["thing"] (defScope (top 15)) := ⟨rfl, rfl, rfl, by decide +kernel, rfl, by decide +kernel, by decide +kernel⟩
theorem b_is_name {C : KM} {xNoFolk : Addr} (T : Txt C xNoFolk) (F_is_of : Fn C 1 "is_of" g_is_of) (base : Heap) (f : Addr) (cdv : Value) (A : Around) (outer : List Env) (s : Shared) (H : Hp) (E : XK) (vs : List V) (W : WX) (g : Go (CxD C base ["thing"] "is_name" (defScope (top 15)) f cdv A outer s H E) ⟨C, vs, [0]⟩ W 1) : PSs (CxD C base ["thing"] "is_name" (defScope (top 15)) f cdv A outer s H E) (defBody (top 15)) (tS ⟨C, vs, [0]⟩ W m_is_name) :=
  (rs_one (rs_ret (r_call g F_is_of (by decide) rfl (r_cons (r_varA 0 rfl (by first | exact .inl rfl | exact .inr (.inl rfl) | exact .inr (.inr rfl))) (r_cons (r_frz (r_gStr g.toSt0 T.c_GREAT rfl)) r_nil)))))
theorem sc_is_comer : FnScope ["thing"] ["thing"] (defScope (top 16)) := ⟨rfl, rfl, rfl, by decide +kernel, rfl, by decide +kernel, by decide +kernel⟩
theorem b_is_comer {C : KM} {xNoFolk : Addr} (T : Txt C xNoFolk)  (base : Heap) (f : Addr) (cdv : Value) (A : Around) (outer : List Env) (s : Shared) (H : Hp) (E : XK) (vs : List V) (W : WX) (g : Go (CxD C base ["thing"] "is_comer" (defScope (top 16)) f cdv A outer s H E) ⟨C, vs, [0]⟩ W 0) : PSs (CxD C base ["thing"] "is_comer" (defScope (top 16)) f cdv A outer s H E) (defBody (top 16)) (tS ⟨C, vs, [0]⟩ W m_is_comer) :=
  (rs_one (rs_ret (r_and (r_isi g.toSt0 .tStr (r_varA 0 rfl (by first | exact .inl rfl | exact .inr (.inl rfl) | exact .inr (.inr rfl))) T.n_isinstance T.n_str rfl rfl (by rfl) (by rfl)) (r_and (r_cmp g.toSt0 rfl (r_frz (r_cb g.toSt0 (call_lenDD g.k.symm) T.n_len (by rfl) rfl (r_cons (r_varA 0 rfl (by first | exact .inl rfl | exact .inr (.inl rfl) | exact .inr (.inr rfl))) r_nil))) (r_frz r_int)) (r_one (r_cmp g.toSt0 rfl (r_varA 0 rfl (by first | exact .inl rfl | exact .inr (.inl rfl) | exact .inr (.inr rfl))) (r_frz (r_gStr g.toSt0 T.c_FIGURES rfl))))))))
theorem sc_is_folk : FnScope ["thing"] ["thing"] (defScope (top 17)) := ⟨rfl, rfl, rfl, by decide +kernel, rfl, by decide +kernel, by decide +kernel⟩
theorem b_is_folk {C : KM} {xNoFolk : Addr} (T : Txt C xNoFolk) (F_is_name : Fn C 2 "is_name" g_is_name) (F_is_comer : Fn C 1 "is_comer" g_is_comer) (base : Heap) (f : Addr) (cdv : Value) (A : Around) (outer : List Env) (s : Shared) (H : Hp) (E : XK) (vs : List V) (W : WX) (g : Go (CxD C base ["thing"] "is_folk" (defScope (top 17)) f cdv A outer s H E) ⟨C, vs, [0]⟩ W 2) : PSs (CxD C base ["thing"] "is_folk" (defScope (top 17)) f cdv A outer s H E) (defBody (top 17)) (tS ⟨C, vs, [0]⟩ W m_is_folk) :=
  (rs_one (rs_ret (r_or (r_call g F_is_name (by decide) rfl (r_cons (r_varA 0 rfl (by first | exact .inl rfl | exact .inr (.inl rfl) | exact .inr (.inr rfl))) r_nil)) (r_one (r_call g F_is_comer (by decide) rfl (r_cons (r_varA 0 rfl (by first | exact .inl rfl | exact .inr (.inl rfl) | exact .inr (.inr rfl))) r_nil))))))
theorem sc_instances : FnScope ["book", "folk", "one"] ["book", "folk"] (defScope (top 39)) := ⟨rfl, rfl, rfl, by decide +kernel, rfl, by decide +kernel, by decide +kernel⟩
theorem b_instances {C : KM} {xNoFolk : Addr} (T : Txt C xNoFolk) (F_is_listed : Fn C 1 "is_listed" g_is_listed) (F_is_folk : Fn C 3 "is_folk" g_is_folk) (F_are_unlike : Fn C 1 "are_unlike" g_are_unlike) (F_instances_of : Fn C 2 "instances_of" g_instances_of) (base : Heap) (f : Addr) (cdv : Value) (A : Around) (outer : List Env) (s : Shared) (H : Hp) (E : XK) (vs : List V) (W : WX) (g : Go (CxD C base ["book", "folk", "one"] "instances" (defScope (top 39)) f cdv A outer s H E) ⟨C, vs, [0, 1]⟩ W 3) : PSs (CxD C base ["book", "folk", "one"] "instances" (defScope (top 39)) f cdv A outer s H E) (defBody (top 39)) (tS ⟨C, vs, [0, 1]⟩ W m_instances) :=
  (rs_cons (rs_if (PW.pt (rt_or (rt_not (rt_bl (r_call g F_is_listed (by decide) rfl (r_cons (r_varA 1 rfl (by first | exact .inl rfl | exact .inr (.inl rfl) | exact .inr (.inr rfl))) r_nil)))) (rt_or (rt_not (rt_bl (r_cb g.toSt0 (call_allD g.cm) T.n_all (by rfl) rfl (r_cons (r_frz (r_lc g [("one", 2)] (.nm 2) (show (2 : Nat) ∉ [0, 1] by decide) (show ∀ i ∈ [0, 1], i ∉ [2] by decide) (show (2 : Nat) ∈ [2] by decide) (ri_val g.toSt0 (r_frz (r_varE 1 rfl (by first | exact .inl rfl | exact .inr (.inl rfl) | exact .inr (.inr rfl))))) (blkOk_by (N := ["book", "folk", "one"]) (sc := defScope (top 39)) (by decide +kernel)) (fun _ _ _ _ _ => (rg_nm (g.blk ..).toSt0 2 rfl (by first | exact .inl rfl | exact .inr rfl))) (fun _ _ _ _ _ g => rts_nil) (fun _ _ _ _ _ g => (r_call g F_is_folk (by decide) rfl (r_cons (r_varA 2 rfl (by first | exact .inl rfl | exact .inr (.inl rfl) | exact .inr (.inr rfl))) r_nil))))) r_nil)))) (rt_or1 (rt_not (rt_bl (r_call g F_are_unlike (by decide) rfl (r_cons (r_varA 1 rfl (by first | exact .inl rfl | exact .inr (.inl rfl) | exact .inr (.inr rfl))) r_nil)))))))) (rs_one (rs_raise0 g T.e_NoFolk rfl)) rs_nil)
  (rs_one (rs_ret (r_call g F_instances_of (by decide) rfl (r_cons (r_varA 0 rfl (by first | exact .inl rfl | exact .inr (.inl rfl) | exact .inr (.inr rfl))) (r_cons (r_frz (r_cb g.toSt0 (call_sortX g.k.symm) T.n_sorted (by rfl) rfl (r_cons (r_varA 1 rfl (by first | exact .inl rfl | exact .inr (.inl rfl) | exact .inr (.inr rfl))) r_nil))) r_nil))))))
theorem sc__law_bad : FnScope ["_law_deck_here", "_law_folk_here", "_law_odd", "_law_at", "_law_found", "_law_others"] ["_law_deck_here", "_law_folk_here"] (defScope (top 54)) := ⟨rfl, rfl, rfl, by decide +kernel, rfl, by decide +kernel, by decide +kernel⟩
theorem b__law_bad {C : KM} {xNoFolk : Addr} (T : Txt C xNoFolk) (F__law_pick : Fn C 1 "_law_pick" g__law_pick) (base : Heap) (f : Addr) (cdv : Value) (A : Around) (outer : List Env) (s : Shared) (H : Hp) (E : XK) (vs : List V) (W : WX) (g : Go (CxD C base ["_law_deck_here", "_law_folk_here", "_law_odd", "_law_at", "_law_found", "_law_others"] "_law_bad" (defScope (top 54)) f cdv A outer s H E) ⟨C, vs, [0, 1]⟩ W 1) : PSs (CxD C base ["_law_deck_here", "_law_folk_here", "_law_odd", "_law_at", "_law_found", "_law_others"] "_law_bad" (defScope (top 54)) f cdv A outer s H E) (defBody (top 54)) (tS ⟨C, vs, [0, 1]⟩ W m__law_bad) :=
  (rs_cons (rs_set g.toSt0 2 (show (2 : Nat) ∉ [0, 1] by decide) rfl (by first | exact .inl rfl | exact .inr rfl) (r_lst (r_cons (r_frz r_str) (r_cons (r_frz r_str) (r_cons (r_frz r_str) (r_cons (r_frz r_str) (r_cons (r_frz r_str) (r_cons (r_frz r_str) (r_cons (r_frz r_non) (r_cons (r_frz r_bl) (r_cons (r_frz r_int) (r_cons (r_frz (r_tup (r_cons (r_frz r_str) r_nil))) (r_cons (r_frz (r_lst (r_cons (r_frz r_str) r_nil))) (r_cons (r_frz r_str) (r_cons (r_frz r_str) (r_cons (r_frz r_dic0) r_nil))))))))))))))))
  (rs_cons (rs_set g.toSt0 3 (show (3 : Nat) ∉ [0, 1] by decide) rfl (by first | exact .inl rfl | exact .inr rfl) (r_call g F__law_pick (by decide) rfl (r_cons (r_varA 0 rfl (by first | exact .inl rfl | exact .inr (.inl rfl) | exact .inr (.inr rfl))) (r_cons (r_frz (r_bin g.toSt0 rfl (r_frz (r_cb g.toSt0 (call_lenDD g.k.symm) T.n_len (by rfl) rfl (r_cons (r_varA 1 rfl (by first | exact .inl rfl | exact .inr (.inl rfl) | exact .inr (.inr rfl))) r_nil))) (r_frz r_int))) r_nil))))
  (rs_cons (rs_set g.toSt0 4 (show (4 : Nat) ∉ [0, 1] by decide) rfl (by first | exact .inl rfl | exact .inr rfl) (r_bin g.toSt0 rfl (r_frz (r_bin g.toSt0 rfl (r_frz (r_sl g.toSt0 (r_varA 1 rfl (by first | exact .inl rfl | exact .inr (.inl rfl) | exact .inr (.inr rfl))) r_noP (r_part (r_varE 3 rfl (by first | exact .inl rfl | exact .inr (.inl rfl) | exact .inr (.inr rfl)))))) (r_frz (r_lst (r_cons (r_frz (r_ix g.toSt0 (r_varA 2 rfl (by first | exact .inl rfl | exact .inr (.inl rfl) | exact .inr (.inr rfl))) (r_frz (r_call g F__law_pick (by decide) rfl (r_cons (r_varA 0 rfl (by first | exact .inl rfl | exact .inr (.inl rfl) | exact .inr (.inr rfl))) (r_cons (r_frz r_int) r_nil)))))) r_nil))))) (r_frz (r_sl g.toSt0 (r_varA 1 rfl (by first | exact .inl rfl | exact .inr (.inl rfl) | exact .inr (.inr rfl))) (r_part (r_varE 3 rfl (by first | exact .inl rfl | exact .inr (.inl rfl) | exact .inr (.inr rfl)))) r_noP))))
  (rs_cons (rs_set g.toSt0 5 (show (5 : Nat) ∉ [0, 1] by decide) rfl (by first | exact .inl rfl | exact .inr rfl) (r_lst (r_cons (r_frz (r_bin g.toSt0 rfl (r_frz (r_bin g.toSt0 rfl (r_varA 1 rfl (by first | exact .inl rfl | exact .inr (.inl rfl) | exact .inr (.inr rfl))) (r_varA 1 rfl (by first | exact .inl rfl | exact .inr (.inl rfl) | exact .inr (.inr rfl))))) (r_frz (r_lst (r_cons (r_frz r_str) (r_cons (r_frz r_str) r_nil)))))) (r_cons (r_frz r_str) (r_cons (r_frz r_str) (r_cons (r_frz r_non) (r_cons (r_frz r_dic0) (r_cons (r_frz r_int) (r_cons (r_frz r_bl) (r_cons (r_frz (r_dic1 g.toSt0 (r_frz r_str) (r_frz r_int))) (r_cons (r_frz (r_lst (r_cons (r_frz (r_varE 1 rfl (by first | exact .inl rfl | exact .inr (.inl rfl) | exact .inr (.inr rfl)))) r_nil))) r_nil)))))))))))
  (rs_one (rs_ret (r_lst (r_cons (r_frz (r_varE 4 rfl (by first | exact .inl rfl | exact .inr (.inl rfl) | exact .inr (.inr rfl)))) (r_cons (r_frz (r_cty g.toSt0 (call_tupleD g.k.symm) T.n_tuple (by rfl) rfl (r_cons (r_varA 4 rfl (by first | exact .inl rfl | exact .inr (.inl rfl) | exact .inr (.inr rfl))) r_nil))) (r_cons (r_frz (r_ix g.toSt0 (r_varA 5 rfl (by first | exact .inl rfl | exact .inr (.inl rfl) | exact .inr (.inr rfl))) (r_frz (r_call g F__law_pick (by decide) rfl (r_cons (r_varA 0 rfl (by first | exact .inl rfl | exact .inr (.inl rfl) | exact .inr (.inr rfl))) (r_cons (r_frz r_int) r_nil)))))) r_nil))))))))))
theorem sc__law_is_told : FnScope ["_law_told", "_law_due_here", "_law_at"] ["_law_told", "_law_due_here"] (defScope (top 52)) := ⟨rfl, rfl, rfl, by decide +kernel, rfl, by decide +kernel, by decide +kernel⟩
theorem b__law_is_told {C : KM} {xNoFolk : Addr} (T : Txt C xNoFolk)  (base : Heap) (f : Addr) (cdv : Value) (A : Around) (outer : List Env) (s : Shared) (H : Hp) (E : XK) (vs : List V) (W : WX) (g : Go (CxD C base ["_law_told", "_law_due_here", "_law_at"] "_law_is_told" (defScope (top 52)) f cdv A outer s H E) ⟨C, vs, [0, 1]⟩ W 0) : PSs (CxD C base ["_law_told", "_law_due_here", "_law_at"] "_law_is_told" (defScope (top 52)) f cdv A outer s H E) (defBody (top 52)) (tS ⟨C, vs, [0, 1]⟩ W m__law_is_told) :=
  (rs_cons (rs_if (PW.pt (rt_or (rt_not (rt_bl (r_isi g.toSt0 .tLst (r_varA 0 rfl (by first | exact .inl rfl | exact .inr (.inl rfl) | exact .inr (.inr rfl))) T.n_isinstance T.n_list rfl rfl (by rfl) (by rfl)))) (rt_or1 (rt_cmp g.toSt0 rfl (r_frz (r_cb g.toSt0 (call_lenDD g.k.symm) T.n_len (by rfl) rfl (r_cons (r_varA 0 rfl (by first | exact .inl rfl | exact .inr (.inl rfl) | exact .inr (.inr rfl))) r_nil))) (r_frz (r_cb g.toSt0 (call_lenDD g.k.symm) T.n_len (by rfl) rfl (r_cons (r_varA 1 rfl (by first | exact .inl rfl | exact .inr (.inl rfl) | exact .inr (.inr rfl))) r_nil))))))) (rs_one (rs_ret r_bl)) rs_nil)
  (rs_cons (rs_for g (.nm 2) (show (2 : Nat) ∉ [0, 1] by decide) (ri_rng1 g.toSt0 T.n_range rfl (r_cons (r_frz (r_cb g.toSt0 (call_lenDD g.k.symm) T.n_len (by rfl) rfl (r_cons (r_varA 1 rfl (by first | exact .inl rfl | exact .inr (.inl rfl) | exact .inr (.inr rfl))) r_nil))) r_nil)) (rg_nm g.toSt0 2 rfl (by first | exact .inl rfl | exact .inr rfl)) (rs_one (rs_if (PW.pt (rt_or (rt_not (rt_bl (r_isi g.toSt0 .tTup (r_frz (r_ix g.toSt0 (r_varA 0 rfl (by first | exact .inl rfl | exact .inr (.inl rfl) | exact .inr (.inr rfl))) (r_varA 2 rfl (by first | exact .inl rfl | exact .inr (.inl rfl) | exact .inr (.inr rfl))))) T.n_isinstance T.n_tuple rfl rfl (by rfl) (by rfl)))) (rt_or (rt_cmp g.toSt0 rfl (r_frz (r_ix g.toSt0 (r_varA 0 rfl (by first | exact .inl rfl | exact .inr (.inl rfl) | exact .inr (.inr rfl))) (r_varA 2 rfl (by first | exact .inl rfl | exact .inr (.inl rfl) | exact .inr (.inr rfl))))) (r_frz (r_ix g.toSt0 (r_varA 1 rfl (by first | exact .inl rfl | exact .inr (.inl rfl) | exact .inr (.inr rfl))) (r_varA 2 rfl (by first | exact .inl rfl | exact .inr (.inl rfl) | exact .inr (.inr rfl)))))) (rt_or1 (rt_bl (r_isi g.toSt0 .tBool (r_frz (r_ix g.toSt0 (r_frz (r_ix g.toSt0 (r_varA 0 rfl (by first | exact .inl rfl | exact .inr (.inl rfl) | exact .inr (.inr rfl))) (r_varA 2 rfl (by first | exact .inl rfl | exact .inr (.inl rfl) | exact .inr (.inr rfl))))) (r_frz r_int))) T.n_isinstance T.n_bool rfl rfl (by rfl) (by rfl))))))) (rs_one (rs_ret r_bl)) rs_nil)))
  (rs_one (rs_ret r_bl))))
theorem sc__law_term : FnScope ["_law_deck_here", "_law_tables_here", "_law_label", "_law_size", "_law_rest", "_law_letters_here", "_law_turn"] ["_law_deck_here", "_law_tables_here"] (defScope (top 45)) := ⟨rfl, rfl, rfl, by decide +kernel, rfl, by decide +kernel, by decide +kernel⟩
theorem b__law_term {C : KM} {xNoFolk : Addr} (T : Txt C xNoFolk) (F__law_pick : Fn C 1 "_law_pick" g__law_pick) (base : Heap) (f : Addr) (cdv : Value) (A : Around) (outer : List Env) (s : Shared) (H : Hp) (E : XK) (vs : List V) (W : WX) (g : Go (CxD C base ["_law_deck_here", "_law_tables_here", "_law_label", "_law_size", "_law_rest", "_law_letters_here", "_law_turn"] "_law_term" (defScope (top 45)) f cdv A outer s H E) ⟨C, vs, [0, 1]⟩ W 1) : PSs (CxD C base ["_law_deck_here", "_law_tables_here", "_law_label", "_law_size", "_law_rest", "_law_letters_here", "_law_turn"] "_law_term" (defScope (top 45)) f cdv A outer s H E) (defBody (top 45)) (tS ⟨C, vs, [0, 1]⟩ W m__law_term) :=
  (rs_cons (rs_setT (.tp [(.nm 2), (.nm 3)]) ⟨(show (2 : Nat) ∉ [0, 1] by decide), ⟨(show (3 : Nat) ∉ [0, 1] by decide), trivial⟩⟩ (r_ix g.toSt0 (r_varA 1 rfl (by first | exact .inl rfl | exact .inr (.inl rfl) | exact .inr (.inr rfl))) (r_frz (r_call g F__law_pick (by decide) rfl (r_cons (r_varA 0 rfl (by first | exact .inl rfl | exact .inr (.inl rfl) | exact .inr (.inr rfl))) (r_cons (r_frz (r_cb g.toSt0 (call_lenDD g.k.symm) T.n_len (by rfl) rfl (r_cons (r_varA 1 rfl (by first | exact .inl rfl | exact .inr (.inl rfl) | exact .inr (.inr rfl))) r_nil))) r_nil))))) (rg_tup g.toSt0 g.cm (rg_cons (rg_nm g.toSt0 2 rfl (by first | exact .inl rfl | exact .inr rfl)) (rg_cons (rg_nm g.toSt0 3 rfl (by first | exact .inl rfl | exact .inr rfl)) rg_nil))))
  (rs_cons (rs_set g.toSt0 4 (show (4 : Nat) ∉ [0, 1] by decide) rfl (by first | exact .inl rfl | exact .inr rfl) (r_lst (r_cons (r_frz r_str) (r_cons (r_frz r_str) (r_cons (r_frz r_str) (r_cons (r_frz r_str) r_nil))))))
  (rs_cons (rs_set g.toSt0 5 (show (5 : Nat) ∉ [0, 1] by decide) rfl (by first | exact .inl rfl | exact .inr rfl) r_str)
  (rs_cons (rs_for g (.nm 6) (show (6 : Nat) ∉ [0, 1] by decide) (ri_rng1 g.toSt0 T.n_range rfl (r_cons (r_varA 3 rfl (by first | exact .inl rfl | exact .inr (.inl rfl) | exact .inr (.inr rfl))) r_nil)) (rg_nm g.toSt0 6 rfl (by first | exact .inl rfl | exact .inr rfl)) (rs_one (rs_set g.toSt0 5 (show (5 : Nat) ∉ [0, 1] by decide) rfl (by first | exact .inl rfl | exact .inr rfl) (r_bin g.toSt0 rfl (r_varA 5 rfl (by first | exact .inl rfl | exact .inr (.inl rfl) | exact .inr (.inr rfl))) (r_frz (r_popAt g.toSt0 4 rfl (by first | exact .inl rfl | exact .inr (.inl rfl) | exact .inr (.inr rfl)) (r_cons (r_frz (r_call g F__law_pick (by decide) rfl (r_cons (r_varA 0 rfl (by first | exact .inl rfl | exact .inr (.inl rfl) | exact .inr (.inr rfl))) (r_cons (r_frz (r_cb g.toSt0 (call_lenDD g.k.symm) T.n_len (by rfl) rfl (r_cons (r_varA 4 rfl (by first | exact .inl rfl | exact .inr (.inl rfl) | exact .inr (.inr rfl))) r_nil))) r_nil)))) r_nil)))))))
  (rs_one (rs_ret (r_tup (r_cons (r_frz (r_bin g.toSt0 rfl (r_frz r_int) (r_frz (r_call g F__law_pick (by decide) rfl (r_cons (r_varA 0 rfl (by first | exact .inl rfl | exact .inr (.inl rfl) | exact .inr (.inr rfl))) (r_cons (r_frz r_int) r_nil)))))) (r_cons (r_frz (r_varE 2 rfl (by first | exact .inl rfl | exact .inr (.inl rfl) | exact .inr (.inr rfl)))) (r_cons (r_frz (r_varE 5 rfl (by first | exact .inl rfl | exact .inr (.inl rfl) | exact .inr (.inr rfl)))) r_nil))))))))))
theorem sc__law_demand : FnScope ["_law_deck_here", "_law_tables_here", "_law_terms", "_law_turn"] ["_law_deck_here", "_law_tables_here"] (defScope (top 46)) := ⟨rfl, rfl, rfl, by decide +kernel, rfl, by decide +kernel, by decide +kernel⟩
theorem b__law_demand {C : KM} {xNoFolk : Addr} (T : Txt C xNoFolk) (F__law_pick : Fn C 1 "_law_pick" g__law_pick) (F__law_term : Fn C 2 "_law_term" g__law_term) (base : Heap) (f : Addr) (cdv : Value) (A : Around) (outer : List Env) (s : Shared) (H : Hp) (E : XK) (vs : List V) (W : WX) (g : Go (CxD C base ["_law_deck_here", "_law_tables_here", "_law_terms", "_law_turn"] "_law_demand" (defScope (top 46)) f cdv A outer s H E) ⟨C, vs, [0, 1]⟩ W 2) : PSs (CxD C base ["_law_deck_here", "_law_tables_here", "_law_terms", "_law_turn"] "_law_demand" (defScope (top 46)) f cdv A outer s H E) (defBody (top 46)) (tS ⟨C, vs, [0, 1]⟩ W m__law_demand) :=
  (rs_cons (rs_lc g 2 [("_law_turn", 3)] (.nm 3) (show (2 : Nat) ∉ [0, 1] by decide) (show (3 : Nat) ∉ [0, 1] by decide) (show ∀ i ∈ [0, 1], i ∉ [3] by decide) (show (3 : Nat) ∈ [3] by decide) rfl rfl (sw_true rfl rfl rfl (by decide +kernel)) (ri_rng1 g.toSt0 T.n_range rfl (r_cons (r_frz (r_bin g.toSt0 rfl (r_frz r_int) (r_frz (r_call g F__law_pick (by decide) rfl (r_cons (r_varA 0 rfl (by first | exact .inl rfl | exact .inr (.inl rfl) | exact .inr (.inr rfl))) (r_cons (r_frz r_int) r_nil)))))) r_nil)) (blkOk_by (N := ["_law_deck_here", "_law_tables_here", "_law_terms", "_law_turn"]) (sc := defScope (top 46)) (by decide +kernel)) (fun _ _ _ _ _ => (rg_nm (g.blk ..).toSt0 3 rfl (by first | exact .inl rfl | exact .inr rfl))) (fun _ _ _ _ _ g => rts_nil) (fun _ _ _ _ _ g => (r_call g F__law_term (by decide) rfl (r_cons (r_varA 0 rfl (by first | exact .inl rfl | exact .inr (.inl rfl) | exact .inr (.inr rfl))) (r_cons (r_varA 1 rfl (by first | exact .inl rfl | exact .inr (.inl rfl) | exact .inr (.inr rfl))) r_nil)))))
  (rs_one (rs_ret (r_tup (r_cons (r_frz (r_cty g.toSt0 (call_tupleD g.k.symm) T.n_tuple (by rfl) rfl (r_cons (r_varA 2 rfl (by first | exact .inl rfl | exact .inr (.inl rfl) | exact .inr (.inr rfl))) r_nil))) (r_cons (r_frz (r_bin g.toSt0 rfl (r_frz (r_call g F__law_pick (by decide) rfl (r_cons (r_varA 0 rfl (by first | exact .inl rfl | exact .inr (.inl rfl) | exact .inr (.inr rfl))) (r_cons (r_frz r_int) r_nil)))) (r_frz r_int))) r_nil))))))
theorem sc__law_refused : FnScope ["_law_book", "_law_thing", "_law_is_met"] ["_law_book", "_law_thing"] (defScope (top 53)) := ⟨rfl, rfl, rfl, by decide +kernel, rfl, by decide +kernel, by decide +kernel⟩
theorem b__law_refused {C : KM} {xNoFolk : Addr} (T : Txt C xNoFolk) (F_instances : Fn C 4 "instances" g_instances) (base : Heap) (f : Addr) (cdv : Value) (A : Around) (outer : List Env) (s : Shared) (H : Hp) (E : XK) (vs : List V) (W : WX) (g : Go (CxD C base ["_law_book", "_law_thing", "_law_is_met"] "_law_refused" (defScope (top 53)) f cdv A outer s H E) ⟨C, vs, [0, 1]⟩ W 4) : PSs (CxD C base ["_law_book", "_law_thing", "_law_is_met"] "_law_refused" (defScope (top 53)) f cdv A outer s H E) (defBody (top 53)) (tS ⟨C, vs, [0, 1]⟩ W m__law_refused) :=
  (rs_cons (rs_set g.toSt0 2 (show (2 : Nat) ∉ [0, 1] by decide) rfl (by first | exact .inl rfl | exact .inr rfl) r_bl)
  (rs_cons (rs_try (x := "NoFolk") (c := .ref xNoFolk) g rfl rfl ⟨rfl, by decide, .inl T.g_NoFolk⟩ yes_NoFolk no_NoFolk T.y_NoFolk T.o_NoFolk (fun _ _ _ g => (rs_one (rs_expr (r_call g F_instances (by decide) rfl (r_cons (r_varA 0 rfl (by first | exact .inl rfl | exact .inr (.inl rfl) | exact .inr (.inr rfl))) (r_cons (r_varA 1 rfl (by first | exact .inl rfl | exact .inr (.inl rfl) | exact .inr (.inr rfl))) r_nil)))))) (fun _ _ q => (rs_one (rs_set q 2 (show (2 : Nat) ∉ [0, 1] by decide) rfl (by first | exact .inl rfl | exact .inr rfl) r_bl))))
  (rs_one (rs_ret (r_varM 2 2 rfl (by first | exact .inl rfl | exact .inr (.inl rfl) | exact .inr (.inr rfl)))))))
theorem sc_law : FnScope ["_law_script", "_law_deck_here", "_law_rare", "_law_tables_here", "_law_folk_here", "_law_demands", "_law_turn", "_law_demand_here", "_law_book", "_law_due_here", "_law_passed", "_law_told", "_law_thing"] ["_law_script"] (defScope (top 55)) := ⟨rfl, rfl, rfl, by decide +kernel, rfl, by decide +kernel, by decide +kernel⟩
theorem b_law {C : KM} {xNoFolk : Addr} (T : Txt C xNoFolk) (F__law_deck : Fn C 1 "_law_deck" g__law_deck) (F__law_fold : Fn C 1 "_law_fold" g__law_fold) (F__law_tables : Fn C 2 "_law_tables" g__law_tables) (F__law_folk : Fn C 3 "_law_folk" g__law_folk) (F__law_pick : Fn C 1 "_law_pick" g__law_pick) (F__law_demand : Fn C 3 "_law_demand" g__law_demand) (F__law_letters : Fn C 1 "_law_letters" g__law_letters) (M_Book : MkOk C 5 "Book" g_Book__init) (F__law_due : Fn C 2 "_law_due" g__law_due) (F_instances : Fn C 4 "instances" g_instances) (F__law_is_told : Fn C 1 "_law_is_told" g__law_is_told) (F__law_bad : Fn C 2 "_law_bad" g__law_bad) (F__law_refused : Fn C 5 "_law_refused" g__law_refused) (base : Heap) (f : Addr) (cdv : Value) (A : Around) (outer : List Env) (s : Shared) (H : Hp) (E : XK) (vs : List V) (W : WX) (g : Go (CxD C base ["_law_script", "_law_deck_here", "_law_rare", "_law_tables_here", "_law_folk_here", "_law_demands", "_law_turn", "_law_demand_here", "_law_book", "_law_due_here", "_law_passed", "_law_told", "_law_thing"] "law" (defScope (top 55)) f cdv A outer s H E) ⟨C, vs, [0]⟩ W 6) : PSs (CxD C base ["_law_script", "_law_deck_here", "_law_rare", "_law_tables_here", "_law_folk_here", "_law_demands", "_law_turn", "_law_demand_here", "_law_book", "_law_due_here", "_law_passed", "_law_told", "_law_thing"] "law" (defScope (top 55)) f cdv A outer s H E) (defBody (top 55)) (tS ⟨C, vs, [0]⟩ W m_law) :=
  (rs_cons (rs_set g.toSt0 1 (show (1 : Nat) ∉ [0] by decide) rfl (by first | exact .inl rfl | exact .inr rfl) (r_call g F__law_deck (by decide) rfl (r_cons (r_varA 0 rfl (by first | exact .inl rfl | exact .inr (.inl rfl) | exact .inr (.inr rfl))) r_nil)))
  (rs_cons (rs_set g.toSt0 2 (show (2 : Nat) ∉ [0] by decide) rfl (by first | exact .inl rfl | exact .inr rfl) (r_call g F__law_fold (by decide) rfl (r_cons (r_varA 0 rfl (by first | exact .inl rfl | exact .inr (.inl rfl) | exact .inr (.inr rfl))) r_nil)))
  (rs_cons (rs_set g.toSt0 3 (show (3 : Nat) ∉ [0] by decide) rfl (by first | exact .inl rfl | exact .inr rfl) (r_call g F__law_tables (by decide) rfl (r_cons (r_varA 1 rfl (by first | exact .inl rfl | exact .inr (.inl rfl) | exact .inr (.inr rfl))) (r_cons (r_frz (r_cmp g.toSt0 rfl (r_frz (r_bin g.toSt0 rfl (r_varA 2 rfl (by first | exact .inl rfl | exact .inr (.inl rfl) | exact .inr (.inr rfl))) (r_frz r_int))) (r_frz r_int))) r_nil))))
  (rs_cons (rs_set g.toSt0 4 (show (4 : Nat) ∉ [0] by decide) rfl (by first | exact .inl rfl | exact .inr rfl) (r_call g F__law_folk (by decide) rfl (r_cons (r_varA 1 rfl (by first | exact .inl rfl | exact .inr (.inl rfl) | exact .inr (.inr rfl))) r_nil)))
  (rs_cons (rs_set g.toSt0 5 (show (5 : Nat) ∉ [0] by decide) rfl (by first | exact .inl rfl | exact .inr rfl) (r_cty g.toSt0 (call_tupleD g.k.symm) T.n_tuple (by rfl) rfl (r_cons (r_frz (r_lc g [("_law_turn", 6)] (.nm 6) (show (6 : Nat) ∉ [0] by decide) (show ∀ i ∈ [0], i ∉ [6] by decide) (show (6 : Nat) ∈ [6] by decide) (ri_rng1 g.toSt0 T.n_range rfl (r_cons (r_frz (r_call g F__law_pick (by decide) rfl (r_cons (r_varA 1 rfl (by first | exact .inl rfl | exact .inr (.inl rfl) | exact .inr (.inr rfl))) (r_cons (r_frz r_int) r_nil)))) r_nil)) (blkOk_by (N := ["_law_script", "_law_deck_here", "_law_rare", "_law_tables_here", "_law_folk_here", "_law_demands", "_law_turn", "_law_demand_here", "_law_book", "_law_due_here", "_law_passed", "_law_told", "_law_thing"]) (sc := defScope (top 55)) (by decide +kernel)) (fun _ _ _ _ _ => (rg_nm (g.blk ..).toSt0 6 rfl (by first | exact .inl rfl | exact .inr rfl))) (fun _ _ _ _ _ g => rts_nil) (fun _ _ _ _ _ g => (r_call g F__law_demand (by decide) rfl (r_cons (r_varA 1 rfl (by first | exact .inl rfl | exact .inr (.inl rfl) | exact .inr (.inr rfl))) (r_cons (r_varA 3 rfl (by first | exact .inl rfl | exact .inr (.inl rfl) | exact .inr (.inr rfl))) r_nil)))))) r_nil)))
  (rs_cons (rs_if (rt_cmp g.toSt0 rfl (r_frz (r_bin g.toSt0 rfl (r_frz (r_bin g.toSt0 rfl (r_varA 2 rfl (by first | exact .inl rfl | exact .inr (.inl rfl) | exact .inr (.inr rfl))) (r_frz r_int))) (r_frz r_int))) (r_frz r_int)) (rs_cons (rs_set g.toSt0 4 (show (4 : Nat) ∉ [0] by decide) rfl (by first | exact .inl rfl | exact .inr rfl) (r_bin g.toSt0 rfl (r_frz (r_cty g.toSt0 (call_listY g.k.symm g.cm) T.n_list (by rfl) rfl (r_cons (r_frz r_str) r_nil))) (r_frz (r_lst (r_cons (r_frz r_str) (r_cons (r_frz r_str) (r_cons (r_frz r_str) r_nil)))))))
  (rs_cons (rs_set g.toSt0 4 (show (4 : Nat) ∉ [0] by decide) rfl (by first | exact .inl rfl | exact .inr rfl) (r_sl g.toSt0 (r_varA 4 rfl (by first | exact .inl rfl | exact .inr (.inl rfl) | exact .inr (.inr rfl))) r_noP (r_part (r_bin g.toSt0 rfl (r_frz r_int) (r_frz (r_call g F__law_pick (by decide) rfl (r_cons (r_varA 1 rfl (by first | exact .inl rfl | exact .inr (.inl rfl) | exact .inr (.inr rfl))) (r_cons (r_frz r_int) r_nil))))))))
  (rs_one (rs_set g.toSt0 5 (show (5 : Nat) ∉ [0] by decide) rfl (by first | exact .inl rfl | exact .inr rfl) (r_cty g.toSt0 (call_tupleD g.k.symm) T.n_tuple (by rfl) rfl (r_cons (r_frz (r_lc g [("_law_demand_here", 7)] (.nm 7) (show (7 : Nat) ∉ [0] by decide) (show ∀ i ∈ [0], i ∉ [7] by decide) (show (7 : Nat) ∈ [7] by decide) (ri_val g.toSt0 (r_frz (r_varE 5 rfl (by first | exact .inl rfl | exact .inr (.inl rfl) | exact .inr (.inr rfl))))) (blkOk_by (N := ["_law_script", "_law_deck_here", "_law_rare", "_law_tables_here", "_law_folk_here", "_law_demands", "_law_turn", "_law_demand_here", "_law_book", "_law_due_here", "_law_passed", "_law_told", "_law_thing"]) (sc := defScope (top 55)) (by decide +kernel)) (fun _ _ _ _ _ => (rg_nm (g.blk ..).toSt0 7 rfl (by first | exact .inl rfl | exact .inr rfl))) (fun _ _ _ _ _ g => (rts_one (rt_cmp g.toSt0 rfl (r_frz (r_cb g.toSt0 (call_lenDD g.k.symm) T.n_len (by rfl) rfl (r_cons (r_frz (r_call g F__law_letters (by decide) rfl (r_cons (r_varA 7 rfl (by first | exact .inl rfl | exact .inr (.inl rfl) | exact .inr (.inr rfl))) r_nil))) r_nil))) (r_frz r_int)))) (fun _ _ _ _ _ g => (r_varE 7 rfl (by first | exact .inl rfl | exact .inr (.inl rfl) | exact .inr (.inr rfl)))))) r_nil)))))) rs_nil)
  (rs_cons (rs_set g.toSt0 8 (show (8 : Nat) ∉ [0] by decide) rfl (by first | exact .inl rfl | exact .inr rfl) (r_make g M_Book (by decide) rfl (r_cons (r_frz (r_ix g.toSt0 (r_frz (r_lst (r_cons (r_frz r_int) (r_cons (r_frz r_int) (r_cons (r_frz r_int) (r_cons (r_frz r_int) r_nil)))))) (r_frz (r_call g F__law_pick (by decide) rfl (r_cons (r_varA 1 rfl (by first | exact .inl rfl | exact .inr (.inl rfl) | exact .inr (.inr rfl))) (r_cons (r_frz r_int) r_nil)))))) (r_cons (r_varA 3 rfl (by first | exact .inl rfl | exact .inr (.inl rfl) | exact .inr (.inr rfl))) (r_cons (r_varA 5 rfl (by first | exact .inl rfl | exact .inr (.inl rfl) | exact .inr (.inr rfl))) r_nil)))))
  (rs_cons (rs_set g.toSt0 9 (show (9 : Nat) ∉ [0] by decide) rfl (by first | exact .inl rfl | exact .inr rfl) (r_call g F__law_due (by decide) rfl (r_cons (r_varA 5 rfl (by first | exact .inl rfl | exact .inr (.inl rfl) | exact .inr (.inr rfl))) (r_cons (r_varA 4 rfl (by first | exact .inl rfl | exact .inr (.inl rfl) | exact .inr (.inr rfl))) r_nil))))
  (rs_cons (rs_set g.toSt0 10 (show (10 : Nat) ∉ [0] by decide) rfl (by first | exact .inl rfl | exact .inr rfl) (r_cty g.toSt0 (call_listY g.k.symm g.cm) T.n_list (by rfl) rfl (r_cons (r_varA 4 rfl (by first | exact .inl rfl | exact .inr (.inl rfl) | exact .inr (.inr rfl))) r_nil)))
  (rs_cons (rs_set g.toSt0 11 (show (11 : Nat) ∉ [0] by decide) rfl (by first | exact .inl rfl | exact .inr rfl) (r_call g F_instances (by decide) rfl (r_cons (r_varA 8 rfl (by first | exact .inl rfl | exact .inr (.inl rfl) | exact .inr (.inr rfl))) (r_cons (r_varA 10 rfl (by first | exact .inl rfl | exact .inr (.inl rfl) | exact .inr (.inr rfl))) r_nil))))
  (rs_cons (rs_if (PW.pt (rt_or (rt_not (rt_bl (r_call g F__law_is_told (by decide) rfl (r_cons (r_varA 11 rfl (by first | exact .inl rfl | exact .inr (.inl rfl) | exact .inr (.inr rfl))) (r_cons (r_varA 9 rfl (by first | exact .inl rfl | exact .inr (.inl rfl) | exact .inr (.inr rfl))) r_nil))))) (rt_or1 (rt_cmp g.toSt0 rfl (r_varA 10 rfl (by first | exact .inl rfl | exact .inr (.inl rfl) | exact .inr (.inr rfl))) (r_varA 4 rfl (by first | exact .inl rfl | exact .inr (.inl rfl) | exact .inr (.inr rfl))))))) (rs_one (rs_ret r_bl)) rs_nil)
  (rs_cons (rs_expr (r_reverse g.toSt0 11 rfl (by first | exact .inl rfl | exact .inr (.inl rfl) | exact .inr (.inr rfl))))
  (rs_cons (rs_expr (r_append g.toSt0 11 rfl (by first | exact .inl rfl | exact .inr (.inl rfl) | exact .inr (.inr rfl)) (r_cons (r_frz (r_tup (r_cons (r_frz r_int) (r_cons (r_frz (r_tup r_nil)) r_nil)))) r_nil)))
  (rs_cons (rs_if (rt_not (rt_bl (r_call g F__law_is_told (by decide) rfl (r_cons (r_frz (r_call g F_instances (by decide) rfl (r_cons (r_varA 8 rfl (by first | exact .inl rfl | exact .inr (.inl rfl) | exact .inr (.inr rfl))) (r_cons (r_frz (r_cty g.toSt0 (call_tupleD g.k.symm) T.n_tuple (by rfl) rfl (r_cons (r_frz (r_revL g.toSt0 (r_varA 4 rfl (by first | exact .inl rfl | exact .inr (.inl rfl) | exact .inr (.inr rfl))))) r_nil))) r_nil)))) (r_cons (r_varA 9 rfl (by first | exact .inl rfl | exact .inr (.inl rfl) | exact .inr (.inr rfl))) r_nil))))) (rs_one (rs_ret r_bl)) rs_nil)
  (rs_cons (rs_for g (.nm 12) (show (12 : Nat) ∉ [0] by decide) (ri_val g.toSt0 (r_frz (r_call g F__law_bad (by decide) rfl (r_cons (r_varA 1 rfl (by first | exact .inl rfl | exact .inr (.inl rfl) | exact .inr (.inr rfl))) (r_cons (r_varA 4 rfl (by first | exact .inl rfl | exact .inr (.inl rfl) | exact .inr (.inr rfl))) r_nil))))) (rg_nm g.toSt0 12 rfl (by first | exact .inl rfl | exact .inr rfl)) (rs_one (rs_if (rt_not (rt_bl (r_call g F__law_refused (by decide) rfl (r_cons (r_varA 8 rfl (by first | exact .inl rfl | exact .inr (.inl rfl) | exact .inr (.inr rfl))) (r_cons (r_varA 12 rfl (by first | exact .inl rfl | exact .inr (.inl rfl) | exact .inr (.inr rfl))) r_nil))))) (rs_one (rs_ret r_bl)) rs_nil)))
  (rs_one (rs_ret (r_call g F__law_is_told (by decide) rfl (r_cons (r_frz (r_call g F_instances (by decide) rfl (r_cons (r_varA 8 rfl (by first | exact .inl rfl | exact .inr (.inl rfl) | exact .inr (.inr rfl))) (r_cons (r_varA 10 rfl (by first | exact .inl rfl | exact .inr (.inl rfl) | exact .inr (.inr rfl))) r_nil)))) (r_cons (r_varA 9 rfl (by first | exact .inl rfl | exact .inr (.inl rfl) | exact .inr (.inr rfl))) r_nil))))))))))))))))))))
theorem all_mk {P : Program} {w : World} {K : PySem.W.Frag} {h : Heap} {mg : Str → Option Value} {fa : Addr} (X : K.In h) (G : h.Ns mainGlobals mg) (hfa : mg "law" = some (.ref fa))
    {tFIGURES : Tok} {tGREAT : Tok} {tLETTERS : Tok} {tMOST_DEMANDS : Tok} {tMOST_FACTOR : Tok} {tMOST_HOURS : Tok} {tMOST_RIGHT : Tok} {tMOST_SIGNS : Tok} {tMOST_SIZE : Tok} {tMOST_TABLES : Tok} {tMOST_TERMS : Tok} {tSMALL : Tok} {tWHOLE : Tok} {xNoFolk : Addr} {yBook : Addr} {f0 : Addr} {od0 an0 : Option Addr} {sl0 : Array (Option Value)} {oc0 kV0 dc0 pm0 cd0 ct0 : Value} {f1 : Addr} {od1 an1 : Option Addr} {sl1 : Array (Option Value)} {oc1 kV1 dc1 pm1 cd1 ct1 : Value} {f2 : Addr} {od2 an2 : Option Addr} {sl2 : Array (Option Value)} {oc2 kV2 dc2 pm2 cd2 ct2 : Value} {f3 : Addr} {od3 an3 : Option Addr} {sl3 : Array (Option Value)} {oc3 kV3 dc3 pm3 cd3 ct3 : Value} {f4 : Addr} {od4 an4 : Option Addr} {sl4 : Array (Option Value)} {oc4 kV4 dc4 pm4 cd4 ct4 : Value} {f5 : Addr} {od5 an5 : Option Addr} {sl5 : Array (Option Value)} {oc5 kV5 dc5 pm5 cd5 ct5 : Value} {f6 : Addr} {od6 an6 : Option Addr} {sl6 : Array (Option Value)} {oc6 kV6 dc6 pm6 cd6 ct6 : Value} {f7 : Addr} {od7 an7 : Option Addr} {sl7 : Array (Option Value)} {oc7 kV7 dc7 pm7 cd7 ct7 : Value} {f8 : Addr} {od8 an8 : Option Addr} {sl8 : Array (Option Value)} {oc8 kV8 dc8 pm8 cd8 ct8 : Value} {f9 : Addr} {od9 an9 : Option Addr} {sl9 : Array (Option Value)} {oc9 kV9 dc9 pm9 cd9 ct9 : Value} {f10 : Addr} {od10 an10 : Option Addr} {sl10 : Array (Option Value)} {oc10 kV10 dc10 pm10 cd10 ct10 : Value} {f11 : Addr} {od11 an11 : Option Addr} {sl11 : Array (Option Value)} {oc11 kV11 dc11 pm11 cd11 ct11 : Value} {f12 : Addr} {od12 an12 : Option Addr} {sl12 : Array (Option Value)} {oc12 kV12 dc12 pm12 cd12 ct12 : Value} {f13 : Addr} {od13 an13 : Option Addr} {sl13 : Array (Option Value)} {oc13 kV13 dc13 pm13 cd13 ct13 : Value} {f14 : Addr} {od14 an14 : Option Addr} {sl14 : Array (Option Value)} {oc14 kV14 dc14 pm14 cd14 ct14 : Value} {f15 : Addr} {od15 an15 : Option Addr} {sl15 : Array (Option Value)} {oc15 kV15 dc15 pm15 cd15 ct15 : Value} {f16 : Addr} {od16 an16 : Option Addr} {sl16 : Array (Option Value)} {oc16 kV16 dc16 pm16 cd16 ct16 : Value} {f17 : Addr} {od17 an17 : Option Addr} {sl17 : Array (Option Value)} {oc17 kV17 dc17 pm17 cd17 ct17 : Value} {f18 : Addr} {od18 an18 : Option Addr} {sl18 : Array (Option Value)} {oc18 kV18 dc18 pm18 cd18 ct18 : Value} {f19 : Addr} {od19 an19 : Option Addr} {sl19 : Array (Option Value)} {oc19 kV19 dc19 pm19 cd19 ct19 : Value} {f20 : Addr} {od20 an20 : Option Addr} {sl20 : Array (Option Value)} {oc20 kV20 dc20 pm20 cd20 ct20 : Value} {f21 : Addr} {od21 an21 : Option Addr} {sl21 : Array (Option Value)} {oc21 kV21 dc21 pm21 cd21 ct21 : Value} {f22 : Addr} {od22 an22 : Option Addr} {sl22 : Array (Option Value)} {oc22 kV22 dc22 pm22 cd22 ct22 : Value} {f23 : Addr} {od23 an23 : Option Addr} {sl23 : Array (Option Value)} {oc23 kV23 dc23 pm23 cd23 ct23 : Value} {f24 : Addr} {od24 an24 : Option Addr} {sl24 : Array (Option Value)} {oc24 kV24 dc24 pm24 cd24 ct24 : Value} {f25 : Addr} {od25 an25 : Option Addr} {sl25 : Array (Option Value)} {oc25 kV25 dc25 pm25 cd25 ct25 : Value} {f26 : Addr} {od26 an26 : Option Addr} {sl26 : Array (Option Value)} {oc26 kV26 dc26 pm26 cd26 ct26 : Value} {f27 : Addr} {od27 an27 : Option Addr} {sl27 : Array (Option Value)} {oc27 kV27 dc27 pm27 cd27 ct27 : Value} {f28 : Addr} {od28 an28 : Option Addr} {sl28 : Array (Option Value)} {oc28 kV28 dc28 pm28 cd28 ct28 : Value} {f29 : Addr} {od29 an29 : Option Addr} {sl29 : Array (Option Value)} {oc29 kV29 dc29 pm29 cd29 ct29 : Value} {f30 : Addr} {od30 an30 : Option Addr} {sl30 : Array (Option Value)} {oc30 kV30 dc30 pm30 cd30 ct30 : Value} {f31 : Addr} {od31 an31 : Option Addr} {sl31 : Array (Option Value)} {oc31 kV31 dc31 pm31 cd31 ct31 : Value} {f32 : Addr} {od32 an32 : Option Addr} {sl32 : Array (Option Value)} {oc32 kV32 dc32 pm32 cd32 ct32 : Value} {f33 : Addr} {od33 an33 : Option Addr} {sl33 : Array (Option Value)} {oc33 kV33 dc33 pm33 cd33 ct33 : Value} {f34 : Addr} {od34 an34 : Option Addr} {sl34 : Array (Option Value)} {oc34 kV34 dc34 pm34 cd34 ct34 : Value}
    (n_all : PySem.W.nsIn K mainGlobals "all" = some none)
    (n_bool : PySem.W.nsIn K mainGlobals "bool" = some none)
    (n_dict : PySem.W.nsIn K mainGlobals "dict" = some none)
    (n_enumerate : PySem.W.nsIn K mainGlobals "enumerate" = some none)
    (n_int : PySem.W.nsIn K mainGlobals "int" = some none)
    (n_isinstance : PySem.W.nsIn K mainGlobals "isinstance" = some none)
    (n_len : PySem.W.nsIn K mainGlobals "len" = some none)
    (n_list : PySem.W.nsIn K mainGlobals "list" = some none)
    (n_range : PySem.W.nsIn K mainGlobals "range" = some none)
    (n_sorted : PySem.W.nsIn K mainGlobals "sorted" = some none)
    (n_str : PySem.W.nsIn K mainGlobals "str" = some none)
    (n_tuple : PySem.W.nsIn K mainGlobals "tuple" = some none)
    (c_FIGURES : PySem.W.nsIn K mainGlobals "FIGURES" = some (some (.str "0123456789" tFIGURES)))
    (c_GREAT : PySem.W.nsIn K mainGlobals "GREAT" = some (some (.str "ABCDEFGHIJKLMNOPQRSTUVWXYZ" tGREAT)))
    (c_LETTERS : PySem.W.nsIn K mainGlobals "LETTERS" = some (some (.str "abcd" tLETTERS)))
    (c_MOST_DEMANDS : PySem.W.nsIn K mainGlobals "MOST_DEMANDS" = some (some (.int 6 tMOST_DEMANDS)))
    (c_MOST_FACTOR : PySem.W.nsIn K mainGlobals "MOST_FACTOR" = some (some (.int 99 tMOST_FACTOR)))
    (c_MOST_HOURS : PySem.W.nsIn K mainGlobals "MOST_HOURS" = some (some (.int 1000 tMOST_HOURS)))
    (c_MOST_RIGHT : PySem.W.nsIn K mainGlobals "MOST_RIGHT" = some (some (.int 999 tMOST_RIGHT)))
    (c_MOST_SIGNS : PySem.W.nsIn K mainGlobals "MOST_SIGNS" = some (some (.int 8 tMOST_SIGNS)))
    (c_MOST_SIZE : PySem.W.nsIn K mainGlobals "MOST_SIZE" = some (some (.int 3 tMOST_SIZE)))
    (c_MOST_TABLES : PySem.W.nsIn K mainGlobals "MOST_TABLES" = some (some (.int 4 tMOST_TABLES)))
    (c_MOST_TERMS : PySem.W.nsIn K mainGlobals "MOST_TERMS" = some (some (.int 8 tMOST_TERMS)))
    (c_SMALL : PySem.W.nsIn K mainGlobals "SMALL" = some (some (.str "abcdefghijklmnopqrstuvwxyz" tSMALL)))
    (c_WHOLE : PySem.W.nsIn K mainGlobals "WHOLE" = some (some (.int 0 tWHOLE)))
    (gNoFolk : PySem.W.nsIn K mainGlobals "NoFolk" = some (some (.ref xNoFolk)))
    (qNoFolk : PySem.W.excIn K xNoFolk [.type "ValueError", .type "Exception", .type "BaseException", .type "object"] "ValueError.__new__" = true)
    (kNoFolk : PySem.W.keepIn K (.ref xNoFolk) = true)
    (bNoFolk : PySem.W.subIn K (.ref xNoFolk) (.type "BaseException") = some true)
    (tNoFolk : PySem.W.typeIn K (.ref xNoFolk) = some (.type "type"))
    (iNoFolk : PySem.W.isClsIn K xNoFolk = true)
    (sNoFolk_NoFolk : PySem.W.subIn K (.ref xNoFolk) (.ref xNoFolk) = some true)
    (aBook : PySem.W.nsIn K mainGlobals "Book" = some (some (.ref yBook)))
    (pgBook : PySem.W.plainGet K yBook Str.empty = true)
    (hdBook : PySem.W.hasDictIn K yBook = true)
    (poBook : PySem.W.plainOver K yBook = true)
    (saBook : PySem.W.findIn K (.ref yBook) "__setattr__" = some (some (.builtin "object.__setattr__")))
    (naBook_demands : PySem.W.findIn K (.ref yBook) "demands" = some none)
    (naBook_tables : PySem.W.findIn K (.ref yBook) "tables" = some none)
    (naBook_world : PySem.W.findIn K (.ref yBook) "world" = some none)
    (a0 : PySem.W.nsIn K mainGlobals "_law_deck" = some (some (.ref f0)))
    (l0 : K.lookup f0 = some ⟨oc0, od0, .func (PySem.W.fnOf "_law_deck" "_law_deck" (defArgs (top 41)) (defBody (top 41)) (defScope (top 41)) .none kV0 dc0 pm0 an0 cd0 ct0), sl0⟩)
    (c0 : PySem.W.codeIn K cd0 "_law_deck" = true)
    (k0 : PySem.W.keepIn K (.ref f0) = true)
    (a1 : PySem.W.nsIn K mainGlobals "_law_fold" = some (some (.ref f1)))
    (l1 : K.lookup f1 = some ⟨oc1, od1, .func (PySem.W.fnOf "_law_fold" "_law_fold" (defArgs (top 43)) (defBody (top 43)) (defScope (top 43)) .none kV1 dc1 pm1 an1 cd1 ct1), sl1⟩)
    (c1 : PySem.W.codeIn K cd1 "_law_fold" = true)
    (k1 : PySem.W.keepIn K (.ref f1) = true)
    (a2 : PySem.W.nsIn K mainGlobals "_law_pick" = some (some (.ref f2)))
    (l2 : K.lookup f2 = some ⟨oc2, od2, .func (PySem.W.fnOf "_law_pick" "_law_pick" (defArgs (top 42)) (defBody (top 42)) (defScope (top 42)) .none kV2 dc2 pm2 an2 cd2 ct2), sl2⟩)
    (c2 : PySem.W.codeIn K cd2 "_law_pick" = true)
    (k2 : PySem.W.keepIn K (.ref f2) = true)
    (a3 : PySem.W.nsIn K mainGlobals "_law_tables" = some (some (.ref f3)))
    (l3 : K.lookup f3 = some ⟨oc3, od3, .func (PySem.W.fnOf "_law_tables" "_law_tables" (defArgs (top 44)) (defBody (top 44)) (defScope (top 44)) .none kV3 dc3 pm3 an3 cd3 ct3), sl3⟩)
    (c3 : PySem.W.codeIn K cd3 "_law_tables" = true)
    (k3 : PySem.W.keepIn K (.ref f3) = true)
    (a4 : PySem.W.nsIn K mainGlobals "_law_name" = some (some (.ref f4)))
    (l4 : K.lookup f4 = some ⟨oc4, od4, .func (PySem.W.fnOf "_law_name" "_law_name" (defArgs (top 47)) (defBody (top 47)) (defScope (top 47)) .none kV4 dc4 pm4 an4 cd4 ct4), sl4⟩)
    (c4 : PySem.W.codeIn K cd4 "_law_name" = true)
    (k4 : PySem.W.keepIn K (.ref f4) = true)
    (a5 : PySem.W.nsIn K mainGlobals "_law_folk" = some (some (.ref f5)))
    (l5 : K.lookup f5 = some ⟨oc5, od5, .func (PySem.W.fnOf "_law_folk" "_law_folk" (defArgs (top 48)) (defBody (top 48)) (defScope (top 48)) .none kV5 dc5 pm5 an5 cd5 ct5), sl5⟩)
    (c5 : PySem.W.codeIn K cd5 "_law_folk" = true)
    (k5 : PySem.W.keepIn K (.ref f5) = true)
    (a6 : PySem.W.nsIn K mainGlobals "is_integer" = some (some (.ref f6)))
    (l6 : K.lookup f6 = some ⟨oc6, od6, .func (PySem.W.fnOf "is_integer" "is_integer" (defArgs (top 9)) (defBody (top 9)) (defScope (top 9)) .none kV6 dc6 pm6 an6 cd6 ct6), sl6⟩)
    (c6 : PySem.W.codeIn K cd6 "is_integer" = true)
    (k6 : PySem.W.keepIn K (.ref f6) = true)
    (a7 : PySem.W.nsIn K mainGlobals "is_within" = some (some (.ref f7)))
    (l7 : K.lookup f7 = some ⟨oc7, od7, .func (PySem.W.fnOf "is_within" "is_within" (defArgs (top 10)) (defBody (top 10)) (defScope (top 10)) .none kV7 dc7 pm7 an7 cd7 ct7), sl7⟩)
    (c7 : PySem.W.codeIn K cd7 "is_within" = true)
    (k7 : PySem.W.keepIn K (.ref f7) = true)
    (a8 : PySem.W.nsIn K mainGlobals "is_world" = some (some (.ref f8)))
    (l8 : K.lookup f8 = some ⟨oc8, od8, .func (PySem.W.fnOf "is_world" "is_world" (defArgs (top 22)) (defBody (top 22)) (defScope (top 22)) .none kV8 dc8 pm8 an8 cd8 ct8), sl8⟩)
    (c8 : PySem.W.codeIn K cd8 "is_world" = true)
    (k8 : PySem.W.keepIn K (.ref f8) = true)
    (a9 : PySem.W.nsIn K mainGlobals "are_unlike" = some (some (.ref f9)))
    (l9 : K.lookup f9 = some ⟨oc9, od9, .func (PySem.W.fnOf "are_unlike" "are_unlike" (defArgs (top 18)) (defBody (top 18)) (defScope (top 18)) .none kV9 dc9 pm9 an9 cd9 ct9), sl9⟩)
    (c9 : PySem.W.codeIn K cd9 "are_unlike" = true)
    (k9 : PySem.W.keepIn K (.ref f9) = true)
    (a10 : PySem.W.nsIn K mainGlobals "is_pair" = some (some (.ref f10)))
    (l10 : K.lookup f10 = some ⟨oc10, od10, .func (PySem.W.fnOf "is_pair" "is_pair" (defArgs (top 12)) (defBody (top 12)) (defScope (top 12)) .none kV10 dc10 pm10 an10 cd10 ct10), sl10⟩)
    (c10 : PySem.W.codeIn K cd10 "is_pair" = true)
    (k10 : PySem.W.keepIn K (.ref f10) = true)
    (a11 : PySem.W.nsIn K mainGlobals "is_of" = some (some (.ref f11)))
    (l11 : K.lookup f11 = some ⟨oc11, od11, .func (PySem.W.fnOf "is_of" "is_of" (defArgs (top 13)) (defBody (top 13)) (defScope (top 13)) .none kV11 dc11 pm11 an11 cd11 ct11), sl11⟩)
    (c11 : PySem.W.codeIn K cd11 "is_of" = true)
    (k11 : PySem.W.keepIn K (.ref f11) = true)
    (a12 : PySem.W.nsIn K mainGlobals "is_label" = some (some (.ref f12)))
    (l12 : K.lookup f12 = some ⟨oc12, od12, .func (PySem.W.fnOf "is_label" "is_label" (defArgs (top 14)) (defBody (top 14)) (defScope (top 14)) .none kV12 dc12 pm12 an12 cd12 ct12), sl12⟩)
    (c12 : PySem.W.codeIn K cd12 "is_label" = true)
    (k12 : PySem.W.keepIn K (.ref f12) = true)
    (a13 : PySem.W.nsIn K mainGlobals "is_table" = some (some (.ref f13)))
    (l13 : K.lookup f13 = some ⟨oc13, od13, .func (PySem.W.fnOf "is_table" "is_table" (defArgs (top 31)) (defBody (top 31)) (defScope (top 31)) .none kV13 dc13 pm13 an13 cd13 ct13), sl13⟩)
    (c13 : PySem.W.codeIn K cd13 "is_table" = true)
    (k13 : PySem.W.keepIn K (.ref f13) = true)
    (a14 : PySem.W.nsIn K mainGlobals "are_tables" = some (some (.ref f14)))
    (l14 : K.lookup f14 = some ⟨oc14, od14, .func (PySem.W.fnOf "are_tables" "are_tables" (defArgs (top 32)) (defBody (top 32)) (defScope (top 32)) .none kV14 dc14 pm14 an14 cd14 ct14), sl14⟩)
    (c14 : PySem.W.codeIn K cd14 "are_tables" = true)
    (k14 : PySem.W.keepIn K (.ref f14) = true)
    (a15 : PySem.W.nsIn K mainGlobals "is_term" = some (some (.ref f15)))
    (l15 : K.lookup f15 = some ⟨oc15, od15, .func (PySem.W.fnOf "is_term" "is_term" (defArgs (top 33)) (defBody (top 33)) (defScope (top 33)) .none kV15 dc15 pm15 an15 cd15 ct15), sl15⟩)
    (c15 : PySem.W.codeIn K cd15 "is_term" = true)
    (k15 : PySem.W.keepIn K (.ref f15) = true)
    (a16 : PySem.W.nsIn K mainGlobals "is_demand" = some (some (.ref f16)))
    (l16 : K.lookup f16 = some ⟨oc16, od16, .func (PySem.W.fnOf "is_demand" "is_demand" (defArgs (top 34)) (defBody (top 34)) (defScope (top 34)) .none kV16 dc16 pm16 an16 cd16 ct16), sl16⟩)
    (c16 : PySem.W.codeIn K cd16 "is_demand" = true)
    (k16 : PySem.W.keepIn K (.ref f16) = true)
    (a17 : PySem.W.findIn K (.ref yBook) "__init__" = some (some (.ref f17)))
    (i17 : PySem.W.isFn K (.ref f17) = true)
    (mkBook : PySem.W.makesIn K yBook = true)
    (kcBook : PySem.W.keepIn K (.ref yBook) = true)
    (l17 : K.lookup f17 = some ⟨oc17, od17, .func (PySem.W.fnOf "__init__" "Book.__init__" (defArgs (inClass (top 35) 0)) (defBody (inClass (top 35) 0)) (defScope (inClass (top 35) 0)) .none kV17 dc17 pm17 an17 cd17 ct17), sl17⟩)
    (c17 : PySem.W.codeIn K cd17 "Book.__init__" = true)
    (k17 : PySem.W.keepIn K (.ref f17) = true)
    (a18 : PySem.W.nsIn K mainGlobals "_law_rows" = some (some (.ref f18)))
    (l18 : K.lookup f18 = some ⟨oc18, od18, .func (PySem.W.fnOf "_law_rows" "_law_rows" (defArgs (top 50)) (defBody (top 50)) (defScope (top 50)) .none kV18 dc18 pm18 an18 cd18 ct18), sl18⟩)
    (c18 : PySem.W.codeIn K cd18 "_law_rows" = true)
    (k18 : PySem.W.keepIn K (.ref f18) = true)
    (a19 : PySem.W.nsIn K mainGlobals "_law_letters" = some (some (.ref f19)))
    (l19 : K.lookup f19 = some ⟨oc19, od19, .func (PySem.W.fnOf "_law_letters" "_law_letters" (defArgs (top 49)) (defBody (top 49)) (defScope (top 49)) .none kV19 dc19 pm19 an19 cd19 ct19), sl19⟩)
    (c19 : PySem.W.codeIn K cd19 "_law_letters" = true)
    (k19 : PySem.W.keepIn K (.ref f19) = true)
    (a20 : PySem.W.nsIn K mainGlobals "_law_due" = some (some (.ref f20)))
    (l20 : K.lookup f20 = some ⟨oc20, od20, .func (PySem.W.fnOf "_law_due" "_law_due" (defArgs (top 51)) (defBody (top 51)) (defScope (top 51)) .none kV20 dc20 pm20 an20 cd20 ct20), sl20⟩)
    (c20 : PySem.W.codeIn K cd20 "_law_due" = true)
    (k20 : PySem.W.keepIn K (.ref f20) = true)
    (a21 : PySem.W.nsIn K mainGlobals "arrangements" = some (some (.ref f21)))
    (l21 : K.lookup f21 = some ⟨oc21, od21, .func (PySem.W.fnOf "arrangements" "arrangements" (defArgs (top 37)) (defBody (top 37)) (defScope (top 37)) .none kV21 dc21 pm21 an21 cd21 ct21), sl21⟩)
    (c21 : PySem.W.codeIn K cd21 "arrangements" = true)
    (k21 : PySem.W.keepIn K (.ref f21) = true)
    (a22 : PySem.W.nsIn K mainGlobals "letters_in" = some (some (.ref f22)))
    (l22 : K.lookup f22 = some ⟨oc22, od22, .func (PySem.W.fnOf "letters_in" "letters_in" (defArgs (top 36)) (defBody (top 36)) (defScope (top 36)) .none kV22 dc22 pm22 an22 cd22 ct22), sl22⟩)
    (c22 : PySem.W.codeIn K cd22 "letters_in" = true)
    (k22 : PySem.W.keepIn K (.ref f22) = true)
    (a23 : PySem.W.nsIn K mainGlobals "instances_of" = some (some (.ref f23)))
    (l23 : K.lookup f23 = some ⟨oc23, od23, .func (PySem.W.fnOf "instances_of" "instances_of" (defArgs (top 38)) (defBody (top 38)) (defScope (top 38)) .none kV23 dc23 pm23 an23 cd23 ct23), sl23⟩)
    (c23 : PySem.W.codeIn K cd23 "instances_of" = true)
    (k23 : PySem.W.keepIn K (.ref f23) = true)
    (a24 : PySem.W.nsIn K mainGlobals "is_listed" = some (some (.ref f24)))
    (l24 : K.lookup f24 = some ⟨oc24, od24, .func (PySem.W.fnOf "is_listed" "is_listed" (defArgs (top 11)) (defBody (top 11)) (defScope (top 11)) .none kV24 dc24 pm24 an24 cd24 ct24), sl24⟩)
    (c24 : PySem.W.codeIn K cd24 "is_listed" = true)
    (k24 : PySem.W.keepIn K (.ref f24) = true)
    (a25 : PySem.W.nsIn K mainGlobals "is_name" = some (some (.ref f25)))
    (l25 : K.lookup f25 = some ⟨oc25, od25, .func (PySem.W.fnOf "is_name" "is_name" (defArgs (top 15)) (defBody (top 15)) (defScope (top 15)) .none kV25 dc25 pm25 an25 cd25 ct25), sl25⟩)
    (c25 : PySem.W.codeIn K cd25 "is_name" = true)
    (k25 : PySem.W.keepIn K (.ref f25) = true)
    (a26 : PySem.W.nsIn K mainGlobals "is_comer" = some (some (.ref f26)))
    (l26 : K.lookup f26 = some ⟨oc26, od26, .func (PySem.W.fnOf "is_comer" "is_comer" (defArgs (top 16)) (defBody (top 16)) (defScope (top 16)) .none kV26 dc26 pm26 an26 cd26 ct26), sl26⟩)
    (c26 : PySem.W.codeIn K cd26 "is_comer" = true)
    (k26 : PySem.W.keepIn K (.ref f26) = true)
    (a27 : PySem.W.nsIn K mainGlobals "is_folk" = some (some (.ref f27)))
    (l27 : K.lookup f27 = some ⟨oc27, od27, .func (PySem.W.fnOf "is_folk" "is_folk" (defArgs (top 17)) (defBody (top 17)) (defScope (top 17)) .none kV27 dc27 pm27 an27 cd27 ct27), sl27⟩)
    (c27 : PySem.W.codeIn K cd27 "is_folk" = true)
    (k27 : PySem.W.keepIn K (.ref f27) = true)
    (a28 : PySem.W.nsIn K mainGlobals "instances" = some (some (.ref f28)))
    (l28 : K.lookup f28 = some ⟨oc28, od28, .func (PySem.W.fnOf "instances" "instances" (defArgs (top 39)) (defBody (top 39)) (defScope (top 39)) .none kV28 dc28 pm28 an28 cd28 ct28), sl28⟩)
    (c28 : PySem.W.codeIn K cd28 "instances" = true)
    (k28 : PySem.W.keepIn K (.ref f28) = true)
    (a29 : PySem.W.nsIn K mainGlobals "_law_bad" = some (some (.ref f29)))
    (l29 : K.lookup f29 = some ⟨oc29, od29, .func (PySem.W.fnOf "_law_bad" "_law_bad" (defArgs (top 54)) (defBody (top 54)) (defScope (top 54)) .none kV29 dc29 pm29 an29 cd29 ct29), sl29⟩)
    (c29 : PySem.W.codeIn K cd29 "_law_bad" = true)
    (k29 : PySem.W.keepIn K (.ref f29) = true)
    (a30 : PySem.W.nsIn K mainGlobals "_law_is_told" = some (some (.ref f30)))
    (l30 : K.lookup f30 = some ⟨oc30, od30, .func (PySem.W.fnOf "_law_is_told" "_law_is_told" (defArgs (top 52)) (defBody (top 52)) (defScope (top 52)) .none kV30 dc30 pm30 an30 cd30 ct30), sl30⟩)
    (c30 : PySem.W.codeIn K cd30 "_law_is_told" = true)
    (k30 : PySem.W.keepIn K (.ref f30) = true)
    (a31 : PySem.W.nsIn K mainGlobals "_law_term" = some (some (.ref f31)))
    (l31 : K.lookup f31 = some ⟨oc31, od31, .func (PySem.W.fnOf "_law_term" "_law_term" (defArgs (top 45)) (defBody (top 45)) (defScope (top 45)) .none kV31 dc31 pm31 an31 cd31 ct31), sl31⟩)
    (c31 : PySem.W.codeIn K cd31 "_law_term" = true)
    (k31 : PySem.W.keepIn K (.ref f31) = true)
    (a32 : PySem.W.nsIn K mainGlobals "_law_demand" = some (some (.ref f32)))
    (l32 : K.lookup f32 = some ⟨oc32, od32, .func (PySem.W.fnOf "_law_demand" "_law_demand" (defArgs (top 46)) (defBody (top 46)) (defScope (top 46)) .none kV32 dc32 pm32 an32 cd32 ct32), sl32⟩)
    (c32 : PySem.W.codeIn K cd32 "_law_demand" = true)
    (k32 : PySem.W.keepIn K (.ref f32) = true)
    (a33 : PySem.W.nsIn K mainGlobals "_law_refused" = some (some (.ref f33)))
    (l33 : K.lookup f33 = some ⟨oc33, od33, .func (PySem.W.fnOf "_law_refused" "_law_refused" (defArgs (top 53)) (defBody (top 53)) (defScope (top 53)) .none kV33 dc33 pm33 an33 cd33 ct33), sl33⟩)
    (c33 : PySem.W.codeIn K cd33 "_law_refused" = true)
    (k33 : PySem.W.keepIn K (.ref f33) = true)
    (a34 : PySem.W.nsIn K mainGlobals "law" = some (some (.ref f34)))
    (l34 : K.lookup f34 = some ⟨oc34, od34, .func (PySem.W.fnOf "law" "law" (defArgs (top 55)) (defBody (top 55)) (defScope (top 55)) .none kV34 dc34 pm34 an34 cd34 ct34), sl34⟩)
    (c34 : PySem.W.codeIn K cd34 "law" = true)
    (k34 : PySem.W.keepIn K (.ref f34) = true) :
    ∃ fd : FuncData, (∀ (s : Shared) (v : Value), BindsTo s fd ⟨[v], []⟩ [("_law_script", v)]) ∧ ∀ base : Heap, K.In base → base.Ns mainGlobals mg → FnOk P w K mg base (L2.CX P w) 7 fa fd ["_law_script"] (spD ⟨P, w, K, mg⟩ g_law) := by
  have e := hfa.symm.trans (PySem.W.mg_of X G a34)
  cases e
  have T : Txt ⟨P, w, K, mg⟩ xNoFolk := ⟨PySem.W.mg_none_of X G n_all, PySem.W.mg_none_of X G n_bool, PySem.W.mg_none_of X G n_dict, PySem.W.mg_none_of X G n_enumerate, PySem.W.mg_none_of X G n_int, PySem.W.mg_none_of X G n_isinstance, PySem.W.mg_none_of X G n_len, PySem.W.mg_none_of X G n_list, PySem.W.mg_none_of X G n_range, PySem.W.mg_none_of X G n_sorted, PySem.W.mg_none_of X G n_str, PySem.W.mg_none_of X G n_tuple, ⟨_, PySem.W.mg_of X G c_FIGURES⟩, ⟨_, PySem.W.mg_of X G c_GREAT⟩, ⟨_, PySem.W.mg_of X G c_LETTERS⟩, ⟨_, PySem.W.mg_of X G c_MOST_DEMANDS⟩, ⟨_, PySem.W.mg_of X G c_MOST_FACTOR⟩, ⟨_, PySem.W.mg_of X G c_MOST_HOURS⟩, ⟨_, PySem.W.mg_of X G c_MOST_RIGHT⟩, ⟨_, PySem.W.mg_of X G c_MOST_SIGNS⟩, ⟨_, PySem.W.mg_of X G c_MOST_SIZE⟩, ⟨_, PySem.W.mg_of X G c_MOST_TABLES⟩, ⟨_, PySem.W.mg_of X G c_MOST_TERMS⟩, ⟨_, PySem.W.mg_of X G c_SMALL⟩, ⟨_, PySem.W.mg_of X G c_WHOLE⟩, ⟨_, PySem.W.mg_of X G gNoFolk, qNoFolk, kNoFolk, bNoFolk, tNoFolk⟩, PySem.W.mg_of X G gNoFolk, (fun n hn u hu => by
    simp only [yes_NoFolk, no_NoFolk, List.mem_cons, List.not_mem_nil, or_false] at hn
    rcases hn with rfl
    · cases (PySem.W.mg_of X G gNoFolk).symm.trans hu; exact exm_sub bNoFolk iNoFolk tNoFolk sNoFolk_NoFolk), (fun n hn => nomatch hn), (fun n hn => by
    simp only [cs_demands, List.mem_cons, List.not_mem_nil, or_false] at hn
    rcases hn with rfl
    · exact ⟨yBook, PySem.W.mg_of X G aBook, ⟨pgBook, hdBook, poBook, saBook⟩, naBook_demands⟩), (fun n hn => by
    simp only [cs_tables, List.mem_cons, List.not_mem_nil, or_false] at hn
    rcases hn with rfl
    · exact ⟨yBook, PySem.W.mg_of X G aBook, ⟨pgBook, hdBook, poBook, saBook⟩, naBook_tables⟩), (fun n hn => by
    simp only [cs_world, List.mem_cons, List.not_mem_nil, or_false] at hn
    rcases hn with rfl
    · exact ⟨yBook, PySem.W.mg_of X G aBook, ⟨pgBook, hdBook, poBook, saBook⟩, naBook_world⟩)⟩
  have H0 := fun_mk (st := top 41) l0 c0 k0
  have B0 := H0.binds (ps := ["_law_script"]) fun _ _ _ _ _ _ us hl => match us, hl with | [_], _ => rfl
  have F__law_deck : Fn ⟨P, w, K, mg⟩ 1 "_law_deck" g__law_deck := fn_def [0] m__law_deck H0 sc__law_deck B0 (PySem.W.mg_of X G a0) (fun base cdv A outer s H E vs W g => b__law_deck T  base _ cdv A outer s H E vs W g)
  have H1 := fun_mk (st := top 43) l1 c1 k1
  have B1 := H1.binds (ps := ["_law_script"]) fun _ _ _ _ _ _ us hl => match us, hl with | [_], _ => rfl
  have F__law_fold : Fn ⟨P, w, K, mg⟩ 1 "_law_fold" g__law_fold := fn_def [0] m__law_fold H1 sc__law_fold B1 (PySem.W.mg_of X G a1) (fun base cdv A outer s H E vs W g => b__law_fold T  base _ cdv A outer s H E vs W g)
  have H2 := fun_mk (st := top 42) l2 c2 k2
  have B2 := H2.binds (ps := ["_law_deck_here", "_law_many"]) fun _ _ _ _ _ _ us hl => match us, hl with | [_, _], _ => rfl
  have F__law_pick : Fn ⟨P, w, K, mg⟩ 1 "_law_pick" g__law_pick := fn_def [0, 1] m__law_pick H2 sc__law_pick B2 (PySem.W.mg_of X G a2) (fun base cdv A outer s H E vs W g => b__law_pick T  base _ cdv A outer s H E vs W g)
  have H3 := fun_mk (st := top 44) l3 c3 k3
  have B3 := H3.binds (ps := ["_law_deck_here", "_law_is_large"]) fun _ _ _ _ _ _ us hl => match us, hl with | [_, _], _ => rfl
  have F__law_tables : Fn ⟨P, w, K, mg⟩ 2 "_law_tables" g__law_tables := fn_def [0, 1] m__law_tables H3 sc__law_tables B3 (PySem.W.mg_of X G a3) (fun base cdv A outer s H E vs W g => b__law_tables T F__law_pick base _ cdv A outer s H E vs W g)
  have H4 := fun_mk (st := top 47) l4 c4 k4
  have B4 := H4.binds (ps := ["_law_deck_here"]) fun _ _ _ _ _ _ us hl => match us, hl with | [_], _ => rfl
  have F__law_name : Fn ⟨P, w, K, mg⟩ 2 "_law_name" g__law_name := fn_def [0] m__law_name H4 sc__law_name B4 (PySem.W.mg_of X G a4) (fun base cdv A outer s H E vs W g => b__law_name T F__law_pick base _ cdv A outer s H E vs W g)
  have H5 := fun_mk (st := top 48) l5 c5 k5
  have B5 := H5.binds (ps := ["_law_deck_here"]) fun _ _ _ _ _ _ us hl => match us, hl with | [_], _ => rfl
  have F__law_folk : Fn ⟨P, w, K, mg⟩ 3 "_law_folk" g__law_folk := fn_def [0] m__law_folk H5 sc__law_folk B5 (PySem.W.mg_of X G a5) (fun base cdv A outer s H E vs W g => b__law_folk T F__law_pick F__law_name base _ cdv A outer s H E vs W g)
  have H6 := fun_mk (st := top 9) l6 c6 k6
  have B6 := H6.binds (ps := ["thing"]) fun _ _ _ _ _ _ us hl => match us, hl with | [_], _ => rfl
  have F_is_integer : Fn ⟨P, w, K, mg⟩ 1 "is_integer" g_is_integer := fn_def [0] m_is_integer H6 sc_is_integer B6 (PySem.W.mg_of X G a6) (fun base cdv A outer s H E vs W g => b_is_integer T  base _ cdv A outer s H E vs W g)
  have H7 := fun_mk (st := top 10) l7 c7 k7
  have B7 := H7.binds (ps := ["thing", "least", "most"]) fun _ _ _ _ _ _ us hl => match us, hl with | [_, _, _], _ => rfl
  have F_is_within : Fn ⟨P, w, K, mg⟩ 2 "is_within" g_is_within := fn_def [0, 1, 2] m_is_within H7 sc_is_within B7 (PySem.W.mg_of X G a7) (fun base cdv A outer s H E vs W g => b_is_within T F_is_integer base _ cdv A outer s H E vs W g)
  have H8 := fun_mk (st := top 22) l8 c8 k8
  have B8 := H8.binds (ps := ["thing"]) fun _ _ _ _ _ _ us hl => match us, hl with | [_], _ => rfl
  have F_is_world : Fn ⟨P, w, K, mg⟩ 3 "is_world" g_is_world := fn_def [0] m_is_world H8 sc_is_world B8 (PySem.W.mg_of X G a8) (fun base cdv A outer s H E vs W g => b_is_world T F_is_within base _ cdv A outer s H E vs W g)
  have H9 := fun_mk (st := top 18) l9 c9 k9
  have B9 := H9.binds (ps := ["things"]) fun _ _ _ _ _ _ us hl => match us, hl with | [_], _ => rfl
  have F_are_unlike : Fn ⟨P, w, K, mg⟩ 1 "are_unlike" g_are_unlike := fn_def [0] m_are_unlike H9 sc_are_unlike B9 (PySem.W.mg_of X G a9) (fun base cdv A outer s H E vs W g => b_are_unlike T  base _ cdv A outer s H E vs W g)
  have H10 := fun_mk (st := top 12) l10 c10 k10
  have B10 := H10.binds (ps := ["thing"]) fun _ _ _ _ _ _ us hl => match us, hl with | [_], _ => rfl
  have F_is_pair : Fn ⟨P, w, K, mg⟩ 1 "is_pair" g_is_pair := fn_def [0] m_is_pair H10 sc_is_pair B10 (PySem.W.mg_of X G a10) (fun base cdv A outer s H E vs W g => b_is_pair T  base _ cdv A outer s H E vs W g)
  have H11 := fun_mk (st := top 13) l11 c11 k11
  have B11 := H11.binds (ps := ["thing", "signs"]) fun _ _ _ _ _ _ us hl => match us, hl with | [_, _], _ => rfl
  have F_is_of : Fn ⟨P, w, K, mg⟩ 1 "is_of" g_is_of := fn_def [0, 1] m_is_of H11 sc_is_of B11 (PySem.W.mg_of X G a11) (fun base cdv A outer s H E vs W g => b_is_of T  base _ cdv A outer s H E vs W g)
  have H12 := fun_mk (st := top 14) l12 c12 k12
  have B12 := H12.binds (ps := ["thing"]) fun _ _ _ _ _ _ us hl => match us, hl with | [_], _ => rfl
  have F_is_label : Fn ⟨P, w, K, mg⟩ 2 "is_label" g_is_label := fn_def [0] m_is_label H12 sc_is_label B12 (PySem.W.mg_of X G a12) (fun base cdv A outer s H E vs W g => b_is_label T F_is_of base _ cdv A outer s H E vs W g)
  have H13 := fun_mk (st := top 31) l13 c13 k13
  have B13 := H13.binds (ps := ["thing"]) fun _ _ _ _ _ _ us hl => match us, hl with | [_], _ => rfl
  have F_is_table : Fn ⟨P, w, K, mg⟩ 3 "is_table" g_is_table := fn_def [0] m_is_table H13 sc_is_table B13 (PySem.W.mg_of X G a13) (fun base cdv A outer s H E vs W g => b_is_table T F_is_pair F_is_label F_is_within base _ cdv A outer s H E vs W g)
  have H14 := fun_mk (st := top 32) l14 c14 k14
  have B14 := H14.binds (ps := ["thing"]) fun _ _ _ _ _ _ us hl => match us, hl with | [_], _ => rfl
  have F_are_tables : Fn ⟨P, w, K, mg⟩ 4 "are_tables" g_are_tables := fn_def [0] m_are_tables H14 sc_are_tables B14 (PySem.W.mg_of X G a14) (fun base cdv A outer s H E vs W g => b_are_tables T F_is_table F_are_unlike base _ cdv A outer s H E vs W g)
  have H15 := fun_mk (st := top 33) l15 c15 k15
  have B15 := H15.binds (ps := ["known", "thing"]) fun _ _ _ _ _ _ us hl => match us, hl with | [_, _], _ => rfl
  have F_is_term : Fn ⟨P, w, K, mg⟩ 3 "is_term" g_is_term := fn_def [0, 1] m_is_term H15 sc_is_term B15 (PySem.W.mg_of X G a15) (fun base cdv A outer s H E vs W g => b_is_term T F_is_within F_are_unlike base _ cdv A outer s H E vs W g)
  have H16 := fun_mk (st := top 34) l16 c16 k16
  have B16 := H16.binds (ps := ["known", "thing"]) fun _ _ _ _ _ _ us hl => match us, hl with | [_, _], _ => rfl
  have F_is_demand : Fn ⟨P, w, K, mg⟩ 4 "is_demand" g_is_demand := fn_def [0, 1] m_is_demand H16 sc_is_demand B16 (PySem.W.mg_of X G a16) (fun base cdv A outer s H E vs W g => b_is_demand T F_is_pair F_is_term F_is_within base _ cdv A outer s H E vs W g)
  have H17 := fun_mk (st := inClass (top 35) 0) l17 c17 k17
  have B17 := H17.binds (ps := ["self", "world", "tables", "demands"]) fun _ _ _ _ _ _ us hl => match us, hl with | [_, _, _, _], _ => rfl
  have M_Book : MkOk ⟨P, w, K, mg⟩ 5 "Book" g_Book__init := mk_def [0, 1, 2, 3] m_Book__init H17 sc_Book__init B17 (PySem.W.mg_of X G aBook) ⟨mkBook, a17, i17, kcBook⟩ (fun base cdv A outer s H E vs W g => b_Book__init T F_is_world F_are_tables F_is_demand base _ cdv A outer s H E vs W g)
  have H18 := fun_mk (st := top 50) l18 c18 k18
  have B18 := H18.binds (ps := ["_law_folk_here", "_law_many"]) fun _ _ _ _ _ _ us hl => match us, hl with | [_, _], _ => rfl
  have F__law_rows : Fn ⟨P, w, K, mg⟩ 1 "_law_rows" g__law_rows := fn_def [0, 1] m__law_rows H18 sc__law_rows B18 (PySem.W.mg_of X G a18) (fun base cdv A outer s H E vs W g => b__law_rows T  base _ cdv A outer s H E vs W g)
  have H19 := fun_mk (st := top 49) l19 c19 k19
  have B19 := H19.binds (ps := ["_law_demand_here"]) fun _ _ _ _ _ _ us hl => match us, hl with | [_], _ => rfl
  have F__law_letters : Fn ⟨P, w, K, mg⟩ 1 "_law_letters" g__law_letters := fn_def [0] m__law_letters H19 sc__law_letters B19 (PySem.W.mg_of X G a19) (fun base cdv A outer s H E vs W g => b__law_letters T  base _ cdv A outer s H E vs W g)
  have H20 := fun_mk (st := top 51) l20 c20 k20
  have B20 := H20.binds (ps := ["_law_demands", "_law_folk_here"]) fun _ _ _ _ _ _ us hl => match us, hl with | [_, _], _ => rfl
  have F__law_due : Fn ⟨P, w, K, mg⟩ 2 "_law_due" g__law_due := fn_def [0, 1] m__law_due H20 sc__law_due B20 (PySem.W.mg_of X G a20) (fun base cdv A outer s H E vs W g => b__law_due T F__law_rows F__law_letters base _ cdv A outer s H E vs W g)
  have H21 := fun_mk (st := top 37) l21 c21 k21
  have B21 := H21.binds (ps := ["folk", "many"]) fun _ _ _ _ _ _ us hl => match us, hl with | [_, _], _ => rfl
  have F_arrangements : Fn ⟨P, w, K, mg⟩ 1 "arrangements" g_arrangements := fn_def [0, 1] m_arrangements H21 sc_arrangements B21 (PySem.W.mg_of X G a21) (fun base cdv A outer s H E vs W g => b_arrangements T  base _ cdv A outer s H E vs W g)
  have H22 := fun_mk (st := top 36) l22 c22 k22
  have B22 := H22.binds (ps := ["demand"]) fun _ _ _ _ _ _ us hl => match us, hl with | [_], _ => rfl
  have F_letters_in : Fn ⟨P, w, K, mg⟩ 1 "letters_in" g_letters_in := fn_def [0] m_letters_in H22 sc_letters_in B22 (PySem.W.mg_of X G a22) (fun base cdv A outer s H E vs W g => b_letters_in T  base _ cdv A outer s H E vs W g)
  have H23 := fun_mk (st := top 38) l23 c23 k23
  have B23 := H23.binds (ps := ["book", "folk"]) fun _ _ _ _ _ _ us hl => match us, hl with | [_, _], _ => rfl
  have F_instances_of : Fn ⟨P, w, K, mg⟩ 2 "instances_of" g_instances_of := fn_def [0, 1] m_instances_of H23 sc_instances_of B23 (PySem.W.mg_of X G a23) (fun base cdv A outer s H E vs W g => b_instances_of T F_arrangements F_letters_in base _ cdv A outer s H E vs W g)
  have H24 := fun_mk (st := top 11) l24 c24 k24
  have B24 := H24.binds (ps := ["thing"]) fun _ _ _ _ _ _ us hl => match us, hl with | [_], _ => rfl
  have F_is_listed : Fn ⟨P, w, K, mg⟩ 1 "is_listed" g_is_listed := fn_def [0] m_is_listed H24 sc_is_listed B24 (PySem.W.mg_of X G a24) (fun base cdv A outer s H E vs W g => b_is_listed T  base _ cdv A outer s H E vs W g)
  have H25 := fun_mk (st := top 15) l25 c25 k25
  have B25 := H25.binds (ps := ["thing"]) fun _ _ _ _ _ _ us hl => match us, hl with | [_], _ => rfl
  have F_is_name : Fn ⟨P, w, K, mg⟩ 2 "is_name" g_is_name := fn_def [0] m_is_name H25 sc_is_name B25 (PySem.W.mg_of X G a25) (fun base cdv A outer s H E vs W g => b_is_name T F_is_of base _ cdv A outer s H E vs W g)
  have H26 := fun_mk (st := top 16) l26 c26 k26
  have B26 := H26.binds (ps := ["thing"]) fun _ _ _ _ _ _ us hl => match us, hl with | [_], _ => rfl
  have F_is_comer : Fn ⟨P, w, K, mg⟩ 1 "is_comer" g_is_comer := fn_def [0] m_is_comer H26 sc_is_comer B26 (PySem.W.mg_of X G a26) (fun base cdv A outer s H E vs W g => b_is_comer T  base _ cdv A outer s H E vs W g)
  have H27 := fun_mk (st := top 17) l27 c27 k27
  have B27 := H27.binds (ps := ["thing"]) fun _ _ _ _ _ _ us hl => match us, hl with | [_], _ => rfl
  have F_is_folk : Fn ⟨P, w, K, mg⟩ 3 "is_folk" g_is_folk := fn_def [0] m_is_folk H27 sc_is_folk B27 (PySem.W.mg_of X G a27) (fun base cdv A outer s H E vs W g => b_is_folk T F_is_name F_is_comer base _ cdv A outer s H E vs W g)
  have H28 := fun_mk (st := top 39) l28 c28 k28
  have B28 := H28.binds (ps := ["book", "folk"]) fun _ _ _ _ _ _ us hl => match us, hl with | [_, _], _ => rfl
  have F_instances : Fn ⟨P, w, K, mg⟩ 4 "instances" g_instances := fn_def [0, 1] m_instances H28 sc_instances B28 (PySem.W.mg_of X G a28) (fun base cdv A outer s H E vs W g => b_instances T F_is_listed F_is_folk F_are_unlike F_instances_of base _ cdv A outer s H E vs W g)
  have H29 := fun_mk (st := top 54) l29 c29 k29
  have B29 := H29.binds (ps := ["_law_deck_here", "_law_folk_here"]) fun _ _ _ _ _ _ us hl => match us, hl with | [_, _], _ => rfl
  have F__law_bad : Fn ⟨P, w, K, mg⟩ 2 "_law_bad" g__law_bad := fn_def [0, 1] m__law_bad H29 sc__law_bad B29 (PySem.W.mg_of X G a29) (fun base cdv A outer s H E vs W g => b__law_bad T F__law_pick base _ cdv A outer s H E vs W g)
  have H30 := fun_mk (st := top 52) l30 c30 k30
  have B30 := H30.binds (ps := ["_law_told", "_law_due_here"]) fun _ _ _ _ _ _ us hl => match us, hl with | [_, _], _ => rfl
  have F__law_is_told : Fn ⟨P, w, K, mg⟩ 1 "_law_is_told" g__law_is_told := fn_def [0, 1] m__law_is_told H30 sc__law_is_told B30 (PySem.W.mg_of X G a30) (fun base cdv A outer s H E vs W g => b__law_is_told T  base _ cdv A outer s H E vs W g)
  have H31 := fun_mk (st := top 45) l31 c31 k31
  have B31 := H31.binds (ps := ["_law_deck_here", "_law_tables_here"]) fun _ _ _ _ _ _ us hl => match us, hl with | [_, _], _ => rfl
  have F__law_term : Fn ⟨P, w, K, mg⟩ 2 "_law_term" g__law_term := fn_def [0, 1] m__law_term H31 sc__law_term B31 (PySem.W.mg_of X G a31) (fun base cdv A outer s H E vs W g => b__law_term T F__law_pick base _ cdv A outer s H E vs W g)
  have H32 := fun_mk (st := top 46) l32 c32 k32
  have B32 := H32.binds (ps := ["_law_deck_here", "_law_tables_here"]) fun _ _ _ _ _ _ us hl => match us, hl with | [_, _], _ => rfl
  have F__law_demand : Fn ⟨P, w, K, mg⟩ 3 "_law_demand" g__law_demand := fn_def [0, 1] m__law_demand H32 sc__law_demand B32 (PySem.W.mg_of X G a32) (fun base cdv A outer s H E vs W g => b__law_demand T F__law_pick F__law_term base _ cdv A outer s H E vs W g)
  have H33 := fun_mk (st := top 53) l33 c33 k33
  have B33 := H33.binds (ps := ["_law_book", "_law_thing"]) fun _ _ _ _ _ _ us hl => match us, hl with | [_, _], _ => rfl
  have F__law_refused : Fn ⟨P, w, K, mg⟩ 5 "_law_refused" g__law_refused := fn_def [0, 1] m__law_refused H33 sc__law_refused B33 (PySem.W.mg_of X G a33) (fun base cdv A outer s H E vs W g => b__law_refused T F_instances base _ cdv A outer s H E vs W g)
  have H34 := fun_mk (st := top 55) l34 c34 k34
  exact ⟨_, fun s v => .of_eq rfl, fun base _ _ => fn_ok [0] m_law H34 sc_law base (fun base cdv A outer s H E vs W g => b_law T F__law_deck F__law_fold F__law_tables F__law_folk F__law_pick F__law_demand F__law_letters M_Book F__law_due F_instances F__law_is_told F__law_bad F__law_refused base _ cdv A outer s H E vs W g)⟩
end Mi
open PySem PySem.W PyProof.Rows
set_option maxRecDepth 100000 in
set_option maxHeartbeats 0 in
theorem PySem.Challenge.cw_elderalike_k06_whole_instances_listed_holds : PySem.Challenge.rw_elderalike_k06_whole_instances_listed.Holds := by
  w_on; o_law; k_head; (case hw => w_witness2)
  k_fill
  refine Mi.law_walk (l := PySem.Challenge.rw_elderalike_k06_whole_instances_listed) (k := 7) (g := Mi.g_law) rfl rfl ⟨rfl, by decide, by decide⟩ (fun w h Y => PySem.W.kIn_of Y) ?F Mi.law_true
  case F =>
    intro w mg fa h KX G hmg
    refine' Mi.all_mk KX G hmg ?n_all ?n_bool ?n_dict ?n_enumerate ?n_int ?n_isinstance ?n_len ?n_list ?n_range ?n_sorted ?n_str ?n_tuple ?c_FIGURES ?c_GREAT ?c_LETTERS ?c_MOST_DEMANDS ?c_MOST_FACTOR ?c_MOST_HOURS ?c_MOST_RIGHT ?c_MOST_SIGNS ?c_MOST_SIZE ?c_MOST_TABLES ?c_MOST_TERMS ?c_SMALL ?c_WHOLE ?gNoFolk ?qNoFolk ?kNoFolk ?bNoFolk ?tNoFolk ?iNoFolk ?sNoFolk_NoFolk ?aBook ?pgBook ?hdBook ?poBook ?saBook ?naBook_demands ?naBook_tables ?naBook_world ?a0 ?l0 ?c0 ?k0 ?a1 ?l1 ?c1 ?k1 ?a2 ?l2 ?c2 ?k2 ?a3 ?l3 ?c3 ?k3 ?a4 ?l4 ?c4 ?k4 ?a5 ?l5 ?c5 ?k5 ?a6 ?l6 ?c6 ?k6 ?a7 ?l7 ?c7 ?k7 ?a8 ?l8 ?c8 ?k8 ?a9 ?l9 ?c9 ?k9 ?a10 ?l10 ?c10 ?k10 ?a11 ?l11 ?c11 ?k11 ?a12 ?l12 ?c12 ?k12 ?a13 ?l13 ?c13 ?k13 ?a14 ?l14 ?c14 ?k14 ?a15 ?l15 ?c15 ?k15 ?a16 ?l16 ?c16 ?k16 ?a17 ?i17 ?mkBook ?kcBook ?l17 ?c17 ?k17 ?a18 ?l18 ?c18 ?k18 ?a19 ?l19 ?c19 ?k19 ?a20 ?l20 ?c20 ?k20 ?a21 ?l21 ?c21 ?k21 ?a22 ?l22 ?c22 ?k22 ?a23 ?l23 ?c23 ?k23 ?a24 ?l24 ?c24 ?k24 ?a25 ?l25 ?c25 ?k25 ?a26 ?l26 ?c26 ?k26 ?a27 ?l27 ?c27 ?k27 ?a28 ?l28 ?c28 ?k28 ?a29 ?l29 ?c29 ?k29 ?a30 ?l30 ?c30 ?k30 ?a31 ?l31 ?c31 ?k31 ?a32 ?l32 ?c32 ?k32 ?a33 ?l33 ?c33 ?k33 ?a34 ?l34 ?c34 ?k34
    (case n_all => k_is); (case n_bool => k_is); (case n_dict => k_is); (case n_enumerate => k_is); (case n_int => k_is); (case n_isinstance => k_is); (case n_len => k_is); (case n_list => k_is); (case n_range => k_is); (case n_sorted => k_is); (case n_str => k_is); (case n_tuple => k_is); (case c_FIGURES => k_is); (case c_GREAT => k_is); (case c_LETTERS => k_is); (case c_MOST_DEMANDS => k_is); (case c_MOST_FACTOR => k_is); (case c_MOST_HOURS => k_is); (case c_MOST_RIGHT => k_is); (case c_MOST_SIGNS => k_is); (case c_MOST_SIZE => k_is); (case c_MOST_TABLES => k_is); (case c_MOST_TERMS => k_is); (case c_SMALL => k_is); (case c_WHOLE => k_is); (case gNoFolk => k_is); (case qNoFolk => k_exc); (case kNoFolk => k_is); (case bNoFolk => k_is); (case tNoFolk => k_is); (case iNoFolk => k_is); (case sNoFolk_NoFolk => first | rfl | k_is); (case aBook => k_is); (case pgBook => k_is); (case hdBook => k_is); (case poBook => k_is); (case saBook => k_is); (case naBook_demands => k_is); (case naBook_tables => k_is); (case naBook_world => k_is); (case a0 => k_is); (case l0 => k_is); (case c0 => k_is); (case k0 => k_is); (case a1 => k_is); (case l1 => k_is); (case c1 => k_is); (case k1 => k_is); (case a2 => k_is); (case l2 => k_is); (case c2 => k_is); (case k2 => k_is); (case a3 => k_is); (case l3 => k_is); (case c3 => k_is); (case k3 => k_is); (case a4 => k_is); (case l4 => k_is); (case c4 => k_is); (case k4 => k_is); (case a5 => k_is); (case l5 => k_is); (case c5 => k_is); (case k5 => k_is); (case a6 => k_is); (case l6 => k_is); (case c6 => k_is); (case k6 => k_is); (case a7 => k_is); (case l7 => k_is); (case c7 => k_is); (case k7 => k_is); (case a8 => k_is); (case l8 => k_is); (case c8 => k_is); (case k8 => k_is); (case a9 => k_is); (case l9 => k_is); (case c9 => k_is); (case k9 => k_is); (case a10 => k_is); (case l10 => k_is); (case c10 => k_is); (case k10 => k_is); (case a11 => k_is); (case l11 => k_is); (case c11 => k_is); (case k11 => k_is); (case a12 => k_is); (case l12 => k_is); (case c12 => k_is); (case k12 => k_is); (case a13 => k_is); (case l13 => k_is); (case c13 => k_is); (case k13 => k_is); (case a14 => k_is); (case l14 => k_is); (case c14 => k_is); (case k14 => k_is); (case a15 => k_is); (case l15 => k_is); (case c15 => k_is); (case k15 => k_is); (case a16 => k_is); (case l16 => k_is); (case c16 => k_is); (case k16 => k_is); (case a17 => k_is); (case i17 => k_is); (case mkBook => k_is); (case kcBook => k_is); (case l17 => k_is); (case c17 => k_is); (case k17 => k_is); (case a18 => k_is); (case l18 => k_is); (case c18 => k_is); (case k18 => k_is); (case a19 => k_is); (case l19 => k_is); (case c19 => k_is); (case k19 => k_is); (case a20 => k_is); (case l20 => k_is); (case c20 => k_is); (case k20 => k_is); (case a21 => k_is); (case l21 => k_is); (case c21 => k_is); (case k21 => k_is); (case a22 => k_is); (case l22 => k_is); (case c22 => k_is); (case k22 => k_is); (case a23 => k_is); (case l23 => k_is); (case c23 => k_is); (case k23 => k_is); (case a24 => k_is); (case l24 => k_is); (case c24 => k_is); (case k24 => k_is); (case a25 => k_is); (case l25 => k_is); (case c25 => k_is); (case k25 => k_is); (case a26 => k_is); (case l26 => k_is); (case c26 => k_is); (case k26 => k_is); (case a27 => k_is); (case l27 => k_is); (case c27 => k_is); (case k27 => k_is); (case a28 => k_is); (case l28 => k_is); (case c28 => k_is); (case k28 => k_is); (case a29 => k_is); (case l29 => k_is); (case c29 => k_is); (case k29 => k_is); (case a30 => k_is); (case l30 => k_is); (case c30 => k_is); (case k30 => k_is); (case a31 => k_is); (case l31 => k_is); (case c31 => k_is); (case k31 => k_is); (case a32 => k_is); (case l32 => k_is); (case c32 => k_is); (case k32 => k_is); (case a33 => k_is); (case l33 => k_is); (case c33 => k_is); (case k33 => k_is); (case a34 => k_is); (case l34 => k_is); (case c34 => k_is); (case k34 => k_is)
